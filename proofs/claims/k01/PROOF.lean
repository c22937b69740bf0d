import PyProof.Rows.All
import Wide.All
import OpenK.AllK
import Wide.FinOn
import HandS.ForMost
import HandS.ForExc
import HandS.CallSlots
import HandS.TupAny
import HandS.TupMul
import HandS.IsInst
import HandS.Deep
import HandS.Style
import HandS.Flow
import HandS.Comp
import HandS.Zip
import HandS.Ends
import HandS.SetFor
import HandS.OwnEq
import KE.RegKIsAll
import PyProof.InstNe
import PyProof.P3Eq
import PySem.Challenge.RW_twostandings_k01_whole_contents_and_answ
set_option Elab.async false
set_option linter.all false
set_option maxRecDepth 100000
set_option maxHeartbeats 4000000
namespace Tw
open PySem PySem.Spec PyProof.Rows L2

/-! ## values as data, with what may still be changed marked -/
inductive D where
  | non | bl (b : Bool) | int (i : Int) | str (x : Str) | ty (n : String) | cl (c : Nat)
  | scr (ns : List Int)
  | tup (xs : List D) | lst (m : Bool) (xs : List D)
  | obj (m : Bool) (c : Nat) (ns : List Str) (xs : List D)
  | dct (m : Bool) (ks : List Key) (xs : List D)

abbrev Env := List (Option D)

mutual
def D.frz : D → D
  | .non => .non | .bl b => .bl b | .int i => .int i | .str x => .str x | .ty n => .ty n | .cl c => .cl c | .scr ns => .scr ns
  | .tup xs => .tup (D.frzs xs)
  | .lst _ xs => .lst false (D.frzs xs)
  | .obj _ c ns xs => .obj false c ns (D.frzs xs)
  | .dct _ ks xs => .dct false ks (D.frzs xs)
def D.frzs : List D → List D
  | [] => []
  | d :: ds => D.frz d :: D.frzs ds
end
mutual
/-- nothing in it may still be changed -/
def D.ok : D → Bool
  | .non => true | .bl _ => true | .int _ => true | .str _ => true | .ty _ => true | .cl _ => true | .scr _ => true
  | .tup xs => D.oks xs
  | .lst m xs => !m && D.oks xs
  | .obj m _ _ xs => !m && D.oks xs
  | .dct m _ xs => !m && D.oks xs
def D.oks : List D → Bool
  | [] => true
  | d :: ds => D.ok d && D.oks ds
end
theorem D.oks_iff : ∀ {ds : List D}, D.oks ds = true ↔ ∀ d ∈ ds, D.ok d = true
  | [] => by simp [D.oks]
  | d :: ds => by simp [D.oks, D.oks_iff (ds := ds)]
theorem D.frzs_map : ∀ ds : List D, D.frzs ds = ds.map D.frz
  | [] => rfl
  | d :: ds => by simp [D.frzs, D.frzs_map ds]
mutual
theorem D.frz_ok : ∀ {d : D}, D.ok d = true → D.frz d = d
  | .non, _ => rfl | .bl _, _ => rfl | .int _, _ => rfl | .str _, _ => rfl | .ty _, _ => rfl | .cl _, _ => rfl | .scr _, _ => rfl
  | .tup xs, h => by rw [D.frz, D.frzs_ok (ds := xs) (by simpa [D.ok] using h)]
  | .lst m xs, h => by simp [D.ok] at h; rw [D.frz, D.frzs_ok (ds := xs) h.2, h.1]
  | .obj m _ _ xs, h => by simp [D.ok] at h; rw [D.frz, D.frzs_ok (ds := xs) h.2, h.1]
  | .dct m _ xs, h => by simp [D.ok] at h; rw [D.frz, D.frzs_ok (ds := xs) h.2, h.1]
theorem D.frzs_ok : ∀ {ds : List D}, D.oks ds = true → D.frzs ds = ds
  | [], _ => rfl
  | d :: ds, h => by simp [D.oks] at h; rw [D.frzs, D.frz_ok h.1, D.frzs_ok h.2]
end
mutual
theorem D.ok_frz : ∀ d : D, D.ok (D.frz d) = true
  | .non => rfl | .bl _ => rfl | .int _ => rfl | .str _ => rfl | .ty _ => rfl | .cl _ => rfl | .scr _ => rfl
  | .tup xs => by simp [D.frz, D.ok, D.oks_frzs xs]
  | .lst _ xs => by simp [D.frz, D.ok, D.oks_frzs xs]
  | .obj _ _ _ xs => by simp [D.frz, D.ok, D.oks_frzs xs]
  | .dct _ _ xs => by simp [D.frz, D.ok, D.oks_frzs xs]
theorem D.oks_frzs : ∀ ds : List D, D.oks (D.frzs ds) = true
  | [] => rfl
  | d :: ds => by simp [D.frzs, D.oks, D.ok_frz d, D.oks_frzs ds]
end

/-! ## how data lie in the heap; f: the places that may still be changed; M: all such of the whole stack -/
def Ow (m : Bool) (M : Addr → Prop) (a : Addr) (f g : List Addr) : Prop := (m = true ∧ M a ∧ f = a :: g) ∨ (m = false ∧ ¬ M a ∧ f = [] ∧ g = [])
def KTup (K : PySem.W.Frag) (a : Addr) (xs : List V) : Prop := ∃ (o : Obj) (its : Array Value) (n : Nat), K.lookup a = some o ∧ o.cls = .type "tuple" ∧ o.data = .seq its n ∧ its.size ≤ sizeLine ∧ Vals xs its.toList
def FzT (K : PySem.W.Frag) (M : Addr → Prop) (H : Hp) (a : Addr) (xs : List V) : Prop := (H a = some (.tup xs) ∧ ¬ M a) ∨ KTup K a xs
def FzS (K : PySem.W.Frag) (M : Addr → Prop) (H : Hp) (a : Addr) (xs : List V) : Prop := (Rd H a (.lst xs) ∧ ¬ M a) ∨ ∃ (o : Obj) (its : Array Value) (n : Nat), K.lookup a = some o ∧ o.cls = .type "list" ∧ o.dict = none ∧ o.data = .seq its n ∧ its.size ≤ sizeLine ∧ Vals xs its.toList
theorem FzS.sq {K : PySem.W.Frag} {M : Addr → Prop} {H : Hp} {a : Addr} {xs : List V} (h : FzS K M H a xs) : SqL K H a xs := h.elim (fun z => .inl z.1) .inr
theorem FzT.sq {K : PySem.W.Frag} {M : Addr → Prop} {H : Hp} {a : Addr} {xs : List V} (h : FzT K M H a xs) : SqT K H a xs := h.elim (fun z => .inl (.inl z.1)) .inr
mutual
def Dat (K : PySem.W.Frag) (cl : Nat → Addr) (M : Addr → Prop) (H : Hp) : D → V → List Addr → Prop
  | .non, v, f => v = .non ∧ f = []
  | .bl b, v, f => v = .bl b ∧ f = []
  | .int i, v, f => v = .int i ∧ f = []
  | .str x, v, f => v = .str x ∧ f = []
  | .ty n, v, f => v = .ty n ∧ f = []
  | .cl c, v, f => v = .ref (cl c) ∧ f = []
  | .scr ns, v, f => f = [] ∧ ∃ a, v = .ref a ∧ FzS K M H a (ns.map V.int)
  | .tup ds, v, f => ∃ a vs, v = .ref a ∧ FzT K M H a vs ∧ Dats K cl M H ds vs f
  | .lst m ds, v, f => ∃ a vs g, v = .ref a ∧ H a = some (.lst vs) ∧ Dats K cl M H ds vs g ∧ Ow m M a f g
  | .obj m c ns ds, v, f => ∃ a dx vs g, v = .ref a ∧ H a = some (.ins (cl c) dx (ns.zip vs)) ∧ ns.length = vs.length ∧ Dats K cl M H ds vs g ∧ Ow m M a f g
  | .dct m ks ds, v, f => ∃ a vs g, v = .ref a ∧ H a = some (.dK (ks.zip vs)) ∧ ks.length = vs.length ∧ Dats K cl M H ds vs g ∧ Ow m M a f g
def Dats (K : PySem.W.Frag) (cl : Nat → Addr) (M : Addr → Prop) (H : Hp) : List D → List V → List Addr → Prop
  | [], vs, f => vs = [] ∧ f = []
  | d :: ds, vs, f => ∃ v vs' f1 f2, vs = v :: vs' ∧ f = f1 ++ f2 ∧ Dat K cl M H d v f1 ∧ Dats K cl M H ds vs' f2
end
section
variable {K : PySem.W.Frag} {cl : Nat → Addr} {M M' : Addr → Prop} {H H' : Hp}
theorem Ow.tr {m : Bool} {a : Addr} {f g : List Addr} {o : HO} (w : Ow m M a f g) (ha : H a = some o) (hM : ∀ a, M' a → M a ∨ H a = none) (hf : ∀ a ∈ f, M' a) : Ow m M' a f g := by
  rcases w with ⟨e, h, e2⟩ | ⟨e, h, e2, e3⟩
  · exact .inl ⟨e, hf a (by rw [e2]; exact List.mem_cons_self), e2⟩
  · exact .inr ⟨e, (fun z => (hM a z).elim h (fun q => by rw [ha] at q; cases q)), e2, e3⟩
theorem Ow.sub {m : Bool} {a b : Addr} {f g : List Addr} (w : Ow m M a f g) (h : b ∈ g) : b ∈ f := by
  rcases w with ⟨_, _, e2⟩ | ⟨_, _, e2, e3⟩
  · rw [e2]; exact List.mem_cons_of_mem _ h
  · rw [e3] at h; cases h
theorem Ow.self {m : Bool} {a : Addr} {f g : List Addr} (w : Ow m M a f g) (h : M a) : a ∈ f := by
  rcases w with ⟨_, _, e2⟩ | ⟨_, n, _, _⟩
  · rw [e2]; exact List.mem_cons_self
  · exact absurd h n
theorem Ow.frz {m : Bool} {a : Addr} {f g : List Addr} {o : HO} (w : Ow m M a f g) (ha : H a = some o) (hM : ∀ a, M' a → (M a ∧ a ∉ f) ∨ H a = none) : Ow false M' a [] [] :=
  .inr ⟨rfl, (fun z => (hM a z).elim (fun q => q.2 (w.self q.1)) (fun q => by rw [ha] at q; cases q)), rfl, rfl⟩
mutual
theorem dat_tr : ∀ {d : D} {v : V} {f : List Addr}, Dat K cl M H d v f → (∀ a, M' a → M a ∨ H a = none) → (∀ a ∈ f, M' a) → (∀ a o, H a = some o → (M a → a ∈ f) → H' a = some o) → Dat K cl M' H' d v f
  | .non, _, _, h, _, _, _ => h
  | .bl _, _, _, h, _, _, _ => h
  | .int _, _, _, h, _, _, _ => h
  | .str _, _, _, h, _, _, _ => h
  | .ty _, _, _, h, _, _, _ => h
  | .cl _, _, _, h, _, _, _ => h
  | .scr ns, v, f, h, hM, hf, hH => by
    obtain ⟨e, a, e2, s⟩ := h
    refine ⟨e, a, e2, ?_⟩
    rcases s with ⟨s, n⟩ | s
    · have ha : ∃ o, H a = some o := s.elim (fun z => ⟨_, z⟩) fun ⟨o, z⟩ => ⟨_, z⟩
      obtain ⟨o, ha⟩ := ha
      refine .inl ⟨?_, fun z => (hM a z).elim n fun q => by rw [ha] at q; cases q⟩
      rcases s with s | ⟨o, s⟩
      · exact .inl (hH a _ s fun z => absurd z n)
      · exact .inr ⟨o, hH a _ s fun z => absurd z n⟩
    · exact .inr s
  | .tup ds, v, f, h, hM, hf, hH => by
    obtain ⟨a, vs, e, t, hd⟩ := h
    refine ⟨a, vs, e, ?_, dats_tr hd hM hf hH⟩
    rcases t with ⟨t, n⟩ | t
    · exact .inl ⟨hH a _ t fun z => absurd z n, fun z => (hM a z).elim n fun q => by rw [t] at q; cases q⟩
    · exact .inr t
  | .lst m ds, v, f, h, hM, hf, hH => by
    obtain ⟨a, vs, g, e, t, hd, w⟩ := h
    exact ⟨a, vs, g, e, hH a _ t w.self, dats_tr hd hM (fun b hb => hf b (w.sub hb)) (fun b o q z => hH b o q fun r => w.sub (z r)), w.tr t hM hf⟩
  | .obj m c ns ds, v, f, h, hM, hf, hH => by
    obtain ⟨a, dx, vs, g, e, t, l, hd, w⟩ := h
    exact ⟨a, dx, vs, g, e, hH a _ t w.self, l, dats_tr hd hM (fun b hb => hf b (w.sub hb)) (fun b o q z => hH b o q fun r => w.sub (z r)), w.tr t hM hf⟩
  | .dct m ks ds, v, f, h, hM, hf, hH => by
    obtain ⟨a, vs, g, e, t, l, hd, w⟩ := h
    exact ⟨a, vs, g, e, hH a _ t w.self, l, dats_tr hd hM (fun b hb => hf b (w.sub hb)) (fun b o q z => hH b o q fun r => w.sub (z r)), w.tr t hM hf⟩
theorem dats_tr : ∀ {ds : List D} {vs : List V} {f : List Addr}, Dats K cl M H ds vs f → (∀ a, M' a → M a ∨ H a = none) → (∀ a ∈ f, M' a) → (∀ a o, H a = some o → (M a → a ∈ f) → H' a = some o) → Dats K cl M' H' ds vs f
  | [], _, _, h, _, _, _ => h
  | d :: ds, vs, f, h, hM, hf, hH => by
    obtain ⟨v, vs', f1, f2, e1, e2, h1, h2⟩ := h
    subst e2
    exact ⟨v, vs', f1, f2, e1, rfl, dat_tr h1 hM (fun b hb => hf b (List.mem_append_left _ hb)) (fun b o q z => hH b o q fun r => List.mem_append_left _ (z r)),
      dats_tr h2 hM (fun b hb => hf b (List.mem_append_right _ hb)) (fun b o q z => hH b o q fun r => List.mem_append_right _ (z r))⟩
end
end
end Tw
namespace Tw
open PySem PySem.Spec PyProof.Rows L2
section
variable {K : PySem.W.Frag} {cl : Nat → Addr} {M M' : Addr → Prop} {H H' : Hp}
mutual
theorem dat_ok : ∀ {d : D} {v : V} {f : List Addr}, Dat K cl M H d v f → D.ok d = true → f = []
  | .non, _, _, h, _ => h.2 | .bl _, _, _, h, _ => h.2 | .int _, _, _, h, _ => h.2 | .str _, _, _, h, _ => h.2 | .ty _, _, _, h, _ => h.2 | .cl _, _, _, h, _ => h.2
  | .scr _, _, _, h, _ => h.1
  | .tup ds, _, _, h, e => by
    obtain ⟨_, _, _, _, hd⟩ := h
    exact dats_ok hd e
  | .lst m ds, _, _, h, e => by
    obtain ⟨_, _, _, _, _, _, w⟩ := h
    rcases w with ⟨q, _⟩ | ⟨_, _, q, _⟩
    · subst q; simp [D.ok] at e
    · exact q
  | .obj m _ _ ds, _, _, h, e => by
    obtain ⟨_, _, _, _, _, _, _, _, w⟩ := h
    rcases w with ⟨q, _⟩ | ⟨_, _, q, _⟩
    · subst q; simp [D.ok] at e
    · exact q
  | .dct m _ ds, _, _, h, e => by
    obtain ⟨_, _, _, _, _, _, _, w⟩ := h
    rcases w with ⟨q, _⟩ | ⟨_, _, q, _⟩
    · subst q; simp [D.ok] at e
    · exact q
theorem dats_ok : ∀ {ds : List D} {vs : List V} {f : List Addr}, Dats K cl M H ds vs f → D.oks ds = true → f = []
  | [], _, _, h, _ => h.2
  | d :: ds, _, _, h, e => by
    obtain ⟨_, _, f1, f2, _, e2, h1, h2⟩ := h
    simp [D.oks] at e
    rw [e2, dat_ok h1 e.1, dats_ok h2 e.2]
    rfl
end
mutual
theorem dat_frz : ∀ {d : D} {v : V} {f : List Addr}, Dat K cl M H d v f → (∀ a, M' a → (M a ∧ a ∉ f) ∨ H a = none) → Dat K cl M' H (D.frz d) v []
  | .non, _, _, h, _ => ⟨h.1, rfl⟩ | .bl _, _, _, h, _ => ⟨h.1, rfl⟩ | .int _, _, _, h, _ => ⟨h.1, rfl⟩ | .str _, _, _, h, _ => ⟨h.1, rfl⟩ | .ty _, _, _, h, _ => ⟨h.1, rfl⟩ | .cl _, _, _, h, _ => ⟨h.1, rfl⟩
  | .scr ns, v, f, h, hM => by
    have q := dat_tr (M' := fun a => M' a ∧ M a) (H' := H) h (fun a z => .inl z.2) (by rw [h.1]; intro a z; cases z) (fun _ _ z _ => z)
    obtain ⟨e, a, e2, s⟩ := h
    refine ⟨rfl, a, e2, ?_⟩
    rcases s with ⟨s, n⟩ | s
    · refine .inl ⟨s, fun z => (hM a z).elim (fun q => n q.1) fun q => ?_⟩
      rcases s with s | ⟨o, s⟩ <;> (rw [s] at q; cases q)
    · exact .inr s
  | .tup ds, v, f, h, hM => by
    obtain ⟨a, vs, e, t, hd⟩ := h
    refine ⟨a, vs, e, ?_, dats_frz hd hM⟩
    rcases t with ⟨t, n⟩ | t
    · exact .inl ⟨t, fun z => (hM a z).elim (fun q => n q.1) fun q => by rw [t] at q; cases q⟩
    · exact .inr t
  | .lst m ds, v, f, h, hM => by
    obtain ⟨a, vs, g, e, t, hd, w⟩ := h
    exact ⟨a, vs, [], e, t, dats_frz hd (fun b z => (hM b z).imp (fun q => ⟨q.1, fun r => q.2 (w.sub r)⟩) id), w.frz t hM⟩
  | .obj m c ns ds, v, f, h, hM => by
    obtain ⟨a, dx, vs, g, e, t, l, hd, w⟩ := h
    exact ⟨a, dx, vs, [], e, t, l, dats_frz hd (fun b z => (hM b z).imp (fun q => ⟨q.1, fun r => q.2 (w.sub r)⟩) id), w.frz t hM⟩
  | .dct m ks ds, v, f, h, hM => by
    obtain ⟨a, vs, g, e, t, l, hd, w⟩ := h
    exact ⟨a, vs, [], e, t, l, dats_frz hd (fun b z => (hM b z).imp (fun q => ⟨q.1, fun r => q.2 (w.sub r)⟩) id), w.frz t hM⟩
theorem dats_frz : ∀ {ds : List D} {vs : List V} {f : List Addr}, Dats K cl M H ds vs f → (∀ a, M' a → (M a ∧ a ∉ f) ∨ H a = none) → Dats K cl M' H (D.frzs ds) vs []
  | [], _, _, h, _ => ⟨h.1, rfl⟩
  | d :: ds, vs, f, h, hM => by
    obtain ⟨v, vs', f1, f2, e1, e2, h1, h2⟩ := h
    subst e2
    exact ⟨v, vs', [], [], e1, rfl, dat_frz h1 (fun b z => (hM b z).imp (fun q => ⟨q.1, fun r => q.2 (List.mem_append_left _ r)⟩) id),
      dats_frz h2 (fun b z => (hM b z).imp (fun q => ⟨q.1, fun r => q.2 (List.mem_append_right _ r)⟩) id)⟩
end
mutual
/-- every place that may still be changed stands in the heap, and is such -/
theorem dat_in : ∀ {d : D} {v : V} {f : List Addr}, Dat K cl M H d v f → ∀ a ∈ f, M a ∧ ∃ o, H a = some o
  | .non, _, _, h => by rw [h.2]; intro a z; cases z
  | .bl _, _, _, h => by rw [h.2]; intro a z; cases z
  | .int _, _, _, h => by rw [h.2]; intro a z; cases z
  | .str _, _, _, h => by rw [h.2]; intro a z; cases z
  | .ty _, _, _, h => by rw [h.2]; intro a z; cases z
  | .cl _, _, _, h => by rw [h.2]; intro a z; cases z
  | .scr _, _, _, h => by rw [h.1]; intro a z; cases z
  | .tup ds, _, _, h => by
    obtain ⟨_, _, _, _, hd⟩ := h
    exact dats_in hd
  | .lst m ds, _, _, h => by
    obtain ⟨a, _, g, _, t, hd, w⟩ := h
    rcases w with ⟨_, q, e⟩ | ⟨_, _, e, _⟩
    · subst e
      intro b z
      rcases List.mem_cons.mp z with z | z
      · rw [z]; exact ⟨q, _, t⟩
      · exact dats_in hd b z
    · rw [e]; intro a z; cases z
  | .obj m _ _ ds, _, _, h => by
    obtain ⟨a, _, _, g, _, t, _, hd, w⟩ := h
    rcases w with ⟨_, q, e⟩ | ⟨_, _, e, _⟩
    · subst e
      intro b z
      rcases List.mem_cons.mp z with z | z
      · rw [z]; exact ⟨q, _, t⟩
      · exact dats_in hd b z
    · rw [e]; intro a z; cases z
  | .dct m _ ds, _, _, h => by
    obtain ⟨a, _, g, _, t, _, hd, w⟩ := h
    rcases w with ⟨_, q, e⟩ | ⟨_, _, e, _⟩
    · subst e
      intro b z
      rcases List.mem_cons.mp z with z | z
      · rw [z]; exact ⟨q, _, t⟩
      · exact dats_in hd b z
    · rw [e]; intro a z; cases z
theorem dats_in : ∀ {ds : List D} {vs : List V} {f : List Addr}, Dats K cl M H ds vs f → ∀ a ∈ f, M a ∧ ∃ o, H a = some o
  | [], _, _, h => by rw [h.2]; intro a z; cases z
  | d :: ds, _, _, h => by
    obtain ⟨_, _, f1, f2, _, e2, h1, h2⟩ := h
    subst e2
    intro a z
    rcases List.mem_append.mp z with z | z
    · exact dat_in h1 a z
    · exact dats_in h2 a z
end
theorem dats_length : ∀ {ds : List D} {vs : List V} {f : List Addr}, Dats K cl M H ds vs f → vs.length = ds.length
  | [], _, _, h => by rw [h.1]; rfl
  | d :: ds, _, _, h => by
    obtain ⟨_, _, f1, f2, e1, _, _, h2⟩ := h
    rw [e1, List.length_cons, List.length_cons, dats_length h2]
/-- one of some things none of which may be changed -/
theorem dats_get : ∀ {ds : List D} {vs : List V} {i : Nat} {d : D}, Dats K cl M H ds vs [] → ds[i]? = some d → ∃ v, vs[i]? = some v ∧ Dat K cl M H d v []
  | [], _, _, _, _, e => by simp at e
  | d :: ds, _, i, x, h, e => by
    obtain ⟨v, vs', f1, f2, e1, e2, h1, h2⟩ := h
    obtain ⟨rfl, rfl⟩ := List.append_eq_nil_iff.mp e2.symm
    subst e1
    cases i with
    | zero => cases e; exact ⟨v, rfl, h1⟩
    | succ i =>
      obtain ⟨w, q1, q2⟩ := dats_get (i := i) (d := x) h2 (by simpa using e)
      exact ⟨w, by simpa using q1, q2⟩
theorem dats_nil_append : ∀ {ds es : List D} {vs us : List V}, Dats K cl M H ds vs [] → Dats K cl M H es us [] → Dats K cl M H (ds ++ es) (vs ++ us) []
  | [], _, _, _, h, q => by rw [h.1]; exact q
  | d :: ds, es, _, us, h, q => by
    obtain ⟨v, vs', f1, f2, e1, e2, h1, h2⟩ := h
    obtain ⟨rfl, rfl⟩ := List.append_eq_nil_iff.mp e2.symm
    subst e1
    exact ⟨v, vs' ++ us, [], [], rfl, rfl, h1, dats_nil_append h2 q⟩
theorem dats_append : ∀ {ds es : List D} {vs us : List V} {f g : List Addr}, Dats K cl M H ds vs f → Dats K cl M H es us g → Dats K cl M H (ds ++ es) (vs ++ us) (f ++ g)
  | [], _, _, _, _, _, h, q => by rw [h.1, h.2]; exact q
  | d :: ds, es, _, us, _, g, h, q => by
    obtain ⟨v, vs', f1, f2, e1, e2, h1, h2⟩ := h
    subst e1; subst e2
    exact ⟨v, vs' ++ us, f1, f2 ++ g, rfl, by rw [List.append_assoc], h1, dats_append h2 q⟩
theorem dats_take : ∀ {ds : List D} {vs : List V} (n : Nat), Dats K cl M H ds vs [] → Dats K cl M H (ds.take n) (vs.take n) []
  | _, _, 0, _ => ⟨rfl, rfl⟩
  | [], _, n + 1, h => by rw [h.1]; exact ⟨rfl, rfl⟩
  | d :: ds, _, n + 1, h => by
    obtain ⟨v, vs', f1, f2, e1, e2, h1, h2⟩ := h
    obtain ⟨rfl, rfl⟩ := List.append_eq_nil_iff.mp e2.symm
    subst e1
    exact ⟨v, vs'.take n, [], [], rfl, rfl, h1, dats_take n h2⟩
theorem dats_drop : ∀ {ds : List D} {vs : List V} (n : Nat), Dats K cl M H ds vs [] → Dats K cl M H (ds.drop n) (vs.drop n) []
  | _, _, 0, h => h
  | [], _, n + 1, h => by rw [h.1]; exact ⟨rfl, rfl⟩
  | d :: ds, _, n + 1, h => by
    obtain ⟨v, vs', f1, f2, e1, e2, h1, h2⟩ := h
    obtain ⟨rfl, rfl⟩ := List.append_eq_nil_iff.mp e2.symm
    subst e1
    exact dats_drop n h2
end

/-! ## the stack: slots of frames and things held meanwhile -/
def Slots (K : PySem.W.Frag) (cl : Nat → Addr) (M : Addr → Prop) (H : Hp) : Env → L2.St → List Addr → Prop
  | [], xs, f => xs = [] ∧ f = []
  | none :: ds, xs, f => ∃ x xs', xs = x :: xs' ∧ Slots K cl M H ds xs' f
  | some d :: ds, xs, f => ∃ v xs' f1 f2, xs = some v :: xs' ∧ f = f1 ++ f2 ∧ Dat K cl M H d v f1 ∧ Slots K cl M H ds xs' f2
def Rel (K : PySem.W.Frag) (cl : Nat → Addr) (H : Hp) (ds : Env) (xs : L2.St) : Prop := ∃ f, f.Nodup ∧ Slots K cl (· ∈ f) H ds xs f
section
variable {K : PySem.W.Frag} {cl : Nat → Addr} {M M' : Addr → Prop} {H H' : Hp}
theorem slots_len : ∀ {ds : Env} {xs : L2.St} {f : List Addr}, Slots K cl M H ds xs f → xs.length = ds.length
  | [], _, _, h => by rw [h.1]; rfl
  | none :: ds, _, _, h => by
    obtain ⟨x, xs', e, h⟩ := h
    rw [e, List.length_cons, List.length_cons, slots_len h]
  | some d :: ds, _, _, h => by
    obtain ⟨v, xs', f1, f2, e, _, _, h⟩ := h
    rw [e, List.length_cons, List.length_cons, slots_len h]
theorem Rel.len {ds : Env} {xs : L2.St} (h : Rel K cl H ds xs) : xs.length = ds.length := by
  obtain ⟨f, _, h⟩ := h
  exact slots_len h
theorem slots_tr : ∀ {ds : Env} {xs : L2.St} {f : List Addr}, Slots K cl M H ds xs f → (∀ a, M' a → M a ∨ H a = none) → (∀ a ∈ f, M' a) → (∀ a o, H a = some o → (M a → a ∈ f) → H' a = some o) → Slots K cl M' H' ds xs f
  | [], _, _, h, _, _, _ => h
  | none :: ds, _, _, h, hM, hf, hH => by
    obtain ⟨x, xs', e, h⟩ := h
    exact ⟨x, xs', e, slots_tr h hM hf hH⟩
  | some d :: ds, _, _, h, hM, hf, hH => by
    obtain ⟨v, xs', f1, f2, e, e2, h1, h2⟩ := h
    subst e2
    exact ⟨v, xs', f1, f2, e, rfl, dat_tr h1 hM (fun b hb => hf b (List.mem_append_left _ hb)) (fun b o q z => hH b o q fun r => List.mem_append_left _ (z r)),
      slots_tr h2 hM (fun b hb => hf b (List.mem_append_right _ hb)) (fun b o q z => hH b o q fun r => List.mem_append_right _ (z r))⟩
theorem slots_in : ∀ {ds : Env} {xs : L2.St} {f : List Addr}, Slots K cl M H ds xs f → ∀ a ∈ f, M a ∧ ∃ o, H a = some o
  | [], _, _, h => by rw [h.2]; intro a z; cases z
  | none :: ds, _, _, h => by
    obtain ⟨x, xs', e, h⟩ := h
    exact slots_in h
  | some d :: ds, _, _, h => by
    obtain ⟨v, xs', f1, f2, e, e2, h1, h2⟩ := h
    subst e2
    intro a z
    rcases List.mem_append.mp z with z | z
    · exact dat_in h1 a z
    · exact slots_in h2 a z
/-- the heap only grows -/
theorem Rel.same {ds : Env} {xs : L2.St} (h : Rel K cl H ds xs) (s : Same H H') : Rel K cl H' ds xs := by
  obtain ⟨f, n, h⟩ := h
  exact ⟨f, n, slots_tr h (fun a z => .inl z) (fun a z => z) fun a o q _ => s a o q⟩
theorem same_upd {p : Addr} {o : HO} (h : H p = none) : Same H (upd H p o) := fun b x e => by
  rw [upd_ne (ne_of_none e h)]
  exact e
/-- split at a place -/
theorem slots_at : ∀ {ds : Env} {xs : L2.St} {f : List Addr} {i : Nat} {d : D}, Slots K cl M H ds xs f → ds[i]? = some (some d) →
    ∃ v f1 g f2, xs[i]? = some (some v) ∧ f = f1 ++ (g ++ f2) ∧ Dat K cl M H d v g ∧ Slots K cl M H (ds.set i none) xs (f1 ++ f2)
  | [], _, _, _, _, _, e => by simp at e
  | none :: ds, _, f, 0, d, h, e => by simp at e
  | none :: ds, _, f, i + 1, d, h, e => by
    obtain ⟨x, xs', e1, h⟩ := h
    subst e1
    obtain ⟨v, f1, g, f2, q1, q2, q3, q4⟩ := slots_at (i := i) (d := d) h (by simpa using e)
    exact ⟨v, f1, g, f2, by simpa using q1, q2, q3, x, xs', rfl, q4⟩
  | some c :: ds, _, f, 0, d, h, e => by
    obtain ⟨v, xs', f1, f2, e1, e2, h1, h2⟩ := h
    cases e
    subst e1
    exact ⟨v, [], f1, f2, rfl, e2, h1, some v, xs', rfl, h2⟩
  | some c :: ds, _, f, i + 1, d, h, e => by
    obtain ⟨v, xs', f1, f2, e1, e2, h1, h2⟩ := h
    subst e1; subst e2
    obtain ⟨v', g1, g, g2, q1, q2, q3, q4⟩ := slots_at (i := i) (d := d) h2 (by simpa using e)
    exact ⟨v', f1 ++ g1, g, g2, by simpa using q1, by rw [q2, List.append_assoc], q3, v, xs', f1, g1 ++ g2, rfl, by rw [List.append_assoc], h1, q4⟩
/-- put at a place -/
theorem slots_put : ∀ {ds : Env} {xs : L2.St} {f g : List Addr} {i : Nat} {d : D} {v : V}, Slots K cl M H ds xs f → i < ds.length → Dat K cl M H d v g →
    ∃ f1 f2 k, f.Perm (f1 ++ (k ++ f2)) ∧ Slots K cl M H (ds.set i (some d)) (xs.set i (some v)) (f1 ++ (g ++ f2))
  | [], _, _, _, _, _, _, _, l, _ => absurd l (by simp)
  | none :: ds, _, f, g, 0, d, v, h, l, hd => by
    obtain ⟨x, xs', e1, h⟩ := h
    subst e1
    exact ⟨[], f, [], .refl _, v, xs', g, f, rfl, rfl, hd, h⟩
  | some c :: ds, _, f, g, 0, d, v, h, l, hd => by
    obtain ⟨x, xs', f1, f2, e1, e2, h1, h2⟩ := h
    subst e1; subst e2
    exact ⟨[], f2, f1, .refl _, v, xs', g, f2, rfl, rfl, hd, h2⟩
  | none :: ds, _, f, g, i + 1, d, v, h, l, hd => by
    obtain ⟨x, xs', e1, h⟩ := h
    subst e1
    obtain ⟨f1, f2, k, p, q⟩ := slots_put (i := i) h (by simpa using l) hd
    exact ⟨f1, f2, k, p, x, xs'.set i (some v), rfl, q⟩
  | some c :: ds, _, f, g, i + 1, d, v, h, l, hd => by
    obtain ⟨x, xs', f1, f2, e1, e2, h1, h2⟩ := h
    subst e1; subst e2
    obtain ⟨g1, g2, k, p, q⟩ := slots_put (i := i) h2 (by simpa using l) hd
    refine ⟨f1 ++ g1, g2, k, ?_, x, xs'.set i (some v), f1, g1 ++ (g ++ g2), rfl, by rw [List.append_assoc], h1, q⟩
    rw [List.append_assoc]
    exact List.Perm.append_left f1 p
theorem slots_app : ∀ {ds es : Env} {xs ys : L2.St} {f g : List Addr}, Slots K cl M H ds xs f → Slots K cl M H es ys g → Slots K cl M H (ds ++ es) (xs ++ ys) (f ++ g)
  | [], _, _, _, _, _, h, q => by rw [h.1, h.2]; exact q
  | none :: ds, _, _, _, _, _, h, q => by
    obtain ⟨x, xs', e1, h⟩ := h
    subst e1
    exact ⟨x, _, rfl, slots_app h q⟩
  | some c :: ds, _, _, _, _, _, h, q => by
    obtain ⟨x, xs', f1, f2, e1, e2, h1, h2⟩ := h
    subst e1; subst e2
    exact ⟨x, _, f1, _, rfl, by rw [List.append_assoc], h1, slots_app h2 q⟩
theorem slots_split : ∀ {ds es : Env} {zs : L2.St} {f : List Addr}, Slots K cl M H (ds ++ es) zs f → ∃ xs ys g k, zs = xs ++ ys ∧ f = g ++ k ∧ xs.length = ds.length ∧ Slots K cl M H ds xs g ∧ Slots K cl M H es ys k
  | [], es, zs, f, h => ⟨[], zs, [], f, rfl, rfl, rfl, ⟨rfl, rfl⟩, h⟩
  | none :: ds, es, zs, f, h => by
    obtain ⟨x, xs', e1, h⟩ := h
    subst e1
    obtain ⟨xs, ys, g, k, e2, e3, l, h1, h2⟩ := slots_split h
    subst e2
    exact ⟨x :: xs, ys, g, k, rfl, e3, by simp [l], ⟨x, xs, rfl, h1⟩, h2⟩
  | some c :: ds, es, zs, f, h => by
    obtain ⟨x, xs', f1, f2, e1, e2, h1, h⟩ := h
    subst e1; subst e2
    obtain ⟨xs, ys, g, k, e2, e3, l, h2, h3⟩ := slots_split h
    subst e2; subst e3
    exact ⟨some x :: xs, ys, f1 ++ g, k, rfl, by rw [List.append_assoc], by simp [l], ⟨x, xs, f1, g, rfl, rfl, h1, h2⟩, h3⟩
/-- the same stack, its places counted in another order -/
theorem Rel.of_perm {ds : Env} {xs : L2.St} {f g : List Addr} (h : Slots K cl (· ∈ f) H ds xs g) (n : f.Nodup) (p : f.Perm g) : Rel K cl H ds xs :=
  ⟨g, p.nodup_iff.mp n, slots_tr h (fun a z => .inl (p.mem_iff.mpr z)) (fun a z => z) fun a o q _ => q⟩
/-- some of the places are let go -/
theorem Rel.of_sub {ds : Env} {xs : L2.St} {f g : List Addr} (h : Slots K cl (· ∈ f) H ds xs g) (n : g.Nodup) (p : ∀ a ∈ g, a ∈ f) : Rel K cl H ds xs :=
  ⟨g, n, slots_tr h (fun a z => .inl (p a z)) (fun a z => z) fun a o q _ => q⟩
theorem Rel.swap {A B : Env} {X Y : L2.St} (h : Rel K cl H (A ++ B) (X ++ Y)) (l : X.length = A.length) : Rel K cl H (B ++ A) (Y ++ X) := by
  obtain ⟨f, n, h⟩ := h
  obtain ⟨X', Y', g, k, e, e2, l2, h1, h2⟩ := slots_split h
  obtain ⟨rfl, rfl⟩ := List.append_inj e (by omega)
  subst e2
  exact .of_perm (slots_app h2 h1) n List.perm_append_comm
theorem Rel.drop {A B : Env} {X Y : L2.St} (h : Rel K cl H (A ++ B) (X ++ Y)) (l : X.length = A.length) : Rel K cl H B Y := by
  obtain ⟨f, n, h⟩ := h
  obtain ⟨X', Y', g, k, e, e2, l2, h1, h2⟩ := slots_split h
  obtain ⟨rfl, rfl⟩ := List.append_inj e (by omega)
  subst e2
  exact .of_sub h2 (List.nodup_append.mp n).2.1 fun a z => List.mem_append_right _ z
theorem Rel.pop {d : Option D} {x : Option V} {B : Env} {Y : L2.St} (h : Rel K cl H (d :: B) (x :: Y)) : Rel K cl H B Y := Rel.drop (A := [d]) (X := [x]) h rfl
/-- a block moves over another, in front of a rest -/
theorem Rel.swap3 {A B C : Env} {X Y Z : L2.St} (h : Rel K cl H (A ++ (B ++ C)) (X ++ (Y ++ Z))) (l : X.length = A.length) (l2 : Y.length = B.length) : Rel K cl H (B ++ (A ++ C)) (Y ++ (X ++ Z)) := by
  obtain ⟨f, n, h⟩ := h
  obtain ⟨X', Y', g, k, e, e2, l3, h1, h2⟩ := slots_split h
  obtain ⟨rfl, rfl⟩ := List.append_inj e (by omega)
  obtain ⟨X', Y', g', k', e, e3, l4, h3, h4⟩ := slots_split h2
  obtain ⟨rfl, rfl⟩ := List.append_inj e (by omega)
  subst e2; subst e3
  refine .of_perm (slots_app h3 (slots_app h1 h4)) n ?_
  rw [← List.append_assoc, ← List.append_assoc]
  exact List.Perm.append_right _ List.perm_append_comm
/-- a thing that lies nowhere -/
theorem Rel.push {ds : Env} {xs : L2.St} {d : D} {v : V} (h : Rel K cl H ds xs) (q : ∀ M : Addr → Prop, Dat K cl M H d v []) : Rel K cl H (some d :: ds) (some v :: xs) := by
  obtain ⟨f, n, h⟩ := h
  exact ⟨f, n, v, xs, [], f, rfl, rfl, q _, h⟩
/-- take out of a place to the front -/
theorem Rel.take {ds : Env} {xs : L2.St} {i : Nat} {d : D} (h : Rel K cl H ds xs) (e : ds[i]? = some (some d)) : ∃ v, xs[i]? = some (some v) ∧ Rel K cl H (some d :: ds.set i none) (some v :: xs) := by
  obtain ⟨f, n, h⟩ := h
  obtain ⟨v, f1, g, f2, e1, e2, h1, h2⟩ := slots_at h e
  refine ⟨v, e1, .of_perm (g := g ++ (f1 ++ f2)) ⟨v, xs, g, f1 ++ f2, rfl, rfl, h1, h2⟩ n ?_⟩
  rw [e2, ← List.append_assoc, ← List.append_assoc]
  exact List.Perm.append_right _ List.perm_append_comm
/-- put from the front into a place -/
theorem Rel.put {ds : Env} {xs : L2.St} {i : Nat} {d : D} {v : V} (h : Rel K cl H (some d :: ds) (some v :: xs)) (l : i < ds.length) : Rel K cl H (ds.set i (some d)) (xs.set i (some v)) := by
  obtain ⟨f, n, h⟩ := h
  obtain ⟨v', xs', f1, f2, e1, e2, h1, h2⟩ := h
  cases e1
  obtain ⟨g1, g2, k, p, q⟩ := slots_put h2 l h1
  subst e2
  have p2 : (f1 ++ f2).Perm (k ++ (g1 ++ (f1 ++ g2))) := by
    refine (List.Perm.append_left f1 p).trans ?_
    refine List.Perm.trans ?_ (List.perm_append_comm_assoc g1 k (f1 ++ g2))
    refine (List.perm_append_comm_assoc f1 g1 (k ++ g2)).trans (List.Perm.append_left g1 ?_)
    exact List.perm_append_comm_assoc f1 k g2
  have n2 := (p2.nodup_iff.mp n)
  exact .of_sub q (List.nodup_append.mp n2).2.1 fun a z => p2.mem_iff.mpr (List.mem_append_right _ z)
theorem Rel.back {ds : Env} {xs : L2.St} {i : Nat} {d : D} {v : V} (h : Rel K cl H (some d :: ds) (some v :: xs)) (e : xs[i]? = some (some v)) : Rel K cl H (ds.set i (some d)) xs := by
  have l : i < ds.length := by
    have q := h.len
    have q2 := (List.getElem?_eq_some_iff.mp e).1
    simp only [List.length_cons] at q
    omega
  have q := h.put l
  have e2 : xs.set i (some v) = xs := by
    obtain ⟨hi, e⟩ := List.getElem?_eq_some_iff.mp e
    rw [← e]
    exact List.set_getElem_self hi
  rwa [e2] at q
/-- the front is frozen -/
theorem Rel.freeze {ds : Env} {xs : L2.St} {d : D} {v : V} (h : Rel K cl H (some d :: ds) (some v :: xs)) : Rel K cl H (some (D.frz d) :: ds) (some v :: xs) := by
  obtain ⟨f, n, h⟩ := h
  obtain ⟨v', xs', f1, f2, e1, e2, h1, h2⟩ := h
  cases e1
  subst e2
  have n3 := List.nodup_append.mp n
  refine ⟨f2, n3.2.1, v, xs, [], f2, rfl, rfl, dat_frz h1 fun a z => .inl ⟨List.mem_append_right _ z, fun q => n3.2.2 a q a z rfl⟩, ?_⟩
  exact slots_tr h2 (fun a z => .inl (List.mem_append_right _ z)) (fun a z => z) fun a o q _ => q
/-- what is frozen may be held twice -/
theorem Rel.dup {ds : Env} {xs : L2.St} {d : D} {v : V} (h : Rel K cl H (some d :: ds) (some v :: xs)) (o : D.ok d = true) : Rel K cl H (some d :: some d :: ds) (some v :: some v :: xs) := by
  obtain ⟨f, n, h⟩ := h
  obtain ⟨v', xs', f1, f2, e1, e2, h1, h2⟩ := h
  cases e1
  subst e2
  have e := dat_ok h1 o
  subst e
  exact ⟨_, n, v, _, [], _, rfl, rfl, h1, v, xs, [], f2, rfl, rfl, h1, h2⟩
/-- read a place as a value: it is frozen from then on -/
theorem Rel.read {ds : Env} {xs : L2.St} {i : Nat} {d : D} (h : Rel K cl H ds xs) (e : ds[i]? = some (some d)) : ∃ v, xs[i]? = some (some v) ∧ Rel K cl H (some (D.frz d) :: ds.set i (some (D.frz d))) (some v :: xs) := by
  obtain ⟨v, e1, q⟩ := h.take e
  refine ⟨v, e1, ?_⟩
  have q2 := (q.freeze.dup (D.ok_frz d))
  have q3 := Rel.back (i := i + 1) (ds := some (D.frz d) :: ds.set i none) (xs := some v :: xs) q2 (by simpa using e1)
  simpa using q3
/-- the front's description -/
theorem Rel.top {ds : Env} {xs : L2.St} {d : D} {x : Option V} (h : Rel K cl H (some d :: ds) (x :: xs)) : ∃ M v f, x = some v ∧ Dat K cl M H d v f := by
  obtain ⟨f, n, h⟩ := h
  obtain ⟨v', xs', f1, f2, e1, e2, h1, h2⟩ := h
  cases e1
  exact ⟨_, _, _, rfl, h1⟩
end
end Tw
namespace Tw
open PySem PySem.Spec PyProof.Rows L2
abbrev S := L2.St

inductive Rs (α : Type) where
  | ok (a : α) (env : Tw.Env) | exc (c : Nat) (ns : List Str) (ds : List D) (env : Tw.Env) | stuck
abbrev Ev := Tw.Env → Rs D
def Rs.bind {α β : Type} (r : Rs α) (k : α → Tw.Env → Rs β) : Rs β := match r with
  | .ok a e => k a e
  | .exc c ns ds e => .exc c ns ds e
  | .stuck => .stuck
@[simp] theorem Rs.bind_ok {α β : Type} (a : α) (e : Tw.Env) (k : α → Tw.Env → Rs β) : Rs.bind (.ok a e) k = k a e := rfl
@[simp] theorem Rs.bind_exc {α β : Type} (c ns ds) (e : Tw.Env) (k : α → Tw.Env → Rs β) : Rs.bind (.exc c ns ds e) k = .exc c ns ds e := rfl
@[simp] theorem Rs.bind_stuck {α β : Type} (k : α → Tw.Env → Rs β) : Rs.bind .stuck k = .stuck := rfl
def Rs.P {α : Type} (r : Rs α) (ok : α → Tw.Env → Prop) (ex : Nat → List Str → List D → Tw.Env → Prop) : Prop := match r with
  | .ok a e => ok a e
  | .exc c ns ds e => ex c ns ds e
  | .stuck => False
theorem Rs.P.imp {α : Type} {r : Rs α} {ok ok' : α → Tw.Env → Prop} {ex ex' : Nat → List Str → List D → Tw.Env → Prop} (h : r.P ok ex) (h1 : ∀ a e, ok a e → ok' a e) (h2 : ∀ c ns ds e, ex c ns ds e → ex' c ns ds e) : r.P ok' ex' := by
  cases r with
  | ok a e => exact h1 _ _ h
  | exc c ns ds e => exact h2 _ _ _ _ h
  | stuck => exact h

/-- an exception: its class, its fields -/
def ExAt (cl : Nat → Addr) (H : Hp) (cls : Value) (dd : Option Addr) (c : Nat) (ns : List Str) (vs : List V) : Prop :=
  cls = .ref (cl c) ∧ ns.length = vs.length ∧ (ns = [] ∨ ∃ d, dd = some d ∧ H d = some (.xd (ns.zip vs)))

section
variable {K : PySem.W.Frag} {cl : Nat → Addr}
def WP (K : PySem.W.Frag) (cl : Nat → Addr) (W : WX) (κ : Tw.Env) (τ σ : S) : Nat → List Str → List D → Tw.Env → Prop := fun c ns ds env => ∀ cls dd H' vs, ExAt cl H' cls dd c ns vs → Rel K cl H' (ds.map some ++ (κ ++ env)) (vs.map some ++ (τ ++ σ)) → ds.length = vs.length → W cls dd σ H'
theorem WP.weak {W : WX} {A κ : Tw.Env} {X τ σ : S} (l : X.length = A.length) {c ns ds env} (h : WP K cl W κ τ σ c ns ds env) : WP K cl W (A ++ κ) (X ++ τ) σ c ns ds env := fun cls dd H' vs e r l2 => by
  refine h cls dd H' vs e ?_ l2
  rw [List.append_assoc, List.append_assoc] at r
  have r2 := r.swap3 (by simp [l2]) l
  exact Rel.drop r2 l
/-- an expression's reading: what it gives is f of the slots -/
def tE (K : PySem.W.Frag) (cl : Nat → Addr) (W : WX) (f : Ev) : TE := fun σ H Q => ∃ (τ : S) (κ env : Tw.Env), Rel K cl H (κ ++ env) (τ ++ σ) ∧ τ.length = κ.length ∧
  (f env).P (fun d env' => ∀ v H', Rel K cl H' (some d :: (κ ++ env')) (some v :: (τ ++ σ)) → Q v H') (WP K cl W κ τ σ)
theorem tE_bind {β : Type} {W : WX} {f : Ev} {k : D → Tw.Env → Rs β} {ok : β → Tw.Env → Prop} {τ σ : S} {κ env : Tw.Env} {H : Hp} {Q : VK} (r : Rel K cl H (κ ++ env) (τ ++ σ)) (l : τ.length = κ.length) (h : ((f env).bind k).P ok (WP K cl W κ τ σ))
    (hk : ∀ d env1 v H1, (k d env1).P ok (WP K cl W κ τ σ) → Rel K cl H1 (some d :: (κ ++ env1)) (some v :: (τ ++ σ)) → Q v H1) : tE K cl W f σ H Q := by
  refine ⟨τ, κ, env, r, l, ?_⟩
  cases e : f env with
  | ok d env1 =>
    rw [e] at h
    exact fun v H1 r1 => hk d env1 v H1 h r1
  | exc c ns ds env1 => rw [e] at h; exact h
  | stuck => rw [e] at h; exact h

/-! ## operands: worked out, or a slot's own thing, looked at where it lies -/
inductive Opd where
  | val (f : Ev) | slot (i : Nat)
def tOpd (K : PySem.W.Frag) (cl : Nat → Addr) (W : WX) : Opd → TE
  | .val f => tE K cl W f
  | .slot i => tVar i
def tOs (K : PySem.W.Frag) (cl : Nat → Addr) (W : WX) : List Opd → TA
  | [] => tNil
  | o :: os => tCons (tOpd K cl W o) (tOs K cl W os)
def evs : List Opd → Tw.Env → Rs (List D)
  | [], env => .ok [] env
  | .val f :: os, env => (f env).bind fun d env1 => (evs os env1).bind fun ds env2 => .ok (d :: ds) env2
  | .slot i :: os, env => match env[i]? with
    | some (some _) => evs os env
    | _ => .stuck
def gat : List Opd → List D → Tw.Env → Option (List D × Tw.Env)
  | [], [], env => some ([], env)
  | .val _ :: os, d :: ds, env => (gat os ds env).map fun p => (d :: p.1, p.2)
  | .slot i :: os, ds, env => match env[i]? with
    | some (some d) => (gat os ds (env.set i none)).map fun p => (d :: p.1, p.2)
    | _ => none
  | _, _, _ => none
def Full : List Opd → List V → S → List V → Prop
  | [], us, _, vs => us = [] ∧ vs = []
  | .val _ :: os, us, σ, vs => ∃ u us' vs', us = u :: us' ∧ vs = u :: vs' ∧ Full os us' σ vs'
  | .slot i :: os, us, σ, vs => ∃ v vs', σ[i]? = some (some v) ∧ vs = v :: vs' ∧ Full os us σ vs'
theorem Full.len : ∀ {os : List Opd} {us : List V} {σ : S} {vs : List V}, Full os us σ vs → vs.length = os.length
  | [], _, _, _, h => by rw [h.2]; rfl
  | .val _ :: os, _, _, _, h => by
    obtain ⟨u, us', vs', _, e, h⟩ := h
    rw [e, List.length_cons, List.length_cons, h.len]
  | .slot i :: os, _, _, _, h => by
    obtain ⟨v, vs', _, e, h⟩ := h
    rw [e, List.length_cons, List.length_cons, h.len]
def tA (K : PySem.W.Frag) (cl : Nat → Addr) (W : WX) (os : List Opd) : TA := fun σ H Q => ∃ (τ : S) (κ env : Tw.Env), Rel K cl H (κ ++ env) (τ ++ σ) ∧ τ.length = κ.length ∧
  (evs os env).P (fun ds env' => ∀ us vs H', us.length = ds.length → Rel K cl H' (ds.map some ++ (κ ++ env')) (us.map some ++ (τ ++ σ)) → Full os us σ vs → Q vs H') (WP K cl W κ τ σ)
theorem slot_at {H : Hp} {κ env : Tw.Env} {τ σ : S} {i : Nat} {d : D} (r : Rel K cl H (κ ++ env) (τ ++ σ)) (l : τ.length = κ.length) (e : env[i]? = some (some d)) : ∃ v, σ[i]? = some (some v) := by
  have e2 : (κ ++ env)[κ.length + i]? = some (some d) := by rw [List.getElem?_append_right (by omega)]; simpa using e
  obtain ⟨v, e3, _⟩ := r.take e2
  refine ⟨v, ?_⟩
  rw [List.getElem?_append_right (by omega)] at e3
  simpa [l] using e3
theorem tA_os {W : WX} : ∀ {os : List Opd} {σ : S} {H : Hp} {Q : List V → Hp → Prop}, tA K cl W os σ H Q → tOs K cl W os σ H Q
  | [], σ, H, Q, h => by
    obtain ⟨τ, κ, env, r, l, h⟩ := h
    exact h [] [] H rfl r ⟨rfl, rfl⟩
  | .val f :: os, σ, H, Q, h => by
    obtain ⟨τ, κ, env, r, l, h⟩ := h
    refine tE_bind r l h fun d env1 v H1 h1 r1 => tA_os (os := os) ⟨some v :: τ, some d :: κ, env1, r1, by simp [l], ?_⟩
    cases e : evs os env1 with
    | ok ds env2 =>
      rw [e] at h1
      intro us vs H2 l2 r2 fu
      refine h1 (v :: us) (v :: vs) H2 (by simp [l2]) ?_ ⟨v, us, vs, rfl, rfl, fu⟩
      exact Rel.swap3 (A := ds.map some) (B := [some d]) (X := us.map some) (Y := [some v]) r2 (by simp [l2]) rfl
    | exc c ns ds env2 =>
      rw [e] at h1
      exact WP.weak (A := [some d]) (X := [some v]) rfl h1
    | stuck => rw [e] at h1; exact h1
  | .slot i :: os, σ, H, Q, h => by
    obtain ⟨τ, κ, env, r, l, h⟩ := h
    cases e : env[i]? with
    | none => simp [evs, e] at h; exact False.elim h
    | some x =>
      cases x with
      | none => simp [evs, e] at h; exact False.elim h
      | some d =>
        simp only [evs, e] at h
        obtain ⟨v, ev⟩ := slot_at r l e
        exact ⟨v, ev, tA_os (os := os) ⟨τ, κ, env, r, l, h.imp (fun ds env' q us vs H' l2 r2 fu => q us (v :: vs) H' l2 r2 ⟨v, vs, ev, rfl, fu⟩) fun _ _ _ _ q => q⟩⟩
/-- all the operands in front -/
theorem gat_rel : ∀ {os : List Opd} {ds as : List D} {us vs : List V} {κ env env' : Tw.Env} {τ σ : S} {H : Hp}, Rel K cl H (ds.map some ++ (κ ++ env)) (us.map some ++ (τ ++ σ)) → us.length = ds.length → τ.length = κ.length → Full os us σ vs → gat os ds env = some (as, env') →
    as.length = vs.length ∧ Rel K cl H (as.map some ++ (κ ++ env')) (vs.map some ++ (τ ++ σ)) ∧ ∀ {H' : Hp} {κ2 : Tw.Env} {τ2 : S}, τ2.length = κ2.length → Rel K cl H' (as.map some ++ (κ2 ++ env')) (vs.map some ++ (τ2 ++ σ)) → Rel K cl H' (ds.map some ++ (κ2 ++ env)) (us.map some ++ (τ2 ++ σ))
  | [], ds, as, us, vs, κ, env, env', τ, σ, H, r, l, lt, f, g => by
    obtain ⟨rfl, rfl⟩ := f
    cases ds with
    | nil => cases g; exact ⟨rfl, r, fun _ z => z⟩
    | cons d ds => simp at l
  | .val fv :: os, ds, as, us, vs, κ, env, env', τ, σ, H, r, l, lt, f, g => by
    obtain ⟨u, us', vs', rfl, rfl, f⟩ := f
    cases ds with
    | nil => simp at l
    | cons d ds =>
      simp only [gat, Option.map_eq_some_iff] at g
      obtain ⟨⟨as', e3⟩, g, e⟩ := g
      cases e
      have r2 : Rel K cl H (ds.map some ++ ((some d :: κ) ++ env)) (us'.map some ++ ((some u :: τ) ++ σ)) := Rel.swap3 (A := [some d]) (X := [some u]) (B := ds.map some) (Y := us'.map some) r rfl (by simpa using l)
      obtain ⟨l3, r3, b3⟩ := gat_rel (os := os) r2 (by simpa using l) (by simp [lt]) f g
      refine ⟨by simp [l3], ?_, fun {H' κ2 τ2} lt2 r4 => ?_⟩
      · exact Rel.swap3 (A := as'.map some) (X := vs'.map some) (B := [some d]) (Y := [some u]) r3 (by simp [l3]) rfl
      · have r5 := Rel.swap3 (A := [some d]) (X := [some u]) (B := as'.map some) (Y := vs'.map some) r4 rfl (by simp [l3])
        have r6 := b3 (κ2 := some d :: κ2) (τ2 := some u :: τ2) (by simp [lt2]) r5
        exact Rel.swap3 (A := ds.map some) (X := us'.map some) (B := [some d]) (Y := [some u]) r6 (by simpa using l) rfl
  | .slot i :: os, ds, as, us, vs, κ, env, env', τ, σ, H, r, l, lt, f, g => by
    obtain ⟨v, vs', ev, rfl, f⟩ := f
    cases e : env[i]? with
    | none => simp [gat, e] at g
    | some x =>
      cases x with
      | none => simp [gat, e] at g
      | some d =>
        simp only [gat, e, Option.map_eq_some_iff] at g
        obtain ⟨⟨as', e3⟩, g, e4⟩ := g
        cases e4
        have il : i < env.length := (List.getElem?_eq_some_iff.mp e).1
        have e5 : (ds.map some ++ (κ ++ env))[ds.length + (κ.length + i)]? = some (some d) := by
          rw [List.getElem?_append_right (by simp)]
          rw [List.length_map, Nat.add_sub_cancel_left, List.getElem?_append_right (by omega), Nat.add_sub_cancel_left]
          exact e
        obtain ⟨w, e6, r2⟩ := r.take e5
        have ew : w = v := by
          rw [List.getElem?_append_right (by simp [l]), List.length_map, l, Nat.add_sub_cancel_left, List.getElem?_append_right (by omega), lt, Nat.add_sub_cancel_left, ev] at e6
          cases e6; rfl
        subst ew
        have es : (ds.map some ++ (κ ++ env)).set (ds.length + (κ.length + i)) none = ds.map some ++ (κ ++ env.set i none) := by
          rw [List.set_append_right _ _ (by simp), List.length_map, Nat.add_sub_cancel_left, List.set_append_right _ _ (by omega), Nat.add_sub_cancel_left]
        rw [es] at r2
        have r3 : Rel K cl H (ds.map some ++ ((some d :: κ) ++ env.set i none)) (us.map some ++ ((some w :: τ) ++ σ)) := Rel.swap3 (A := [some d]) (X := [some w]) (B := ds.map some) (Y := us.map some) r2 rfl (by simp [l])
        obtain ⟨l4, r4, b4⟩ := gat_rel (os := os) r3 l (by simp [lt]) f g
        refine ⟨by simp [l4], ?_, fun {H' κ2 τ2} lt2 r5 => ?_⟩
        · exact Rel.swap3 (A := as'.map some) (X := vs'.map some) (B := [some d]) (Y := [some w]) r4 (by simp [l4]) rfl
        · have r6 := Rel.swap3 (A := [some d]) (X := [some w]) (B := as'.map some) (Y := vs'.map some) r5 rfl (by simp [l4])
          have r7 := b4 (κ2 := some d :: κ2) (τ2 := some w :: τ2) (by simp [lt2]) r6
          have r8 : Rel K cl H' (some d :: (ds.map some ++ (κ2 ++ env.set i none))) (some w :: (us.map some ++ (τ2 ++ σ))) := Rel.swap3 (A := ds.map some) (X := us.map some) (B := [some d]) (Y := [some w]) r7 (by simp [l]) rfl
          have e7 : (us.map some ++ (τ2 ++ σ))[us.length + (τ2.length + i)]? = some (some w) := by
            rw [List.getElem?_append_right (by simp), List.length_map, Nat.add_sub_cancel_left, List.getElem?_append_right (by omega), Nat.add_sub_cancel_left]
            exact ev
          have r9 := r8.back e7
          have es2 : (ds.map some ++ (κ2 ++ env.set i none)).set (us.length + (τ2.length + i)) (some d) = ds.map some ++ (κ2 ++ env) := by
            rw [l, lt2, List.set_append_right _ _ (by simp), List.length_map, Nat.add_sub_cancel_left, List.set_append_right _ _ (by omega), Nat.add_sub_cancel_left, List.set_set]
            congr 2
            obtain ⟨hi, e⟩ := List.getElem?_eq_some_iff.mp e
            rw [← e]
            exact List.set_getElem_self hi
          rwa [es2] at r9
/-- an operation on values that looks at things and makes new ones: what it leaves in front -/
def OpS (K : PySem.W.Frag) (cl : Nat → Addr) (r : List V → Hp → VK → Prop) (g : List D → Option D) : Prop :=
  ∀ (as : List D) (d : D) (vs : List V) (H : Hp) (κ : Tw.Env) (τ : S) (Q : VK), g as = some d → as.length = vs.length → Rel K cl H (as.map some ++ κ) (vs.map some ++ τ) →
    (∀ v H', Rel K cl H' (some d :: (as.map some ++ κ)) (some v :: (vs.map some ++ τ)) → Q v H') → r vs H Q
def fN (g : List D → Option D) (os : List Opd) : Ev := fun env => (evs os env).bind fun ds env1 => match (gat os ds env1).bind fun p => g p.1 with
  | some d => .ok d env1
  | none => .stuck
theorem fN_tA {W : WX} {r : List V → Hp → VK → Prop} {g : List D → Option D} {os : List Opd} (hs : OpS K cl r g) {σ : S} {H : Hp} {Q : VK} (h : tE K cl W (fN g os) σ H Q) : tA K cl W os σ H (fun vs H' => r vs H' Q) := by
  obtain ⟨τ, κ, env, rl, l, h⟩ := h
  refine ⟨τ, κ, env, rl, l, ?_⟩
  cases e : evs os env with
  | ok ds env1 =>
    simp only [fN, e, Rs.bind_ok] at h
    intro us vs H' l2 r2 fu
    cases e2 : gat os ds env1 with
    | none => rw [e2] at h; exact False.elim h
    | some p =>
      obtain ⟨as, env2⟩ := p
      rw [e2] at h
      simp only [Option.bind_some] at h
      cases e3 : g as with
      | none => rw [e3] at h; exact False.elim h
      | some d =>
        rw [e3] at h
        obtain ⟨l3, r3, b3⟩ := gat_rel r2 l2 l fu e2
        refine hs as d vs H' _ _ Q e3 l3 r3 fun v H2 r4 => h v H2 ?_
        have r5 : Rel K cl H2 (as.map some ++ ((some d :: κ) ++ env2)) (vs.map some ++ ((some v :: τ) ++ σ)) := Rel.swap3 (A := [some d]) (X := [some v]) (B := as.map some) (Y := vs.map some) r4 rfl (by simp [l3])
        exact Rel.drop (b3 (by simp [l]) r5) (by simp [l2])
  | exc c ns ds env1 =>
    simp only [fN, e, Rs.bind_exc] at h
    exact h
  | stuck =>
    simp only [fN, e, Rs.bind_stuck] at h
    exact h
end
/-- weaken a reading -/
theorem PE.imp {X : Cx} {e : Expr} {t t' : TE} (h : PE X e t) (q : ∀ σ H Q, t' σ H Q → t σ H Q) : PE X e t' := ⟨fun pins s σ H Q I z => h.run pins s σ H Q I (q σ H Q z)⟩
theorem PA.imp {X : Cx} {e : List Expr} {t t' : TA} (h : PA X e t) (q : ∀ σ H Q, t' σ H Q → t σ H Q) : PA X e t' := ⟨fun pos pins s σ H Q I z => h.run pos pins s σ H Q I (q σ H Q z)⟩
theorem PT.imp {X : Cx} {e : Expr} {t t' : TT} (h : PT X e t) (q : ∀ σ H Q, t' σ H Q → t σ H Q) : PT X e t' := ⟨fun pins s σ H Q I z => h.run pins s σ H Q I (q σ H Q z)⟩
theorem PS.imp {X : Cx} {e : Stmt} {t t' : TS} (h : PS X e t) (q : ∀ D σ H, t' D σ H → t D σ H) : PS X e t' := ⟨fun pins s σ H Q I z => h.run pins s σ H Q I (q Q σ H z)⟩
theorem PSs.imp {X : Cx} {e : List Stmt} {t t' : TS} (h : PSs X e t) (q : ∀ D σ H, t' D σ H → t D σ H) : PSs X e t' := ⟨fun pins s σ H Q I z => h.run pins s σ H Q I (q Q σ H z)⟩
end Tw
namespace Tw
open PySem PySem.Spec PyProof.Rows L2
section
variable {K : PySem.W.Frag} {cl : Nat → Addr} {M : Addr → Prop} {H : Hp}
theorem slots_dats : ∀ {as : List D} {xs : S} {f : List Addr}, Slots K cl M H (as.map some) xs f → ∃ vs, xs = vs.map some ∧ Dats K cl M H as vs f
  | [], xs, f, h => ⟨[], h.1, rfl, h.2⟩
  | a :: as, xs, f, h => by
    obtain ⟨v, xs', f1, f2, e, e2, h1, h2⟩ := h
    obtain ⟨vs, e3, h3⟩ := slots_dats (as := as) h2
    subst e3
    exact ⟨v :: vs, e, v, vs, f1, f2, rfl, e2, h1, h3⟩
theorem dats_slots : ∀ {as : List D} {vs : List V} {f : List Addr}, Dats K cl M H as vs f → Slots K cl M H (as.map some) (vs.map some) f
  | [], vs, f, h => by rw [h.1]; exact ⟨rfl, h.2⟩
  | a :: as, vs, f, h => by
    obtain ⟨v, vs', f1, f2, e, e2, h1, h2⟩ := h
    subst e
    exact ⟨v, _, f1, f2, rfl, e2, h1, dats_slots h2⟩
theorem map_some_inj : ∀ {as bs : List V}, as.map some = bs.map some → as = bs
  | [], [], _ => rfl
  | [], _ :: _, h => by simp at h
  | _ :: _, [], h => by simp at h
  | a :: as, b :: bs, h => by
    simp only [List.map_cons, List.cons.injEq, Option.some.injEq] at h
    rw [h.1, map_some_inj h.2]
/-- the front things, all at once -/
theorem Rel.split {as : List D} {vs : List V} {κ : Tw.Env} {τ : S} (h : Rel K cl H (as.map some ++ κ) (vs.map some ++ τ)) (l : as.length = vs.length) :
    ∃ f g, (f ++ g).Nodup ∧ Dats K cl (· ∈ f ++ g) H as vs f ∧ Slots K cl (· ∈ f ++ g) H κ τ g := by
  obtain ⟨F, n, h⟩ := h
  obtain ⟨xs, ys, g, k, e, e2, l2, h1, h2⟩ := slots_split h
  obtain ⟨rfl, rfl⟩ := List.append_inj e (by simp at l2; simp; omega)
  subst e2
  obtain ⟨vs', e3, h3⟩ := slots_dats h1
  have := map_some_inj e3
  subst this
  exact ⟨g, k, n, h3, h2⟩
theorem Rel.heads {as : List D} {vs : List V} {κ : Tw.Env} {τ : S} (h : Rel K cl H (as.map some ++ κ) (vs.map some ++ τ)) (l : as.length = vs.length) : ∃ M f, Dats K cl M H as vs f := by
  obtain ⟨f, g, n, h1, h2⟩ := h.split l
  exact ⟨_, _, h1⟩
theorem Rel.head {a : D} {v : V} {κ : Tw.Env} {τ : S} (h : Rel K cl H (some a :: κ) (some v :: τ)) : ∃ M f, Dat K cl M H a v f := by
  obtain ⟨M, x, f, e, q⟩ := h.top
  cases e
  exact ⟨M, f, q⟩
/-- a thing that may not be changed, read off the front ones -/
theorem derive {as : List D} {vs : List V} {κ : Tw.Env} {τ : S} {d : D} {v : V} {f g : List Addr} (n : (f ++ g).Nodup) (h1 : Dats K cl (· ∈ f ++ g) H as vs f) (h2 : Slots K cl (· ∈ f ++ g) H κ τ g)
    (q : Dat K cl (· ∈ f ++ g) H d v []) : Rel K cl H (some d :: (as.map some ++ κ)) (some v :: (vs.map some ++ τ)) :=
  ⟨f ++ g, n, v, _, [], f ++ g, rfl, rfl, q, slots_app (dats_slots h1) h2⟩
theorem newL {as es : List D} {vs us : List V} {κ : Tw.Env} {τ : S} {p : Addr} {f g : List Addr} (n : (f ++ g).Nodup) (h1 : Dats K cl (· ∈ f ++ g) H as vs f) (h2 : Slots K cl (· ∈ f ++ g) H κ τ g) (hp : H p = none)
    (q : Dats K cl (· ∈ f ++ g) H es us []) : Rel K cl (upd H p (.lst us)) (some (.lst true es) :: (as.map some ++ κ)) (some (.ref p) :: (vs.map some ++ τ)) := by
  have np : p ∉ f ++ g := fun z => by
    obtain ⟨_, o, e⟩ := slots_in (slots_app (dats_slots h1) h2) p z
    rw [hp] at e; cases e
  have tr : ∀ a o, H a = some o → upd H p (.lst us) a = some o := same_upd hp
  refine ⟨p :: (f ++ g), List.nodup_cons.mpr ⟨np, n⟩, .ref p, _, [p], f ++ g, rfl, rfl, ⟨p, us, [], rfl, upd_same, ?_, .inl ⟨rfl, List.mem_cons_self, rfl⟩⟩, ?_⟩
  · exact dats_tr q (fun a z => (List.mem_cons.mp z).elim (fun e => .inr (by rw [e]; exact hp)) .inl) (fun a z => nomatch z) fun a o e _ => tr a o e
  · exact slots_tr (slots_app (dats_slots h1) h2) (fun a z => (List.mem_cons.mp z).elim (fun e => .inr (by rw [e]; exact hp)) .inl) (fun a z => List.mem_cons_of_mem _ z) fun a o e _ => tr a o e
theorem newT {as es : List D} {vs us : List V} {κ : Tw.Env} {τ : S} {p : Addr} {f g : List Addr} (n : (f ++ g).Nodup) (h1 : Dats K cl (· ∈ f ++ g) H as vs f) (h2 : Slots K cl (· ∈ f ++ g) H κ τ g) (hp : H p = none)
    (q : Dats K cl (· ∈ f ++ g) H es us []) : Rel K cl (upd H p (.tup us)) (some (.tup es) :: (as.map some ++ κ)) (some (.ref p) :: (vs.map some ++ τ)) := by
  have np : p ∉ f ++ g := fun z => by
    obtain ⟨_, o, e⟩ := slots_in (slots_app (dats_slots h1) h2) p z
    rw [hp] at e; cases e
  have tr : ∀ a o, H a = some o → upd H p (.tup us) a = some o := same_upd hp
  refine ⟨f ++ g, n, .ref p, _, [], f ++ g, rfl, rfl, ⟨p, us, rfl, .inl ⟨upd_same, np⟩, ?_⟩, ?_⟩
  · exact dats_tr q (fun a z => .inl z) (fun a z => nomatch z) fun a o e _ => tr a o e
  · exact slots_tr (slots_app (dats_slots h1) h2) (fun a z => .inl z) (fun a z => z) fun a o e _ => tr a o e
/-- the front things into a new list, a new tuple -/
theorem Rel.packL {as : List D} {vs : List V} {κ : Tw.Env} {τ : S} {p : Addr} (h : Rel K cl H (as.map some ++ κ) (vs.map some ++ τ)) (l : as.length = vs.length) (hp : H p = none) :
    Rel K cl (upd H p (.lst vs)) (some (.lst true as) :: κ) (some (.ref p) :: τ) := by
  obtain ⟨f, g, n, h1, h2⟩ := h.split l
  have np : p ∉ f ++ g := fun z => by
    obtain ⟨_, o, e⟩ := slots_in (slots_app (dats_slots h1) h2) p z
    rw [hp] at e; cases e
  have tr : ∀ a o, H a = some o → upd H p (.lst vs) a = some o := same_upd hp
  refine ⟨p :: f ++ g, List.nodup_cons.mpr ⟨np, n⟩, .ref p, _, p :: f, g, rfl, rfl, ⟨p, vs, f, rfl, upd_same, ?_, .inl ⟨rfl, List.mem_cons_self, rfl⟩⟩, ?_⟩
  · exact dats_tr h1 (fun a z => (List.mem_cons.mp z).elim (fun e => .inr (by rw [e]; exact hp)) .inl) (fun a z => List.mem_cons_of_mem _ (List.mem_append_left _ z)) fun a o e _ => tr a o e
  · exact slots_tr h2 (fun a z => (List.mem_cons.mp z).elim (fun e => .inr (by rw [e]; exact hp)) .inl) (fun a z => List.mem_cons_of_mem _ (List.mem_append_right _ z)) fun a o e _ => tr a o e
theorem Rel.packT {as : List D} {vs : List V} {κ : Tw.Env} {τ : S} {p : Addr} (h : Rel K cl H (as.map some ++ κ) (vs.map some ++ τ)) (l : as.length = vs.length) (hp : H p = none) :
    Rel K cl (upd H p (.tup vs)) (some (.tup as) :: κ) (some (.ref p) :: τ) := by
  obtain ⟨f, g, n, h1, h2⟩ := h.split l
  have np : p ∉ f ++ g := fun z => by
    obtain ⟨_, o, e⟩ := slots_in (slots_app (dats_slots h1) h2) p z
    rw [hp] at e; cases e
  have tr : ∀ a o, H a = some o → upd H p (.tup vs) a = some o := same_upd hp
  refine ⟨f ++ g, n, .ref p, _, f, g, rfl, rfl, ⟨p, vs, rfl, .inl ⟨upd_same, np⟩, ?_⟩, ?_⟩
  · exact dats_tr h1 (fun a z => .inl z) (fun a z => (List.mem_append_left _ z)) fun a o e _ => tr a o e
  · exact slots_tr h2 (fun a z => .inl z) (fun a z => List.mem_append_right _ z) fun a o e _ => tr a o e
theorem two_of {as : List D} {vs : List V} {a b : D} (e : as = [a, b]) (l : as.length = vs.length) : ∃ x y, vs = [x, y] := by
  subst e
  match vs, l with
  | [x, y], _ => exact ⟨x, y, rfl⟩
theorem one_of {as : List D} {vs : List V} {a : D} (e : as = [a]) (l : as.length = vs.length) : ∃ x, vs = [x] := by
  subst e
  match vs, l with
  | [x], _ => exact ⟨x, rfl⟩
/-- the reading of a list of ints -/
theorem dats_ints : ∀ {ns : List Int} {vs : List V} {f : List Addr}, Dats K cl M H (ns.map D.int) vs f → vs = ns.map V.int
  | [], _, _, h => h.1
  | n :: ns, _, _, h => by
    obtain ⟨v, vs', f1, f2, e1, _, h1, h2⟩ := h
    rw [e1, h1.1, dats_ints h2]
    rfl
theorem ints_dats : ∀ (ns : List Int), Dats K cl M H (ns.map D.int) (ns.map V.int) []
  | [] => ⟨rfl, rfl⟩
  | n :: ns => ⟨_, _, [], [], rfl, rfl, ⟨rfl, rfl⟩, ints_dats ns⟩
/-- a heap's own ways of reading -/
theorem dat_tup {ds : List D} {v : V} {f : List Addr} (h : Dat K cl M H (.tup ds) v f) : ∃ a vs, v = .ref a ∧ SqT K H a vs ∧ Dats K cl M H ds vs f := by
  obtain ⟨a, vs, e, t, hd⟩ := h
  exact ⟨a, vs, e, t.sq, hd⟩
theorem dat_lst {m : Bool} {ds : List D} {v : V} {f : List Addr} (h : Dat K cl M H (.lst m ds) v f) : ∃ a vs g, v = .ref a ∧ H a = some (.lst vs) ∧ Dats K cl M H ds vs g := by
  obtain ⟨a, vs, g, e, t, hd, _⟩ := h
  exact ⟨a, vs, g, e, t, hd⟩
theorem dats1 {a : D} {v : V} {f : List Addr} (h : Dats K cl M H [a] [v] f) : Dat K cl M H a v f := by
  obtain ⟨v', vs', f1, f2, e, e2, h1, h2⟩ := h
  cases e
  obtain ⟨_, rfl⟩ := h2
  rw [e2, List.append_nil]
  exact h1
theorem dats2 {a b : D} {v u : V} {f : List Addr} (h : Dats K cl M H [a, b] [v, u] f) : ∃ f1 f2, f = f1 ++ f2 ∧ Dat K cl M H a v f1 ∧ Dat K cl M H b u f2 := by
  obtain ⟨v', vs', f1, f2, e, e2, h1, h2⟩ := h
  cases e
  exact ⟨f1, f2, e2, h1, dats1 h2⟩
theorem oks_nil {ds : List D} {vs : List V} {f : List Addr} (h : Dats K cl M H ds vs f) (o : D.oks ds = true) : Dats K cl M H ds vs [] := by
  have e := dats_ok h o
  rwa [e] at h
end

/-! ## operations -/
section
variable {X : Cx} {cl : Nat → Addr}
def rw2 (r : R2) : List V → Hp → VK → Prop := fun vs H Q => match vs with
  | [x, y] => r x y H Q
  | _ => False
def rw1 (r : V → Hp → VK → Prop) : List V → Hp → VK → Prop := fun vs H Q => match vs with
  | [x] => r x H Q
  | _ => False
variable {W : WX} {a b c : Expr} {o1 o2 : Opd} {pos : Pos}
theorem j_bin {op : Operator} {r : R2} {g : List D → Option D} (ho : OpR X (binaryOp op) r) (hs : OpS X.K cl (rw2 r) g) (ha : PE X a (tOpd X.K cl W o1)) (hb : PE X b (tOpd X.K cl W o2)) : PE X (.BinOp a op b pos) (tE X.K cl W (fN g [o1, o2])) :=
  PE.imp (pe_op ho ha hb) fun σ H Q h => tA_os (os := [o1, o2]) (fN_tA hs h)
theorem j_cmp {op : CmpOp} {r : R2} {g : List D → Option D} (ho : OpR X (compareOp op) r) (hs : OpS X.K cl (rw2 r) g) (hm : behindInMarks op b = false) (ha : PE X a (tOpd X.K cl W o1)) (hb : PE X b (tOpd X.K cl W o2)) : PE X (.Compare a [op] [b] pos) (tE X.K cl W (fN g [o1, o2])) :=
  PE.imp (pe_cmpR ho ha hb hm) fun σ H Q h => tA_os (os := [o1, o2]) (fN_tA hs h)
theorem j_un {op : UnaryOp} {r : V → Hp → VK → Prop} {g : List D → Option D} (ho : UnR X (unaryOp op) r) (hs : OpS X.K cl (rw1 r) g) (ha : PE X a (tOpd X.K cl W o1)) : PE X (.UnaryOp op a pos) (tE X.K cl W (fN g [o1])) :=
  PE.imp (pe_un ho ha) fun σ H Q h => tA_os (os := [o1]) (fN_tA hs h)
theorem j_ix {r : R2} {g : List D → Option D} (ho : IxR X r) (hs : OpS X.K cl (rw2 r) g) (hp : PlainIx b) (ha : PE X a (tOpd X.K cl W o1)) (hb : PE X b (tOpd X.K cl W o2)) : PE X (.Subscript a b pos) (tE X.K cl W (fN g [o1, o2])) :=
  PE.imp (pe_ix ho ha hb hp) fun σ H Q h => tA_os (os := [o1, o2]) (fN_tA hs h)
variable {os : List Opd} {e : Expr} {es : List Expr} {x : Str} {p : Pos}
theorem ja_nil : PA X [] (tOs X.K cl W []) := pa_nil
theorem ja_cons (ha : PE X e (tOpd X.K cl W o1)) (hr : PA X es (tOs X.K cl W os)) (hs : starEach (e :: es) X.env = (false, eval e X.env) :: starEach es X.env := by rfl) : PA X (e :: es) (tOs X.K cl W (o1 :: os)) := pa_cons ha hr hs
theorem j_callB {id : String} {r : List V → Hp → VK → Prop} {g : List D → Option D} (hc : CallR X (.builtin id) r) (hs : OpS X.K cl r g) (hm : X.mg x = none) (hv : bootBuiltins x = some (.builtin id)) (ha : PA X (e :: es) (tOs X.K cl W os)) (hg : Gl X x := by rfl) (hn : x ≠ "__name__" := by decide) (hdb : (x == ("__debug__" : Str)) = false := by decide)
    (he : starEach (e :: es) X.env = (false, eval e X.env) :: starEach es X.env := by rfl) (hpl : (backTo pos (starEach es X.env)).any (·.1) = false := by rfl) : PE X (.Call (.Name x p) (e :: es) [] pos) (tE X.K cl W (fN g os)) :=
  PE.imp (pe_callB hc hg hm hv ha hn hdb he hpl) fun σ H Q h => tA_os (fN_tA hs h)
theorem j_callTy {id : String} {r : List V → Hp → VK → Prop} {g : List D → Option D} (hc : CallR X (.type id) r) (hs : OpS X.K cl r g) (hm : X.mg x = none) (hv : bootBuiltins x = some (.type id)) (ha : PA X (e :: es) (tOs X.K cl W os)) (hg : Gl X x := by rfl) (hn : x ≠ "__name__" := by decide) (hdb : (x == ("__debug__" : Str)) = false := by decide)
    (he : starEach (e :: es) X.env = (false, eval e X.env) :: starEach es X.env := by rfl) (hpl : (backTo pos (starEach es X.env)).any (·.1) = false := by rfl) : PE X (.Call (.Name x p) (e :: es) [] pos) (tE X.K cl W (fN g os)) :=
  PE.imp (pe_callTy hc hg hm hv ha hn hdb he hpl) fun σ H Q h => tA_os (fN_tA hs h)

/-! ### scalars -/
def gInt2 (f : Int → Int → Option D) : List D → Option D
  | [.int i, .int j] => f i j
  | _ => none
theorem s_int2 {K : PySem.W.Frag} {C : Int → Int → Prop} [∀ i j, Decidable (C i j)] {g : Int → Int → V} {gd : Int → Int → D} (hd : ∀ M H i j, Dat K cl M H (gd i j) (g i j) []) :
    OpS K cl (rw2 (rI C g)) (gInt2 fun i j => if C i j then some (gd i j) else none) := by
  intro as d vs H κ τ Q h l r q
  match as, h with
  | [.int i, .int j], h =>
    obtain ⟨x, y, rfl⟩ := two_of rfl l
    simp only [gInt2] at h
    split at h
    · rename_i c
      cases h
      obtain ⟨M, f, hh⟩ := r.heads l
      obtain ⟨f1, f2, _, h1, h2⟩ := dats2 hh
      exact ⟨i, j, h1.1, h2.1, c, q _ _ (r.push fun M => hd M H i j)⟩
    · cases h
theorem s_int20 {K : PySem.W.Frag} {g : Int → Int → V} {gd : Int → Int → D} (hd : ∀ M H i j, Dat K cl M H (gd i j) (g i j) []) : OpS K cl (rw2 (rI0 g)) (gInt2 fun i j => some (gd i j)) := by
  intro as d vs H κ τ Q h l r q
  match as, h with
  | [.int i, .int j], h =>
    obtain ⟨x, y, rfl⟩ := two_of rfl l
    cases h
    obtain ⟨M, f, hh⟩ := r.heads l
    obtain ⟨f1, f2, _, h1, h2⟩ := dats2 hh
    exact ⟨i, j, h1.1, h2.1, q _ _ (r.push fun M => hd M H i j)⟩
def gInt1 (f : Int → D) : List D → Option D
  | [.int i] => some (f i)
  | _ => none
theorem s_int1 {K : PySem.W.Frag} {g : Int → V} {gd : Int → D} (hd : ∀ M H i, Dat K cl M H (gd i) (g i) []) : OpS K cl (rw1 (rU g)) (gInt1 gd) := by
  intro as d vs H κ τ Q h l r q
  match as, h with
  | [.int i], h =>
    obtain ⟨x, rfl⟩ := one_of rfl l
    cases h
    obtain ⟨M, f, hh⟩ := r.heads l
    exact ⟨i, (dats1 hh).1, q _ _ (r.push fun M => hd M H i)⟩
/-! ### + -/
def lenOk (n : Nat) : Bool := decide (n ≤ sizeLine)
def gAdd : List D → Option D
  | [.int i, .int j] => some (.int (i + j))
  | [.str x, .str y] => if lenOk (x.length + y.length) then some (.str (x ++ y)) else none
  | [.tup xs, .tup ys] => if D.oks xs && D.oks ys && lenOk (xs.length + ys.length) then some (.tup (xs ++ ys)) else none
  | [.lst _ xs, .lst _ ys] => if D.oks xs && D.oks ys && lenOk (xs.length + ys.length) then some (.lst true (xs ++ ys)) else none
  | _ => none
def rAddAll (K : PySem.W.Frag) : R2 := fun x y H Q => rI0 (fun i j => .int (i + j)) x y H Q ∨ ((fun x y H Q => ∃ i j, x = .str i ∧ y = .str j ∧ i.length + j.length ≤ sizeLine ∧ Q (.str (i ++ j)) H) : R2) x y H Q ∨ rCatA K x y H Q ∨ rCat x y H Q
theorem op_addAll : OpR X (binaryOp .Add) (rAddAll X.K) := op_add.or (op_add_str.or (op_catA.or op_cat))
theorem s_add {K : PySem.W.Frag} : OpS K cl (rw2 (rAddAll K)) gAdd := by
  intro as d vs H κ τ Q h l r q
  match as, h with
  | [.int i, .int j], h =>
    obtain ⟨x, y, rfl⟩ := two_of rfl l
    cases h
    obtain ⟨M, f, hh⟩ := r.heads l
    obtain ⟨f1, f2, _, h1, h2⟩ := dats2 hh
    exact .inl ⟨i, j, h1.1, h2.1, q _ _ (r.push fun M => ⟨rfl, rfl⟩)⟩
  | [.str i, .str j], h =>
    obtain ⟨x, y, rfl⟩ := two_of rfl l
    simp only [gAdd] at h
    split at h
    · rename_i c
      cases h
      obtain ⟨M, f, hh⟩ := r.heads l
      obtain ⟨f1, f2, _, h1, h2⟩ := dats2 hh
      exact .inr (.inl ⟨i, j, h1.1, h2.1, of_decide_eq_true c, q _ _ (r.push fun M => ⟨rfl, rfl⟩)⟩)
    · cases h
  | [.tup us, .tup ws], h =>
    obtain ⟨x, y, rfl⟩ := two_of rfl l
    simp only [gAdd] at h
    split at h
    · rename_i c
      cases h
      simp only [Bool.and_eq_true] at c
      obtain ⟨⟨c1, c2⟩, c3⟩ := c
      have c3 := of_decide_eq_true c3
      obtain ⟨f, g, n, hh, hr⟩ := r.split l
      obtain ⟨f1, f2, _, h1, h2⟩ := dats2 hh
      obtain ⟨a, xs, e1, t1, d1⟩ := h1
      obtain ⟨b, ys, e2, t2, d2⟩ := h2
      subst e1; subst e2
      have d1 := oks_nil d1 c1
      have d2 := oks_nil d2 c2
      have l1 := dats_length d1
      have l2 := dats_length d2
      refine .inr (.inr (.inl ⟨a, b, xs, ys, rfl, rfl, t1.sq, t2.sq, by omega, fun z => ?_, fun _ z => ?_, fun _ _ p hp => q _ _ (newT n hh hr hp (dats_nil_append d1 d2))⟩))
      · refine q _ _ (derive n hh hr ⟨b, ys, rfl, t2, ?_⟩)
        have e : us = [] := List.eq_nil_of_length_eq_zero (by rw [← l1, z]; rfl)
        rw [e]; exact d2
      · refine q _ _ (derive n hh hr ⟨a, xs, rfl, t1, ?_⟩)
        have e : ws = [] := List.eq_nil_of_length_eq_zero (by rw [← l2, z]; rfl)
        rw [e, List.append_nil]; exact d1
    · cases h
  | [.lst m us, .lst m2 ws], h =>
    obtain ⟨x, y, rfl⟩ := two_of rfl l
    simp only [gAdd] at h
    split at h
    · rename_i c
      cases h
      simp only [Bool.and_eq_true] at c
      obtain ⟨⟨c1, c2⟩, c3⟩ := c
      have c3 := of_decide_eq_true c3
      obtain ⟨f, g, n, hh, hr⟩ := r.split l
      obtain ⟨f1, f2, _, h1, h2⟩ := dats2 hh
      obtain ⟨a, xs, g1, e1, t1, d1, _⟩ := h1
      obtain ⟨b, ys, g2, e2, t2, d2, _⟩ := h2
      subst e1; subst e2
      have d1 := oks_nil d1 c1
      have d2 := oks_nil d2 c2
      have l1 := dats_length d1
      have l2 := dats_length d2
      exact .inr (.inr (.inr ⟨a, b, xs, ys, rfl, rfl, t1, t2, by omega, fun p hp => q _ _ (newL n hh hr hp (dats_nil_append d1 d2))⟩))
    · cases h
end
end Tw
noncomputable section
namespace Tw
open PySem PySem.Spec PyProof.Rows L2
section
variable {X : Cx} {cl : Nat → Addr} {K : PySem.W.Frag}
theorem dint {M H i} : Dat K cl M H (.int i) (.int i) [] := ⟨rfl, rfl⟩
theorem dbl {M H b} : Dat K cl M H (.bl b) (.bl b) [] := ⟨rfl, rfl⟩
/-! ### numbers -/
def gSub : List D → Option D := gInt2 fun i j => some (.int (i - j))
theorem s_sub : OpS K cl (rw2 (rI0 fun i j => .int (i - j))) gSub := s_int20 fun _ _ _ _ => dint
instance : ∀ i j, Decidable (CMul i j) := fun _ _ => Classical.propDecidable _
instance : ∀ i j, Decidable (CDivN i j) := fun _ _ => Classical.propDecidable _
instance : ∀ i j, Decidable (CPow i j) := fun _ _ => Classical.propDecidable _
def gFdiv : List D → Option D := gInt2 fun i j => if CDivN i j then some (.int (i.fdiv j)) else none
theorem s_fdiv : OpS K cl (rw2 (rI CDivN fun i j => .int (i.fdiv j))) gFdiv := s_int2 fun _ _ _ _ => dint
def gMod : List D → Option D := gInt2 fun i j => if j ≠ 0 then some (.int (i.fmod j)) else none
theorem s_mod : OpS K cl (rw2 (rI (fun _ j => j ≠ 0) fun i j => .int (i.fmod j))) gMod := s_int2 fun _ _ _ _ => dint
def gPow : List D → Option D := gInt2 fun i j => if CPow i j then some (.int (i ^ j.toNat)) else none
theorem s_pow : OpS K cl (rw2 (rI CPow fun i j => .int (i ^ j.toNat))) gPow := s_int2 fun _ _ _ _ => dint
def gShl : List D → Option D := gInt2 fun i j => if CPow i j then some (.int (i * 2 ^ j.toNat)) else none
theorem s_shl : OpS K cl (rw2 (rI CPow fun i j => .int (i * 2 ^ j.toNat))) gShl := s_int2 fun _ _ _ _ => dint
def gShr : List D → Option D := gInt2 fun i j => if 0 ≤ j then some (.int (i / 2 ^ j.toNat)) else none
theorem s_shr : OpS K cl (rw2 (rI (fun _ j => 0 ≤ j) fun i j => .int (i / 2 ^ j.toNat))) gShr := s_int2 fun _ _ _ _ => dint
def gBand : List D → Option D := gInt2 fun i j => some (.int (Builtin.bitAnd i j))
theorem s_band : OpS K cl (rw2 (rI0 fun i j => .int (Builtin.bitAnd i j))) gBand := s_int20 fun _ _ _ _ => dint
def gBor : List D → Option D := gInt2 fun i j => some (.int (Builtin.bitOr i j))
theorem s_bor : OpS K cl (rw2 (rI0 fun i j => .int (Builtin.bitOr i j))) gBor := s_int20 fun _ _ _ _ => dint
def gBxor : List D → Option D := gInt2 fun i j => some (.int (Builtin.bitXor i j))
theorem s_bxor : OpS K cl (rw2 (rI0 fun i j => .int (Builtin.bitXor i j))) gBxor := s_int20 fun _ _ _ _ => dint
def gLt : List D → Option D := gInt2 fun i j => some (.bl (decide (i < j)))
theorem s_lt : OpS K cl (rw2 (rI0 fun i j => .bl (decide (i < j)))) gLt := s_int20 fun _ _ _ _ => dbl
def gLe : List D → Option D := gInt2 fun i j => some (.bl (decide (i ≤ j)))
theorem s_le : OpS K cl (rw2 (rI0 fun i j => .bl (decide (i ≤ j)))) gLe := s_int20 fun _ _ _ _ => dbl
def gGt : List D → Option D := gInt2 fun i j => some (.bl (decide (j < i)))
theorem s_gt : OpS K cl (rw2 (rI0 fun i j => .bl (decide (j < i)))) gGt := s_int20 fun _ _ _ _ => dbl
def gGe : List D → Option D := gInt2 fun i j => some (.bl (decide (j ≤ i)))
theorem s_ge : OpS K cl (rw2 (rI0 fun i j => .bl (decide (j ≤ i)))) gGe := s_int20 fun _ _ _ _ => dbl
def gNeg : List D → Option D := gInt1 fun i => .int (-i)
theorem s_neg : OpS K cl (rw1 (rU fun i => .int (-i))) gNeg := s_int1 fun _ _ _ => dint
def gInv : List D → Option D := gInt1 fun i => .int (Builtin.bitNot i)
theorem s_inv : OpS K cl (rw1 (rU fun i => .int (Builtin.bitNot i))) gInv := s_int1 fun _ _ _ => dint
/-- * of ints, of a tuple and a written number -/
def gMul : List D → Option D
  | [.int i, .int j] => if CMul i j then some (.int (i * j)) else none
  | [.tup xs, .int k] => if D.oks xs && (!xs.isEmpty && decide (2 ≤ k ∧ k ≤ 1000 ∧ xs.length ≤ 1000)) then some (.tup (List.replicate k.toNat xs).flatten) else none
  | _ => none

def rMulAll (K : PySem.W.Frag) : R2 := fun x y H Q => rI CMul (fun i j => .int (i * j)) x y H Q ∨ rRepT K x y H Q
theorem op_mulAll : OpR X (binaryOp .Mult) (rMulAll X.K) := op_mul.or op_repT
theorem dats_rep {M H} {xs : List D} {vs : List V} (h : Dats K cl M H xs vs []) : ∀ n : Nat, Dats K cl M H (List.replicate n xs).flatten (List.replicate n vs).flatten []
  | 0 => ⟨rfl, rfl⟩
  | n + 1 => by
    rw [List.replicate_succ, List.replicate_succ, List.flatten_cons, List.flatten_cons]
    exact dats_nil_append h (dats_rep h n)
theorem s_mul : OpS K cl (rw2 (rMulAll K)) gMul := by
  intro as d vs H κ τ Q h l r q
  match as, h with
  | [.int i, .int j], h =>
    obtain ⟨x, y, rfl⟩ := two_of rfl l
    simp only [gMul] at h
    split at h
    · rename_i c
      cases h
      obtain ⟨M, f, hh⟩ := r.heads l
      obtain ⟨f1, f2, _, h1, h2⟩ := dats2 hh
      exact .inl ⟨i, j, h1.1, h2.1, c, q _ _ (r.push fun M => dint)⟩
    · cases h
  | [.tup us, .int k], h =>
    obtain ⟨x, y, rfl⟩ := two_of rfl l
    simp only [gMul] at h
    split at h
    · rename_i c
      cases h
      simp only [Bool.and_eq_true, decide_eq_true_eq] at c
      obtain ⟨c1, c2, c3⟩ := c
      obtain ⟨f, g, n, hh, hr⟩ := r.split l
      obtain ⟨f1, f2, _, h1, h2⟩ := dats2 hh
      obtain ⟨a, xs, e1, t1, d1⟩ := h1
      have e2 := h2.1
      subst e1; subst e2
      have d1 := oks_nil d1 c1
      have l1 := dats_length d1
      refine .inr ⟨a, k, xs, rfl, rfl, t1.sq, fun z => ?_, c3.1, c3.2.1, by omega, fun p hp => q _ _ (newT n hh hr hp (dats_rep d1 _))⟩
      subst z
      cases us with
      | nil => simp at c2
      | cons _ _ => simp at l1
    · cases h
/-! ### == and != of data -/
mutual
def D.py : D → Option PyData
  | .non => some .none | .bl b => some (.bool b) | .int i => some (.int i) | .str x => some (.str x)
  | .tup xs => (D.pys xs).map .tuple
  | .lst _ xs => (D.pys xs).map .list
  | _ => none
def D.pys : List D → Option (List PyData)
  | [] => some []
  | d :: ds => (D.py d).bind fun p => (D.pys ds).map fun ps => p :: ps
end
mutual
theorem dat_dp {M H} : ∀ {d : D} {p : PyData} {v : V} {f : List Addr}, Dat K cl M H d v f → D.py d = some p → Dp K H v p
  | .non, _, _, _, h, e => by cases e; rw [h.1]; exact .non
  | .bl b, _, _, _, h, e => by cases e; rw [h.1]; exact .bl b
  | .int b, _, _, _, h, e => by cases e; rw [h.1]; exact .int b
  | .str b, _, _, _, h, e => by cases e; rw [h.1]; exact .str b
  | .tup ds, p, _, _, h, e => by
    obtain ⟨a, vs, rfl, t, hd⟩ := h
    simp only [D.py, Option.map_eq_some_iff] at e
    obtain ⟨ps, e, rfl⟩ := e
    exact .tup t.sq (dats_dp hd e)
  | .lst m ds, p, _, _, h, e => by
    obtain ⟨a, vs, g, rfl, t, hd, _⟩ := h
    simp only [D.py, Option.map_eq_some_iff] at e
    obtain ⟨ps, e, rfl⟩ := e
    exact .lst (.of t) (dats_dp hd e)
  | .ty _, _, _, _, _, e => by simp [D.py] at e
  | .cl _, _, _, _, _, e => by simp [D.py] at e
  | .scr _, _, _, _, _, e => by simp [D.py] at e
  | .obj _ _ _ _, _, _, _, _, e => by simp [D.py] at e
  | .dct _ _ _, _, _, _, _, e => by simp [D.py] at e
theorem dats_dp {M H} : ∀ {ds : List D} {ps : List PyData} {vs : List V} {f : List Addr}, Dats K cl M H ds vs f → D.pys ds = some ps → DpAll K H vs ps
  | [], _, _, _, h, e => by cases e; rw [h.1]; exact .nil
  | d :: ds, ps, _, _, h, e => by
    obtain ⟨v, vs', f1, f2, rfl, _, h1, h2⟩ := h
    simp only [D.pys, Option.bind_eq_some_iff, Option.map_eq_some_iff] at e
    obtain ⟨p, e1, ps', e2, rfl⟩ := e
    exact .cons (dat_dp h1 e1) (dats_dp h2 e2)
end
def gEq : List D → Option D
  | [a, b] => (D.py a).bind fun p => (D.py b).bind fun q => if SeqAt.shaped p && SeqAt.shaped q then some (.bl (PyData.eqv p q)) else none
  | _ => none
def gNe : List D → Option D
  | [a, b] => (D.py a).bind fun p => (D.py b).bind fun q => if SeqAt.shaped p && SeqAt.shaped q then some (.bl (!PyData.eqv p q)) else none
  | _ => none
theorem s_eq : OpS K cl (rw2 (rEqD K)) gEq := by
  intro as d vs H κ τ Q h l r q
  match as, h with
  | [a, b], h =>
    obtain ⟨x, y, rfl⟩ := two_of rfl l
    simp only [gEq, Option.bind_eq_some_iff] at h
    obtain ⟨p, e1, p2, e2, h⟩ := h
    split at h
    · rename_i c
      cases h
      simp only [Bool.and_eq_true] at c
      obtain ⟨M, f, hh⟩ := r.heads l
      obtain ⟨f1, f2, _, h1, h2⟩ := dats2 hh
      exact ⟨p, p2, dat_dp h1 e1, dat_dp h2 e2, c.1, c.2, q _ _ (r.push fun M => dbl)⟩
    · cases h
theorem s_ne : OpS K cl (rw2 (rNeD K)) gNe := by
  intro as d vs H κ τ Q h l r q
  match as, h with
  | [a, b], h =>
    obtain ⟨x, y, rfl⟩ := two_of rfl l
    simp only [gNe, Option.bind_eq_some_iff] at h
    obtain ⟨p, e1, p2, e2, h⟩ := h
    split at h
    · rename_i c
      cases h
      simp only [Bool.and_eq_true] at c
      obtain ⟨M, f, hh⟩ := r.heads l
      obtain ⟨f1, f2, _, h1, h2⟩ := dats2 hh
      exact ⟨p, p2, dat_dp h1 e1, dat_dp h2 e2, c.1, c.2, q _ _ (r.push fun M => dbl)⟩
    · cases h
/-! ### is None -/
def D.isNon : D → Bool
  | .non => true
  | _ => false
theorem dat_non {M H} : ∀ {d : D} {v : V} {f : List Addr}, Dat K cl M H d v f → decide (v = .non) = D.isNon d
  | .non, _, _, h => by rw [h.1]; rfl
  | .bl b, _, _, h => by rw [h.1]; rfl
  | .int b, _, _, h => by rw [h.1]; rfl
  | .str b, _, _, h => by rw [h.1]; rfl
  | .ty b, _, _, h => by rw [h.1]; rfl
  | .cl b, _, _, h => by rw [h.1]; rfl
  | .scr b, _, _, h => by obtain ⟨_, a, rfl, _⟩ := h; rfl
  | .tup b, _, _, h => by obtain ⟨a, _, rfl, _⟩ := h; rfl
  | .lst _ b, _, _, h => by obtain ⟨a, _, _, rfl, _⟩ := h; rfl
  | .obj _ _ _ _, _, _, h => by obtain ⟨a, _, _, _, rfl, _⟩ := h; rfl
  | .dct _ _ _, _, _, h => by obtain ⟨a, _, _, rfl, _⟩ := h; rfl
def gIsN : List D → Option D
  | [a, .non] => some (.bl (D.isNon a))
  | _ => none
def gNotN : List D → Option D
  | [a, .non] => some (.bl (!D.isNon a))
  | _ => none
theorem s_isN : OpS K cl (rw2 fun x y H Q => y = .non ∧ Q (.bl (decide (x = .non))) H) gIsN := by
  intro as d vs H κ τ Q h l r q
  match as, h with
  | [a, .non], h =>
    obtain ⟨x, y, rfl⟩ := two_of rfl l
    cases h
    obtain ⟨M, f, hh⟩ := r.heads l
    obtain ⟨f1, f2, _, h1, h2⟩ := dats2 hh
    refine ⟨h2.1, ?_⟩
    rw [dat_non h1]
    exact q _ _ (r.push fun M => dbl)
theorem s_notN : OpS K cl (rw2 fun x y H Q => y = .non ∧ Q (.bl (!decide (x = .non))) H) gNotN := by
  intro as d vs H κ τ Q h l r q
  match as, h with
  | [a, .non], h =>
    obtain ⟨x, y, rfl⟩ := two_of rfl l
    cases h
    obtain ⟨M, f, hh⟩ := r.heads l
    obtain ⟨f1, f2, _, h1, h2⟩ := dats2 hh
    refine ⟨h2.1, ?_⟩
    rw [dat_non h1]
    exact q _ _ (r.push fun M => dbl)
/-! ### xs[i] -/
def gIx : List D → Option D
  | [.lst _ xs, .int i] => (atI xs i).bind fun d => if D.oks xs then some d else none
  | [.tup xs, .int i] => (atI xs i).bind fun d => if D.oks xs then some d else none
  | _ => none
theorem atI_dats {M H} {ds : List D} {vs : List V} {i : Int} {d : D} (h : Dats K cl M H ds vs []) (e : atI ds i = some d) : ∃ v, atI vs i = some v ∧ Dat K cl M H d v [] := by
  have l := dats_length h
  unfold atI at e ⊢
  rw [l]
  cases e2 : ixN ds.length i with
  | none => rw [e2] at e; cases e
  | some j =>
    rw [e2] at e
    exact dats_get h e
theorem s_ix : OpS K cl (rw2 (rIx K)) gIx := by
  intro as d vs H κ τ Q h l r q
  match as, h with
  | [.lst m us, .int i], h =>
    obtain ⟨x, y, rfl⟩ := two_of rfl l
    simp only [gIx, Option.bind_eq_some_iff] at h
    obtain ⟨d', e, h⟩ := h
    split at h
    · rename_i c
      cases h
      obtain ⟨f, g, n, hh, hr⟩ := r.split l
      obtain ⟨f1, f2, _, h1, h2⟩ := dats2 hh
      obtain ⟨a, xs, g1, e1, t1, d1, _⟩ := h1
      have e2 := h2.1
      subst e1; subst e2
      obtain ⟨v, e3, hv⟩ := atI_dats (oks_nil d1 c) e
      exact .inl ⟨a, xs, i, v, rfl, rfl, .of t1, e3, q _ _ (derive n hh hr hv)⟩
    · cases h
  | [.tup us, .int i], h =>
    obtain ⟨x, y, rfl⟩ := two_of rfl l
    simp only [gIx, Option.bind_eq_some_iff] at h
    obtain ⟨d', e, h⟩ := h
    split at h
    · rename_i c
      cases h
      obtain ⟨f, g, n, hh, hr⟩ := r.split l
      obtain ⟨f1, f2, _, h1, h2⟩ := dats2 hh
      obtain ⟨a, xs, e1, t1, d1⟩ := h1
      have e2 := h2.1
      subst e1; subst e2
      obtain ⟨v, e3, hv⟩ := atI_dats (oks_nil d1 c) e
      exact .inr (.inl ⟨a, xs, i, v, rfl, rfl, t1.sq, e3, q _ _ (derive n hh hr hv)⟩)
    · cases h
/-! ### built-in calls -/
def gLen : List D → Option D
  | [.lst _ xs] => some (.int xs.length)
  | [.tup xs] => some (.int xs.length)
  | [.str x] => if lenOk x.length then some (.int x.length) else none
  | _ => none
def rLen2 (K : PySem.W.Frag) : List V → Hp → VK → Prop := fun xs H Q => ((∃ p ys, xs = [.ref p] ∧ (SqL K H p ys ∨ SqT K H p ys) ∧ Q (.int ys.length) H)) ∨ ∃ z, xs = [.str z] ∧ z.length ≤ sizeLine ∧ Q (.int z.length) H
theorem cr_len : CallR X (.builtin "len") (rLen2 X.K) := call_len_seq.or call_len_str
theorem s_len : OpS K cl (rLen2 K) gLen := by
  intro as d vs H κ τ Q h l r q
  match as, h with
  | [.lst m us], h =>
    obtain ⟨x, rfl⟩ := one_of rfl l
    cases h
    obtain ⟨M, f, hh⟩ := r.heads l
    obtain ⟨a, xs, g1, e1, t1, d1, _⟩ := dats1 hh
    subst e1
    refine .inl ⟨a, xs, rfl, .inl (.of t1), ?_⟩
    rw [dats_length d1]
    exact q _ _ (r.push fun M => dint)
  | [.tup us], h =>
    obtain ⟨x, rfl⟩ := one_of rfl l
    cases h
    obtain ⟨M, f, hh⟩ := r.heads l
    obtain ⟨a, xs, e1, t1, d1⟩ := dats1 hh
    subst e1
    refine .inl ⟨a, xs, rfl, .inr t1.sq, ?_⟩
    rw [dats_length d1]
    exact q _ _ (r.push fun M => dint)
  | [.str z], h =>
    obtain ⟨x, rfl⟩ := one_of rfl l
    simp only [gLen] at h
    split at h
    · rename_i c
      cases h
      obtain ⟨M, f, hh⟩ := r.heads l
      have e1 := (dats1 hh).1
      subst e1
      exact .inr ⟨z, rfl, of_decide_eq_true c, q _ _ (r.push fun M => dint)⟩
    · cases h
def gTuple : List D → Option D
  | [.lst _ xs] => if D.oks xs then some (.tup xs) else none
  | [.tup xs] => if D.oks xs then some (.tup xs) else none
  | _ => none
theorem s_tuple : OpS K cl (fun xs H Q => ∃ p ys, xs = [.ref p] ∧ ((SqL K H p ys ∧ ∀ l, H l = none → Q (.ref l) (upd H l (.tup ys))) ∨ (SqT K H p ys ∧ Q (.ref p) H))) gTuple := by
  intro as d vs H κ τ Q h l r q
  match as, h with
  | [.lst m us], h =>
    obtain ⟨x, rfl⟩ := one_of rfl l
    simp only [gTuple] at h
    split at h
    · rename_i c
      cases h
      obtain ⟨f, g, n, hh, hr⟩ := r.split l
      obtain ⟨a, xs, g1, e1, t1, d1, _⟩ := dats1 hh
      subst e1
      exact ⟨a, xs, rfl, .inl ⟨.of t1, fun p hp => q _ _ (newT n hh hr hp (oks_nil d1 c))⟩⟩
    · cases h
  | [.tup us], h =>
    obtain ⟨x, rfl⟩ := one_of rfl l
    simp only [gTuple] at h
    split at h
    · rename_i c
      cases h
      obtain ⟨f, g, n, hh, hr⟩ := r.split l
      obtain ⟨a, xs, e1, t1, d1⟩ := dats1 hh
      subst e1
      exact ⟨a, xs, rfl, .inr ⟨t1.sq, q _ _ (derive n hh hr ⟨a, xs, rfl, t1, oks_nil d1 c⟩)⟩⟩
    · cases h
def gList : List D → Option D
  | [.lst _ xs] => if D.oks xs then some (.lst true xs) else none
  | [.tup xs] => if D.oks xs then some (.lst true xs) else none
  | _ => none
theorem s_list : OpS K cl (fun xs H Q => ∃ p ys, xs = [.ref p] ∧ (SqL K H p ys ∨ SqT K H p ys) ∧ ∀ l, H l = none → Q (.ref l) (upd H l (.lst ys))) gList := by
  intro as d vs H κ τ Q h l r q
  match as, h with
  | [.lst m us], h =>
    obtain ⟨x, rfl⟩ := one_of rfl l
    simp only [gList] at h
    split at h
    · rename_i c
      cases h
      obtain ⟨f, g, n, hh, hr⟩ := r.split l
      obtain ⟨a, xs, g1, e1, t1, d1, _⟩ := dats1 hh
      subst e1
      exact ⟨a, xs, rfl, .inl (.of t1), fun p hp => q _ _ (newL n hh hr hp (oks_nil d1 c))⟩
    · cases h
  | [.tup us], h =>
    obtain ⟨x, rfl⟩ := one_of rfl l
    simp only [gList] at h
    split at h
    · rename_i c
      cases h
      obtain ⟨f, g, n, hh, hr⟩ := r.split l
      obtain ⟨a, xs, e1, t1, d1⟩ := dats1 hh
      subst e1
      exact ⟨a, xs, rfl, .inr t1.sq, fun p hp => q _ _ (newL n hh hr hp (oks_nil d1 c))⟩
    · cases h
def gAbs : List D → Option D := gInt1 fun i => .int (if i < 0 then -i else i)
theorem s_abs : OpS K cl (fun xs H Q => ∃ i, xs = [.int i] ∧ Q (.int (if i < 0 then -i else i)) H) gAbs := by
  intro as d vs H κ τ Q h l r q
  match as, h with
  | [.int i], h =>
    obtain ⟨x, rfl⟩ := one_of rfl l
    cases h
    obtain ⟨M, f, hh⟩ := r.heads l
    have e1 := (dats1 hh).1
    subst e1
    exact ⟨i, rfl, q _ _ (r.push fun M => dint)⟩
def gIntC : List D → Option D
  | [.int i] => some (.int i)
  | [.bl k] => some (.int (if k then 1 else 0))
  | _ => none
theorem s_intC : OpS K cl (fun xs H Q => (∃ i, xs = [.int i] ∧ Q (.int i) H) ∨ ∃ k, xs = [.bl k] ∧ Q (.int (if k then 1 else 0)) H) gIntC := by
  intro as d vs H κ τ Q h l r q
  match as, h with
  | [.int i], h =>
    obtain ⟨x, rfl⟩ := one_of rfl l
    cases h
    obtain ⟨M, f, hh⟩ := r.heads l
    have e1 := (dats1 hh).1
    subst e1
    exact .inl ⟨i, rfl, q _ _ (r.push fun M => dint)⟩
  | [.bl i], h =>
    obtain ⟨x, rfl⟩ := one_of rfl l
    cases h
    obtain ⟨M, f, hh⟩ := r.heads l
    have e1 := (dats1 hh).1
    subst e1
    exact .inr ⟨i, rfl, q _ _ (r.push fun M => dint)⟩
def D.asB : D → Option Bool
  | .bl b => some b
  | _ => none
def D.bools : List D → Option (List Bool)
  | [] => some []
  | d :: ds => (D.asB d).bind fun b => (D.bools ds).map (b :: ·)
theorem dat_asB {M H} {d : D} {b : Bool} {v : V} {f : List Addr} (h : Dat K cl M H d v f) (e : D.asB d = some b) : v = .bl b := by
  cases d with
  | bl c => cases e; exact h.1
  | _ => cases e
theorem dats_bools {M H} : ∀ {ds : List D} {bs : List Bool} {vs : List V} {f : List Addr}, Dats K cl M H ds vs f → D.bools ds = some bs → vs = bs.map V.bl
  | [], _, _, _, h, e => by cases e; exact h.1
  | d :: ds, _, _, _, h, e => by
    obtain ⟨v, vs', f1, f2, rfl, _, h1, h2⟩ := h
    simp only [D.bools, Option.bind_eq_some_iff, Option.map_eq_some_iff] at e
    obtain ⟨b, e1, bs, e, rfl⟩ := e
    rw [dat_asB h1 e1, dats_bools h2 e]
    rfl
@[simp] theorem bools_map {α : Type} (f : α → Bool) : ∀ xs : List α, D.bools (xs.map fun x => .bl (f x)) = some (xs.map f)
  | [] => rfl
  | x :: xs => by
    have ih := bools_map f xs
    simp only [List.map_cons, D.bools, D.asB, Option.bind_some, ih, Option.map_some]
def gAll : List D → Option D
  | [.lst _ xs] => (D.bools xs).map fun bs => .bl (bs.all id)
  | _ => none
def gAny : List D → Option D
  | [.lst _ xs] => (D.bools xs).map fun bs => .bl (bs.any id)
  | _ => none
theorem s_all : OpS K cl (rAll K) gAll := by
  intro as d vs H κ τ Q h l r q
  match as, h with
  | [.lst m us], h =>
    obtain ⟨x, rfl⟩ := one_of rfl l
    simp only [gAll, Option.map_eq_some_iff] at h
    obtain ⟨bs, e, rfl⟩ := h
    obtain ⟨M, f, hh⟩ := r.heads l
    obtain ⟨a, xs, g1, e1, t1, d1, _⟩ := dats1 hh
    subst e1
    have e2 := dats_bools d1 e
    subst e2
    exact ⟨a, bs, rfl, .of t1, q _ _ (r.push fun M => dbl)⟩
theorem s_any : OpS K cl (rAny K) gAny := by
  intro as d vs H κ τ Q h l r q
  match as, h with
  | [.lst m us], h =>
    obtain ⟨x, rfl⟩ := one_of rfl l
    simp only [gAny, Option.map_eq_some_iff] at h
    obtain ⟨bs, e, rfl⟩ := h
    obtain ⟨M, f, hh⟩ := r.heads l
    obtain ⟨a, xs, g1, e1, t1, d1, _⟩ := dats1 hh
    subst e1
    have e2 := dats_bools d1 e
    subst e2
    exact ⟨a, bs, rfl, .of t1, q _ _ (r.push fun M => dbl)⟩
/-! ### isinstance -/
inductive Tg where
  | ty (n : String) | cl (c : Nat)
def D.tag : D → Option Tg
  | .non => some (.ty "NoneType") | .bl _ => some (.ty "bool") | .int _ => some (.ty "int") | .str _ => some (.ty "str")
  | .tup _ => some (.ty "tuple") | .lst _ _ => some (.ty "list") | .dct _ _ _ => some (.ty "dict") | .obj _ c _ _ => some (.cl c)
  | _ => none
def tgV (cl : Nat → Addr) : Tg → Value
  | .ty n => .type n
  | .cl c => .ref (cl c)
/-- what is known of the own classes -/
structure ClsF (K : PySem.W.Frag) (C : Addr) : Prop where
  c : Cls K C
  ha : PySem.W.findIn K (.ref C) "__class__" = some (some (.builtin "object.__class__"))
  hn : PySem.W.specialIn K (.builtin "object.__class__") "__get__" = some (some (.builtin "getset_descriptor.__get__"))
  ht : PySem.W.takesIn K (.builtin "object.__class__") = some true
  hm : PySem.W.mroIn K C (.type "object") = some true
structure IsaOk (K : PySem.W.Frag) (cl : Nat → Addr) (isa : Tg → Tg → Option Bool) : Prop where
  ok : ∀ t u b, isa t u = some b → PySem.W.kitOne K (tgV cl t) (tgV cl u) = some b
  own : ∀ c u b, isa (.cl c) u = some b → ClsF K (cl c)
def D.asT : D → Option Tg
  | .ty n => some (.ty n)
  | .cl c => some (.cl c)
  | _ => none
def gIsi (isa : Tg → Tg → Option Bool) : List D → Option D
  | [a, b] => (D.tag a).bind fun t => (D.asT b).bind fun u => (isa t u).map .bl
  | _ => none
theorem s_isi {isa : Tg → Tg → Option Bool} (hI : IsaOk K cl isa) : OpS K cl (rIsi K) (gIsi isa) := by
  intro as d vs H κ τ Q h l r q
  match as, h with
  | [a, b], h =>
    obtain ⟨x, y, rfl⟩ := two_of rfl l
    simp only [gIsi, Option.bind_eq_some_iff, Option.map_eq_some_iff] at h
    obtain ⟨t, et, u, eu, k, ek, rfl⟩ := h
    obtain ⟨M, f, hh⟩ := r.heads l
    obtain ⟨f1, f2, _, h1, h2⟩ := dats2 hh
    have hc : ClsV y (tgV cl u) := by
      cases b with
      | ty n => cases eu; rw [h2.1]; exact .ty n
      | cl c => cases eu; rw [h2.1]; exact .own _
      | _ => simp [D.asT] at eu
    have ht : TyX K H x (tgV cl t) := by
      cases a with
      | non => cases et; rw [h1.1]; exact .base .non
      | bl b => cases et; rw [h1.1]; exact .base (.bl b)
      | int b => cases et; rw [h1.1]; exact .base (.int b)
      | str b => cases et; rw [h1.1]; exact .base (.str b)
      | tup ds =>
        cases et
        obtain ⟨a, vs, rfl, t, _⟩ := h1
        rcases t with ⟨t, _⟩ | ⟨o, its, n, e, c, _⟩
        · exact .base (.tup t)
        · exact .kTuple e c
      | lst m ds =>
        cases et
        obtain ⟨a, vs, g, rfl, t, _⟩ := h1
        exact .base (.lst t)
      | dct m ks ds =>
        cases et
        obtain ⟨a, vs, g, rfl, t, _⟩ := h1
        exact .base (.dK t)
      | obj m c ns ds =>
        cases et
        obtain ⟨a, dx, vs, g, rfl, t, _⟩ := h1
        have F := hI.own c u k ek
        exact .base (.ins t F.c F.ha F.hn F.ht F.hm)
      | _ => simp [D.tag] at et
    exact ⟨x, y, _, _, k, rfl, hc, ht, hI.ok t u k ek, q _ _ (r.push fun M => dbl)⟩
end
end Tw
noncomputable section
namespace Tw
open PySem PySem.Spec PyProof.Rows L2
section
variable {X : Cx} {cl : Nat → Addr} {W : WX} {a b c e : Expr} {es : List Expr} {pos p : Pos} {x : Str}
/-! ### names and constants -/
def fVar (i : Nat) : Ev := fun env => match env[i]? with
  | some (some d) => .ok (D.frz d) (env.set i (some (D.frz d)))
  | _ => .stuck
def fMove (i : Nat) : Ev := fun env => match env[i]? with
  | some (some d) => .ok d (env.set i none)
  | _ => .stuck
theorem j_var {i : Nat} (h : PE X e (tVar i)) : PE X e (tE X.K cl W (fVar i)) := PE.imp h fun σ H Q ⟨τ, κ, env, r, l, q⟩ => by
  unfold fVar at q
  cases e1 : env[i]? with
  | none => rw [e1] at q; exact q.elim
  | some y =>
    cases y with
    | none => rw [e1] at q; exact q.elim
    | some d =>
      rw [e1] at q
      have e2 : (κ ++ env)[κ.length + i]? = some (some d) := by rw [List.getElem?_append_right (by omega)]; simpa using e1
      obtain ⟨v, e3, r2⟩ := r.read e2
      rw [List.getElem?_append_right (by omega), l, Nat.add_sub_cancel_left] at e3
      rw [List.set_append_right _ _ (by omega), Nat.add_sub_cancel_left] at r2
      exact ⟨v, e3, q v H r2⟩
theorem j_move {i : Nat} (h : PE X e (tVar i)) : PE X e (tE X.K cl W (fMove i)) := PE.imp h fun σ H Q ⟨τ, κ, env, r, l, q⟩ => by
  unfold fMove at q
  cases e1 : env[i]? with
  | none => rw [e1] at q; exact q.elim
  | some y =>
    cases y with
    | none => rw [e1] at q; exact q.elim
    | some d =>
      rw [e1] at q
      have e2 : (κ ++ env)[κ.length + i]? = some (some d) := by rw [List.getElem?_append_right (by omega)]; simpa using e1
      obtain ⟨v, e3, r2⟩ := r.take e2
      rw [List.getElem?_append_right (by omega), l, Nat.add_sub_cancel_left] at e3
      rw [List.set_append_right _ _ (by omega), Nat.add_sub_cancel_left] at r2
      exact ⟨v, e3, q v H r2⟩
def fK (d : D) : Ev := fun env => .ok d env
theorem j_c {v : V} {d : D} (h : PE X e (tC v)) (hd : ∀ M H, Dat X.K cl M H d v []) : PE X e (tE X.K cl W (fK d)) := PE.imp h fun σ H Q ⟨τ, κ, env, r, l, q⟩ => q v H (r.push fun M => hd M H)
theorem j_int {i : Int} {j : Nat} : PE X (.Constant (.int i) j pos) (tE X.K cl W (fK (.int i))) := j_c pe_int fun _ _ => dint
theorem j_bl {i : Bool} {j : Nat} : PE X (.Constant (.bool i) j pos) (tE X.K cl W (fK (.bl i))) := j_c pe_bl fun _ _ => dbl
theorem j_non {j : Nat} : PE X (.Constant .none j pos) (tE X.K cl W (fK .non)) := j_c pe_non fun _ _ => ⟨rfl, rfl⟩
theorem j_str {i : Str} {j : Nat} : PE X (.Constant (.str i) j pos) (tE X.K cl W (fK (.str i))) := j_c pe_str fun _ _ => ⟨rfl, rfl⟩
theorem j_gint {i : Int} {t : Tok} (hm : X.mg x = some (.int i t)) (hg : Gl X x := by rfl) (hd : (x == ("__debug__" : Str)) = false := by decide) : PE X (.Name x pos) (tE X.K cl W (fK (.int i))) := j_c (v := .int i) (pe_glob hg hm ⟨_, rfl⟩ hd) fun _ _ => dint
theorem j_ty {n : String} (hm : X.mg x = none) (hv : bootBuiltins x = some (.type n)) (hg : Gl X x := by rfl) (hn : x ≠ "__name__" := by decide) (hd : (x == ("__debug__" : Str)) = false := by decide) : PE X (.Name x pos) (tE X.K cl W (fK (.ty n))) :=
  j_c (pe_bltn (v := .ty n) hg hm hv rfl hn hd) fun _ _ => ⟨rfl, rfl⟩
theorem j_cl {n : Nat} (hm : X.mg x = some (.ref (cl n))) (hg : Gl X x := by rfl) (hd : (x == ("__debug__" : Str)) = false := by decide) : PE X (.Name x pos) (tE X.K cl W (fK (.cl n))) := j_c (pe_glob hg hm (v := .ref (cl n)) rfl hd) fun _ _ => ⟨rfl, rfl⟩
/-! ### displays -/
def vals (fs : List Ev) : List Opd := fs.map .val
theorem gat_vals : ∀ (fs : List Ev) (ds : List D) (env : Tw.Env), fs.length = ds.length → gat (vals fs) ds env = some (ds, env)
  | [], [], _, _ => rfl
  | f :: fs, d :: ds, env, l => by
    have ih := gat_vals fs ds env (by simpa using l)
    show ((gat (vals fs) ds env).map fun p => (d :: p.1, p.2)) = _
    rw [ih]; rfl
  | [], _ :: _, _, l => by simp at l
  | _ :: _, [], _, l => by simp at l
theorem full_vals : ∀ {fs : List Ev} {us : List V} {σ : S} {vs : List V}, Full (vals fs) us σ vs → vs = us ∧ us.length = fs.length
  | [], _, _, _, h => ⟨h.2.trans h.1.symm, by rw [h.1]; rfl⟩
  | f :: fs, _, _, _, h => by
    obtain ⟨u, us', vs', rfl, rfl, h⟩ := h
    obtain ⟨e, l⟩ := full_vals h
    exact ⟨by rw [e], by simp [l]⟩
def fTup (fs : List Ev) : Ev := fun env => (evs (vals fs) env).bind fun ds env1 => .ok (.tup ds) env1
def fLst (fs : List Ev) : Ev := fun env => (evs (vals fs) env).bind fun ds env1 => .ok (.lst true ds) env1
theorem small_line {n : Nat} (h : n ≤ 1000) : n ≤ sizeLine := Nat.le_trans h (by decide)
theorem j_tup {fs : List Ev} {x1} (h : PA X es (tOs X.K cl W (vals fs))) (hl : fs.length ≤ 1000 := by decide) : PE X (.Tuple es x1 pos) (tE X.K cl W (fTup fs)) := PE.imp (pe_tup h) fun σ H Q ⟨τ, κ, env, r, l, q⟩ => by
  refine tA_os (os := vals fs) ⟨τ, κ, env, r, l, ?_⟩
  unfold fTup at q
  cases e1 : evs (vals fs) env with
  | ok ds env1 =>
    rw [e1] at q
    intro us vs H' l2 r2 fu
    obtain ⟨rfl, l3⟩ := full_vals fu
    exact ⟨small_line (by omega), fun p hp => q _ _ (r2.packT l2.symm hp)⟩
  | exc _ _ _ _ => rw [e1] at q; exact q
  | stuck => rw [e1] at q; exact q
theorem j_lst {fs : List Ev} (h : PA X es (tOs X.K cl W (vals fs))) (hl : fs.length ≤ 1000 := by decide) : PE X (.List es pos) (tE X.K cl W (fLst fs)) := PE.imp (pe_lst h) fun σ H Q ⟨τ, κ, env, r, l, q⟩ => by
  refine tA_os (os := vals fs) ⟨τ, κ, env, r, l, ?_⟩
  unfold fLst at q
  cases e1 : evs (vals fs) env with
  | ok ds env1 =>
    rw [e1] at q
    intro us vs H' l2 r2 fu
    obtain ⟨rfl, l3⟩ := full_vals fu
    exact ⟨small_line (by omega), fun p hp => q _ _ (r2.packL l2.symm hp)⟩
  | exc _ _ _ _ => rw [e1] at q; exact q
  | stuck => rw [e1] at q; exact q
/-! ### truth, and, or, not -/
def D.tru : D → Option Bool
  | .non => some false | .bl b => some b | .int i => some (i != 0)
  | .str y => if lenOk y.length then some ((y.length : Int) != 0) else none
  | .tup xs => some (!xs.isEmpty) | .lst _ xs => some (!xs.isEmpty)
  | _ => none
theorem isEmpty_dats {K M H} {ds : List D} {vs : List V} {f : List Addr} (h : Dats K cl M H ds vs f) : vs.isEmpty = ds.isEmpty := by
  have l := dats_length h
  cases vs <;> cases ds <;> simp at l ⊢
theorem dat_tru {K M H} {d : D} {v : V} {f : List Addr} {k : Bool} (h : Dat K cl M H d v f) (e : D.tru d = some k) : TruV K v H k := by
  cases d with
  | non => cases e; rw [h.1]; rfl
  | bl b => cases e; rw [h.1]; rfl
  | int b => cases e; rw [h.1]; rfl
  | str y =>
    simp only [D.tru] at e
    split at e
    · rename_i c
      cases e; rw [h.1]; exact ⟨of_decide_eq_true c, rfl⟩
    · cases e
  | tup ds =>
    cases e
    obtain ⟨a, vs, rfl, t, hd⟩ := h
    exact .inr (.inl ⟨vs, t.sq, by rw [isEmpty_dats hd]⟩)
  | lst m ds =>
    cases e
    obtain ⟨a, vs, g, rfl, t, hd, _⟩ := h
    exact .inl ⟨vs, .of t, by rw [isEmpty_dats hd]⟩
  | _ => simp [D.tru] at e
def fAnd (fa fb : Ev) : Ev := fun env => (fa env).bind fun d env1 => match D.tru d with
  | some true => fb env1
  | some false => .ok d env1
  | none => .stuck
def fOr (fa fb : Ev) : Ev := fun env => (fa env).bind fun d env1 => match D.tru d with
  | some false => fb env1
  | some true => .ok d env1
  | none => .stuck
def fNot (fa : Ev) : Ev := fun env => (fa env).bind fun d env1 => match D.tru d with
  | some k => .ok (.bl (!k)) env1
  | none => .stuck
variable {fa fb fc : Ev} {rest : List Expr}
theorem j_and (ha : PE X a (tE X.K cl W fa)) (hb : PE X (.BoolOp .And (b :: rest) pos) (tE X.K cl W fb)) : PE X (.BoolOp .And (a :: b :: rest) pos) (tE X.K cl W (fAnd fa fb)) := PE.imp (pe_andT ha hb) fun σ H Q ⟨τ, κ, env, r, l, q⟩ => by
  refine tE_bind r l q fun d env1 v H1 h1 r1 => ?_
  obtain ⟨M, f, hd⟩ := r1.head
  cases e1 : D.tru d with
  | none => rw [e1] at h1; exact h1.elim
  | some k =>
    rw [e1] at h1
    refine ⟨k, dat_tru hd e1, ?_⟩
    cases k with
    | true =>
      rw [if_pos rfl]
      exact ⟨τ, κ, env1, r1.pop, l, h1⟩
    | false =>
      rw [if_neg Bool.false_ne_true]
      exact h1 v H1 r1
theorem j_or (ha : PE X a (tE X.K cl W fa)) (hb : PE X (.BoolOp .Or (b :: rest) pos) (tE X.K cl W fb)) : PE X (.BoolOp .Or (a :: b :: rest) pos) (tE X.K cl W (fOr fa fb)) := PE.imp (pe_orT ha hb) fun σ H Q ⟨τ, κ, env, r, l, q⟩ => by
  refine tE_bind r l q fun d env1 v H1 h1 r1 => ?_
  obtain ⟨M, f, hd⟩ := r1.head
  cases e1 : D.tru d with
  | none => rw [e1] at h1; exact h1.elim
  | some k =>
    rw [e1] at h1
    refine ⟨k, dat_tru hd e1, ?_⟩
    cases k with
    | false =>
      rw [if_neg Bool.false_ne_true]
      exact ⟨τ, κ, env1, r1.pop, l, h1⟩
    | true =>
      rw [if_pos rfl]
      exact h1 v H1 r1
theorem j_one {op} (ha : PE X a (tE X.K cl W fa)) : PE X (.BoolOp op [a] pos) (tE X.K cl W fa) := pe_one ha
theorem j_not (ha : PE X a (tE X.K cl W fa)) : PE X (.UnaryOp .Not a pos) (tE X.K cl W (fNot fa)) := PE.imp (pe_notT ha) fun σ H Q ⟨τ, κ, env, r, l, q⟩ => by
  refine tE_bind r l q fun d env1 v H1 h1 r1 => ?_
  obtain ⟨M, f, hd⟩ := r1.head
  cases e1 : D.tru d with
  | none => rw [e1] at h1; exact h1.elim
  | some k =>
    rw [e1] at h1
    exact ⟨k, dat_tru hd e1, h1 _ _ (r1.pop.push fun M => dbl)⟩
/-! ### tests -/
abbrev EvB := Tw.Env → Rs Bool
def tT (K : PySem.W.Frag) (cl : Nat → Addr) (W : WX) (f : EvB) : TT := fun σ H Q => ∃ (τ : S) (κ env : Tw.Env), Rel K cl H (κ ++ env) (τ ++ σ) ∧ τ.length = κ.length ∧
  (f env).P (fun k env' => ∀ H', Rel K cl H' (κ ++ env') (τ ++ σ) → Q k H') (WP K cl W κ τ σ)
def bE (f : Ev) : EvB := fun env => (f env).bind fun d env1 => match D.tru d with
  | some k => .ok k env1
  | none => .stuck
def bAnd (f g : EvB) : EvB := fun env => (f env).bind fun k env1 => if k = true then g env1 else .ok false env1
def bOr (f g : EvB) : EvB := fun env => (f env).bind fun k env1 => if k = true then .ok true env1 else g env1
def bNot (f : EvB) : EvB := fun env => (f env).bind fun k env1 => .ok (!k) env1
theorem tT_bind {β : Type} {K : PySem.W.Frag} {f : EvB} {k : Bool → Tw.Env → Rs β} {ok : β → Tw.Env → Prop} {τ σ : S} {κ env : Tw.Env} {H : Hp} {Q : Bool → Hp → Prop} (r : Rel K cl H (κ ++ env) (τ ++ σ)) (l : τ.length = κ.length) (h : ((f env).bind k).P ok (WP K cl W κ τ σ))
    (hk : ∀ d env1 H1, (k d env1).P ok (WP K cl W κ τ σ) → Rel K cl H1 (κ ++ env1) (τ ++ σ) → Q d H1) : tT K cl W f σ H Q := by
  refine ⟨τ, κ, env, r, l, ?_⟩
  cases e : f env with
  | ok d env1 =>
    rw [e] at h
    exact fun H1 r1 => hk d env1 H1 h r1
  | exc c ns ds env1 => rw [e] at h; exact h
  | stuck => rw [e] at h; exact h
theorem t_e (ha : PE X a (tE X.K cl W fa)) (he : ∀ whole, isTrue a X.env whole = (do let v ← whole; standAt a.pos; holding [v] (truthy v)) := by intro _; rfl) : PT X a (tT X.K cl W (bE fa)) := PT.imp (pt_truth ha he) fun σ H Q ⟨τ, κ, env, r, l, q⟩ => by
  refine tE_bind r l q fun d env1 v H1 h1 r1 => ?_
  obtain ⟨M, f, hd⟩ := r1.head
  cases e1 : D.tru d with
  | none => rw [e1] at h1; exact h1.elim
  | some k =>
    rw [e1] at h1
    exact ⟨k, dat_tru hd e1, h1 H1 r1.pop⟩
/-- a comparison as a test -/
theorem t_cmp {op : CmpOp} {r : R2} {g : List D → Option D} {o1 o2 : Opd} (ho : OpR X (compareOp op) r) (hs : OpS X.K cl (rw2 r) g) (hb2 : ∀ as d, g as = some d → ∃ k, d = .bl k) (hm : behindInMarks op b = false) (ha : PE X a (tOpd X.K cl W o1)) (hb : PE X b (tOpd X.K cl W o2)) :
    PT X (.Compare a [op] [b] pos) (tT X.K cl W (bE (fN g [o1, o2]))) := PT.imp (pt_cmpR ho ha hb hm) fun σ H Q ⟨τ, κ, env, r, l, q⟩ => by
  refine tA_os (os := [o1, o2]) (fN_tA hs ⟨τ, κ, env, r, l, ?_⟩)
  unfold bE at q
  cases e : fN g [o1, o2] env with
  | ok d env1 =>
    rw [e] at q
    have hk : ∃ k, d = .bl k := by
      unfold fN at e
      cases e2 : evs [o1, o2] env with
      | ok ds env2 =>
        rw [e2] at e
        simp only [Rs.bind_ok] at e
        split at e
        · rename_i d' e3
          cases e
          obtain ⟨p, _, e3⟩ := Option.bind_eq_some_iff.mp e3
          exact hb2 _ _ e3
        · cases e
      | exc _ _ _ _ => rw [e2] at e; cases e
      | stuck => rw [e2] at e; cases e
    obtain ⟨k, rfl⟩ := hk
    intro v H' r2
    obtain ⟨M, f, hd⟩ := r2.head
    exact ⟨k, hd.1, q H' r2.pop⟩
  | exc _ _ _ _ => rw [e] at q; exact q
  | stuck => rw [e] at q; exact q
variable {ba bb : EvB}
theorem t_and (ha : PT X a (tT X.K cl W ba)) (hb : PW X (.BoolOp .And (b :: rest) pos) (tT X.K cl W bb)) : PW X (.BoolOp .And (a :: b :: rest) pos) (tT X.K cl W (bAnd ba bb)) := ⟨fun whole pins s σ H Q I ⟨τ, κ, env, r, l, q⟩ => by
  refine (pw_and ha hb).run whole pins s σ H Q I (tT_bind r l q fun k env1 H1 h1 r1 => ?_)
  cases k with
  | true => rw [if_pos rfl] at h1 ⊢; exact ⟨τ, κ, env1, r1, l, h1⟩
  | false => rw [if_neg Bool.false_ne_true] at h1 ⊢; exact h1 H1 r1⟩
theorem t_or (ha : PT X a (tT X.K cl W ba)) (hb : PW X (.BoolOp .Or (b :: rest) pos) (tT X.K cl W bb)) : PW X (.BoolOp .Or (a :: b :: rest) pos) (tT X.K cl W (bOr ba bb)) := ⟨fun whole pins s σ H Q I ⟨τ, κ, env, r, l, q⟩ => by
  refine (pw_or ha hb).run whole pins s σ H Q I (tT_bind r l q fun k env1 H1 h1 r1 => ?_)
  cases k with
  | false => rw [if_neg Bool.false_ne_true] at h1 ⊢; exact ⟨τ, κ, env1, r1, l, h1⟩
  | true => rw [if_pos rfl] at h1 ⊢; exact h1 H1 r1⟩
theorem t_and1 (ha : PT X a (tT X.K cl W ba)) : PW X (.BoolOp .And [a] pos) (tT X.K cl W ba) := pw_and1 ha
theorem t_or1 (ha : PT X a (tT X.K cl W ba)) : PW X (.BoolOp .Or [a] pos) (tT X.K cl W ba) := pw_or1 ha
theorem t_not (ha : PT X a (tT X.K cl W ba)) : PT X (.UnaryOp .Not a pos) (tT X.K cl W (bNot ba)) := PT.imp (pt_not ha) fun σ H Q ⟨τ, κ, env, r, l, q⟩ => tT_bind r l q fun k env1 H1 h1 r1 => h1 H1 r1
def fIf (t : EvB) (f g : Ev) : Ev := fun env => (t env).bind fun k env1 => if k = true then f env1 else g env1
theorem j_if (hc : PT X c (tT X.K cl W ba)) (ha : PE X a (tE X.K cl W fa)) (hb : PE X b (tE X.K cl W fb)) : PE X (.IfExp c a b pos) (tE X.K cl W (fIf ba fa fb)) := PE.imp (pe_ifExp hc ha hb) fun σ H Q ⟨τ, κ, env, r, l, q⟩ => tT_bind r l q fun k env1 H1 h1 r1 => by
  cases k with
  | true => rw [if_pos rfl] at h1 ⊢; exact ⟨τ, κ, env1, r1, l, h1⟩
  | false => rw [if_neg Bool.false_ne_true] at h1 ⊢; exact ⟨τ, κ, env1, r1, l, h1⟩
/-- a < b < c -/
def fChain (g g' : List D → Option D) (fa fb fc : Ev) : Ev := fun env => (fa env).bind fun x env1 => (fb env1).bind fun y env2 => match g [x, y] with
  | some (.bl true) => (fc env2).bind fun z env3 => match g' [y, z] with
    | some d => .ok d env3
    | none => .stuck
  | some (.bl false) => .ok (.bl false) env2
  | _ => .stuck
theorem tE_bind1 {β : Type} {K : PySem.W.Frag} {f : Ev} {k : D → Tw.Env → Rs β} {ok : β → Tw.Env → Prop} {A : Tw.Env} {Y τ σ : S} {κ env : Tw.Env} {H : Hp} {Q : VK} (ly : Y.length = A.length) (r : Rel K cl H (A ++ (κ ++ env)) (Y ++ (τ ++ σ))) (l : τ.length = κ.length) (h : ((f env).bind k).P ok (WP K cl W κ τ σ))
    (hk : ∀ d env1 v H1, (k d env1).P ok (WP K cl W κ τ σ) → Rel K cl H1 (some d :: (A ++ (κ ++ env1))) (some v :: (Y ++ (τ ++ σ))) → Q v H1) : tE K cl W f σ H Q := by
  refine ⟨Y ++ τ, A ++ κ, env, by rwa [List.append_assoc, List.append_assoc], by simp [ly, l], ?_⟩
  cases e : f env with
  | ok d env1 =>
    rw [e] at h
    exact fun v H1 r1 => hk d env1 v H1 h (by rwa [List.append_assoc, List.append_assoc] at r1)
  | exc c ns ds env1 => rw [e] at h; exact WP.weak ly h
  | stuck => rw [e] at h; exact h
theorem rd_chain {K : PySem.W.Frag} {r r' : R2} {g g' : List D → Option D} (hs : OpS K cl (rw2 r) g) (hs' : OpS K cl (rw2 r') g') {σ : S} {H : Hp} {Q : VK} (h : tE K cl W (fChain g g' fa fb fc) σ H Q) : tChain r r' (tE K cl W fa) (tE K cl W fb) (tE K cl W fc) σ H Q := by
  obtain ⟨τ, κ, env, r, l, q⟩ := h
  refine tE_bind r l q fun d env1 v H1 h1 r1 => ?_
  refine tE_bind1 (A := [some d]) (Y := [some v]) rfl r1 l h1 fun d2 env2 v2 H2 h2 r2 => ?_
  have r3 : Rel K cl H2 (List.map some [d, d2] ++ (κ ++ env2)) (List.map some [v, v2] ++ (τ ++ σ)) := Rel.swap3 (A := [some d2]) (X := [some v2]) (B := [some d]) (Y := [some v]) r2 rfl rfl
  cases eg : g [d, d2] with
  | none => rw [eg] at h2; exact h2.elim
  | some z =>
    rw [eg] at h2
    refine hs [d, d2] z [v, v2] H2 _ _ _ eg rfl r3 fun u H3 r4 => ?_
    cases z with
    | bl k =>
      obtain ⟨M, f, hz⟩ := r4.head
      refine ⟨k, hz.1, ?_⟩
      have r5 := r4.pop
      cases k with
      | true =>
        rw [if_pos rfl]
        refine tE_bind1 (A := [some d, some d2]) (Y := [some v, some v2]) rfl r5 l h2 fun d3 env3 v3 H4 h4 r6 => ?_
        have r7 : Rel K cl H4 (List.map some [d2, d3] ++ (κ ++ env3)) (List.map some [v2, v3] ++ (τ ++ σ)) :=
          Rel.swap3 (A := [some d3]) (X := [some v3]) (B := [some d2]) (Y := [some v2]) (Rel.drop (A := [some d]) (X := [some v]) (Rel.swap3 (A := [some d3]) (X := [some v3]) (B := [some d]) (Y := [some v]) r6 rfl rfl) rfl) rfl rfl
        cases eg' : g' [d2, d3] with
        | none => simp only [eg'] at h4; exact h4.elim
        | some w =>
          simp only [eg'] at h4
          refine hs' [d2, d3] w [v2, v3] H4 _ _ _ eg' rfl r7 fun u' H5 r8 => h4 u' H5 ?_
          exact Rel.drop (A := [some d2, some d3]) (X := [some v2, some v3]) (Rel.swap3 (A := [some w]) (X := [some u']) (B := [some d2, some d3]) (Y := [some v2, some v3]) r8 rfl rfl) rfl
      | false =>
        rw [if_neg Bool.false_ne_true]
        exact h2 _ _ ((Rel.drop (A := [some d, some d2]) (X := [some v, some v2]) r5 rfl).push fun M => dbl)
    | _ => exact h2.elim
theorem j_chain {op op' : CmpOp} {r r' : R2} {g g' : List D → Option D} (ho : OpR X (compareOp op) r) (hs : OpS X.K cl (rw2 r) g) (ho' : OpR X (compareOp op') r') (hs' : OpS X.K cl (rw2 r') g')
    (ha : PE X a (tE X.K cl W fa)) (hb : PE X b (tE X.K cl W fb)) (hc : PE X c (tE X.K cl W fc)) (hm : lastMarks [op, op'] [b, c] = false := by with_unfolding_all rfl) :
    PE X (.Compare a [op, op'] [b, c] pos) (tE X.K cl W (fChain g g' fa fb fc)) := PE.imp (pe_chain ho ho' ha hb hc hm) fun σ H Q h => rd_chain hs hs' h
theorem t_chain {op op' : CmpOp} {r r' : R2} {g g' : List D → Option D} (ho : OpR X (compareOp op) r) (hs : OpS X.K cl (rw2 r) g) (ho' : OpR X (compareOp op') r') (hs' : OpS X.K cl (rw2 r') g') (hb2 : ∀ as d, g' as = some d → ∃ k, d = .bl k)
    (ha : PE X a (tE X.K cl W fa)) (hb : PE X b (tE X.K cl W fb)) (hc : PE X c (tE X.K cl W fc)) (hm : lastMarks [op, op'] [b, c] = false := by with_unfolding_all rfl) :
    PT X (.Compare a [op, op'] [b, c] pos) (tT X.K cl W (bE (fChain g g' fa fb fc))) := PT.imp (pt_chain ho ho' ha hb hc hm) fun σ H Q ⟨τ, κ, env, r, l, q⟩ => by
  refine rd_chain hs hs' ⟨τ, κ, env, r, l, ?_⟩
  unfold bE at q
  cases e : fChain g g' fa fb fc env with
  | ok d env1 =>
    rw [e] at q
    have hk : ∃ k, d = .bl k := by
      unfold fChain at e
      cases e1 : fa env with
      | ok x env1 =>
        rw [e1, Rs.bind_ok] at e
        cases e2 : fb env1 with
        | ok y env2 =>
          rw [e2, Rs.bind_ok] at e
          split at e
          · cases e3 : fc env2 with
            | ok z env3 =>
              rw [e3, Rs.bind_ok] at e
              split at e
              · rename_i d' e4
                cases e
                exact hb2 _ _ e4
              · cases e
            | exc _ _ _ _ => rw [e3] at e; cases e
            | stuck => rw [e3] at e; cases e
          · cases e; exact ⟨_, rfl⟩
          · cases e
        | exc _ _ _ _ => rw [e2] at e; cases e
        | stuck => rw [e2] at e; cases e
      | exc _ _ _ _ => rw [e1] at e; cases e
      | stuck => rw [e1] at e; cases e
    obtain ⟨k, rfl⟩ := hk
    intro v H' r2
    obtain ⟨M, f, hd⟩ := r2.head
    exact ⟨k, hd.1, q H' r2.pop⟩
  | exc _ _ _ _ => rw [e] at q; exact q
  | stuck => rw [e] at q; exact q
theorem int2_bl {p : Int → Int → Bool} {as : List D} {d : D} (h : gInt2 (fun i j => some (.bl (p i j))) as = some d) : ∃ k, d = .bl k := by
  match as, h with
  | [.int i, .int j], h => cases h; exact ⟨_, rfl⟩
theorem eq_bl {as : List D} {d : D} (h : gEq as = some d) : ∃ k, d = .bl k := by
  match as, h with
  | [a, b], h =>
    simp only [gEq, Option.bind_eq_some_iff] at h
    obtain ⟨_, _, _, _, h⟩ := h
    split at h
    · cases h; exact ⟨_, rfl⟩
    · cases h
theorem ne_bl {as : List D} {d : D} (h : gNe as = some d) : ∃ k, d = .bl k := by
  match as, h with
  | [a, b], h =>
    simp only [gNe, Option.bind_eq_some_iff] at h
    obtain ⟨_, _, _, _, h⟩ := h
    split at h
    · cases h; exact ⟨_, rfl⟩
    · cases h
theorem isN_bl {as : List D} {d : D} (h : gIsN as = some d) : ∃ k, d = .bl k := by
  match as, h with
  | [a, .non], h => cases h; exact ⟨_, rfl⟩
theorem notN_bl {as : List D} {d : D} (h : gNotN as = some d) : ∃ k, d = .bl k := by
  match as, h with
  | [a, .non], h => cases h; exact ⟨_, rfl⟩
end
end Tw
noncomputable section
namespace Tw
open PySem PySem.Spec PyProof.Rows L2
/-! ### slices -/
def cutD {α : Type} (xs : List α) (lo hi : Option Int) : List α := (xs.drop (HT.sIx xs.length 0 lo)).take (HT.sIx xs.length xs.length hi - HT.sIx xs.length 0 lo)
def gSl : D → Option Int → Option Int → Option D
  | .lst _ xs, lo, hi => if D.oks xs then some (.lst true (cutD xs lo hi)) else none
  | .tup xs, lo, hi => if D.oks xs then some (.tup (cutD xs lo hi)) else none
  | .scr ns, lo, hi => some (.lst true ((cutD ns lo hi).map .int))
  | _, _, _ => none
def D.asI : D → Option Int
  | .int i => some i
  | _ => none
def fPart : Option Ev → Tw.Env → Rs (Option Int)
  | none, env => .ok none env
  | some f, env => (f env).bind fun d env1 => match D.asI d with
    | some i => .ok (some i) env1
    | none => .stuck
def fSl (fa : Ev) (lo hi : Option Ev) : Ev := fun env => (fa env).bind fun d env1 => (fPart lo env1).bind fun l env2 => (fPart hi env2).bind fun h env3 => match gSl d l h with
  | some r => .ok r env3
  | none => .stuck
section
variable {X : Cx} {cl : Nat → Addr} {W : WX} {a b c e : Expr} {es : List Expr} {pos p : Pos} {x : Str} {fa fb fc : Ev}
theorem dat_asI {K M H} {d : D} {i : Int} {v : V} {f : List Addr} (h : Dat K cl M H d v f) (e : D.asI d = some i) : v = .int i := by
  cases d with
  | int c => cases e; exact h.1
  | _ => cases e
theorem cutD_dats {K M H} {ds : List D} {vs : List V} (h : Dats K cl M H ds vs []) (lo hi : Option Int) : Dats K cl M H (cutD ds lo hi) (cutV vs lo hi) [] := by
  unfold cutD cutV
  rw [dats_length h]
  exact dats_take _ (dats_drop _ h)
theorem cutV_whole {xs : List V} {lo hi : Option Int} (h : HT.sIx xs.length 0 lo = 0 ∧ HT.sIx xs.length xs.length hi = xs.length) : cutV xs lo hi = xs := by
  unfold cutV
  rw [h.1, h.2]
  simp
theorem cut_ints (ns : List Int) (lo hi : Option Int) : cutV (ns.map V.int) lo hi = (cutD ns lo hi).map V.int := by
  unfold cutV cutD
  rw [List.length_map, List.map_take, List.map_drop]
def PartOk (X : Cx) (cl : Nat → Addr) (W : WX) (e : Option Expr) (f : Option Ev) (t : TO) : Prop := PO X e t ∧ ((f = none ∧ t = tNoPart) ∨ ∃ g, f = some g ∧ t = tPart (tE X.K cl W g))
theorem part_none : PartOk X cl W none none tNoPart := ⟨po_none, .inl ⟨rfl, rfl⟩⟩
theorem part_some (h : PE X e (tE X.K cl W fa)) : PartOk X cl W (some e) (some fa) (tPart (tE X.K cl W fa)) := ⟨po_some h, .inr ⟨_, rfl, rfl⟩⟩
theorem rd_part {K : PySem.W.Frag} {f : Option Ev} {t : TO} (ht : (f = none ∧ t = tNoPart) ∨ ∃ g, f = some g ∧ t = tPart (tE K cl W g)) {β : Type} {k : Option Int → Tw.Env → Rs β} {ok : β → Tw.Env → Prop} {A : Tw.Env} {Y τ σ : S} {κ env : Tw.Env} {H : Hp} {Q : Option Int → Hp → Prop}
    (ly : Y.length = A.length) (r : Rel K cl H (A ++ (κ ++ env)) (Y ++ (τ ++ σ))) (l : τ.length = κ.length) (h : ((fPart f env).bind k).P ok (WP K cl W κ τ σ))
    (hk : ∀ i env1 H1, (k i env1).P ok (WP K cl W κ τ σ) → Rel K cl H1 (A ++ (κ ++ env1)) (Y ++ (τ ++ σ)) → Q i H1) : t σ H Q := by
  rcases ht with ⟨rfl, rfl⟩ | ⟨g, rfl, rfl⟩
  · exact hk none env H h r
  · have h2 : ((g env).bind fun d env1 => (match D.asI d with | some i => Rs.ok (some i) env1 | none => Rs.stuck).bind k).P ok (WP K cl W κ τ σ) := by
      cases e : g env with
      | ok d env1 => simp only [fPart, e, Rs.bind_ok] at h ⊢; exact h
      | exc _ _ _ _ => simp only [fPart, e, Rs.bind_exc] at h ⊢; exact h
      | stuck => simp only [fPart, e, Rs.bind_stuck] at h ⊢; exact h
    refine tE_bind1 ly r l h2 fun d env1 v H1 h1 r1 => ?_
    cases e2 : D.asI d with
    | none => rw [e2] at h1; exact h1.elim
    | some i =>
      rw [e2] at h1
      obtain ⟨M, f, hd⟩ := r1.head
      exact ⟨i, dat_asI hd e2, hk _ _ _ h1 r1.pop⟩
def rSlAll (K : PySem.W.Frag) : V → Option Int → Option Int → Hp → VK → Prop := fun x lo hi H Q => rSlL K x lo hi H Q ∨ rSlA K x lo hi H Q
theorem sl_all : SlR X (rSlAll X.K) := sl_list.or sl_tupA
theorem j_sl {lo hi : Option Expr} {fl fh : Option Ev} {tl th : TO} {p2 : Pos} (he : PE X a (tE X.K cl W fa)) (hl : PartOk X cl W lo fl tl) (hh : PartOk X cl W hi fh th) : PE X (.Subscript a (.Slice lo hi none p2) pos) (tE X.K cl W (fSl fa fl fh)) :=
  PE.imp (pe_slice sl_all he hl.1 hh.1) fun σ H Q ⟨τ, κ, env, r, l, q⟩ => by
  refine tE_bind r l q fun d env1 v H1 h1 r1 => ?_
  refine rd_part (A := [some d]) (Y := [some v]) hl.2 rfl r1 l h1 fun lo env2 H2 h2 r2 => ?_
  refine rd_part (A := [some d]) (Y := [some v]) hh.2 rfl r2 l h2 fun hi env3 H3 h3 r3 => ?_
  cases e : gSl d lo hi with
  | none => rw [e] at h3; exact h3.elim
  | some d2 =>
    rw [e] at h3
    have r4 : Rel X.K cl H3 (List.map some [d] ++ (κ ++ env3)) (List.map some [v] ++ (τ ++ σ)) := r3
    have fin : ∀ {d2 v2 H4}, Rel X.K cl H4 (some d2 :: (List.map some [d] ++ (κ ++ env3))) (some v2 :: (List.map some [v] ++ (τ ++ σ))) → Rel X.K cl H4 (some d2 :: (κ ++ env3)) (some v2 :: (τ ++ σ)) := fun {d2 v2 H4} r5 =>
      Rel.drop (A := [some d]) (X := [some v]) (Rel.swap3 (A := [some d2]) (X := [some v2]) (B := [some d]) (Y := [some v]) r5 rfl rfl) rfl
    cases d with
    | lst m us =>
      simp only [gSl] at e
      split at e
      · rename_i c
        cases e
        obtain ⟨f, g, n, hh, hr⟩ := r4.split rfl
        obtain ⟨ad, xs, g1, e1, t1, d1, _⟩ := dats1 hh
        subst e1
        exact .inl ⟨ad, xs, rfl, .of t1, fun p hp => h3 _ _ (fin (newL n hh hr hp (cutD_dats (oks_nil d1 c) lo hi)))⟩
      · cases e
    | tup us =>
      simp only [gSl] at e
      split at e
      · rename_i c
        cases e
        obtain ⟨f, g, n, hh, hr⟩ := r4.split rfl
        obtain ⟨ad, xs, e1, t1, d1⟩ := dats1 hh
        subst e1
        have d2 := cutD_dats (oks_nil d1 c) lo hi
        refine .inr ⟨ad, xs, rfl, t1.sq, fun z => h3 _ _ (fin (derive n hh hr ⟨ad, xs, rfl, t1, ?_⟩)), fun _ p hp => h3 _ _ (fin (newT n hh hr hp d2))⟩
        rwa [cutV_whole z] at d2
      · cases e
    | scr ns =>
      cases e
      obtain ⟨f, g, n, hh, hr⟩ := r4.split rfl
      obtain ⟨_, ad, e1, t1⟩ := dats1 hh
      subst e1
      refine .inl ⟨ad, _, rfl, t1.sq, fun p hp => h3 _ _ (fin (newL n hh hr hp ?_))⟩
      rw [cut_ints]
      exact ints_dats _
    | _ => simp [gSl] at e
/-! ### attributes -/
def lookD : List Str → List D → Str → Option D
  | n :: ns, d :: ds, x => if x = n then some d else lookD ns ds x
  | _, _, _ => none
def gFld (own : Nat → Bool) (f : Str) : List D → Option D
  | [.obj _ c ns ds] => if own c then (lookD ns ds f).bind fun d => if D.ok d then some d else none else none
  | _ => none
theorem lookD_dats {K M H} {f : Str} : ∀ {ns : List Str} {ds : List D} {vs : List V} {g : List Addr} {d : D}, Dats K cl M H ds vs g → lookD ns ds f = some d → D.ok d = true → ∃ v, (ns.zip vs).lookup f = some v ∧ Dat K cl M H d v []
  | n :: ns, d' :: ds, vs, g, d, h, e, o => by
    obtain ⟨v, vs', f1, f2, rfl, _, h1, h2⟩ := h
    unfold lookD at e
    by_cases c : f = n
    · rw [if_pos c] at e
      cases e
      refine ⟨v, by rw [List.zip_cons_cons, c, List.lookup_cons_self], ?_⟩
      have e2 := dat_ok h1 o
      rwa [e2] at h1
    · rw [if_neg c] at e
      obtain ⟨v', e1, hd⟩ := lookD_dats h2 e o
      refine ⟨v', ?_, hd⟩
      have c' : (f == n) = false := by simpa using c
      rw [List.zip_cons_cons, List.lookup_cons, c', e1]
  | [], _, _, _, _, _, e, _ => by cases e
  | _ :: _, [], _, _, _, _, e, _ => by cases e
def rFld (K : PySem.W.Frag) (f : Str) : V → Hp → VK → Prop := fun x H1 Q => ∃ a C dx fs v, x = .ref a ∧ H1 a = some (.ins C dx fs) ∧ Cls K C ∧ NoAttr K C f ∧ fs.lookup f = some v ∧ Q v H1
structure FldOk (K : PySem.W.Frag) (cl : Nat → Addr) (own : Nat → Bool) (f : Str) : Prop where
  ok : ∀ c, own c = true → ClsF K (cl c) ∧ NoAttr K (cl c) f
theorem s_fld {K : PySem.W.Frag} {own : Nat → Bool} {f : Str} (ho : FldOk K cl own f) : OpS K cl (rw1 (rFld K f)) (gFld own f) := by
  intro as d vs H κ τ Q h l r q
  match as, h with
  | [.obj m c ns ds], h =>
    obtain ⟨x, rfl⟩ := one_of rfl l
    simp only [gFld] at h
    split at h
    · rename_i hc
      obtain ⟨d', e, h⟩ := Option.bind_eq_some_iff.mp h
      split at h
      · rename_i o
        cases h
        obtain ⟨f, g, n, hh, hr⟩ := r.split l
        obtain ⟨a, dx, xs, g1, e1, t1, l1, d1, _⟩ := dats1 hh
        subst e1
        obtain ⟨v, e2, hv⟩ := lookD_dats d1 e o
        exact ⟨a, _, dx, _, v, rfl, t1, (ho.ok c hc).1.c, (ho.ok c hc).2, e2, q _ _ (derive n hh hr hv)⟩
      · cases h
    · cases h
theorem j_fld {o1 : Opd} {own : Nat → Bool} {f : Str} (ho : FldOk X.K cl own f) (ha : PE X a (tOpd X.K cl W o1)) (hb : attributeBase a f X.env (eval a X.env) = eval a X.env := by rfl) : PE X (.Attribute a f pos) (tE X.K cl W (fN (gFld own f) [o1])) :=
  PE.imp (pe_fld ha hb) fun σ H Q h => tA_os (os := [o1]) (fN_tA (r := rw1 (rFld X.K f)) (s_fld ho) h)
end
/-! ### calls of defs -/
inductive Rf where
  | ret (d : D) (ios : List D) | exc (c : Nat) (ns : List Str) (ds : List D) (ios : List D) | stuck
def spD (K : PySem.W.Frag) (cl : Nat → Addr) (n : Nat) (io : List Nat) (h : List D → Rf) : Sp := fun vs H Q E => vs.length = n ∧ ∃ (τ : S) (κ : Tw.Env) (ds : List D), vs.length = ds.length ∧ τ.length = κ.length ∧ Rel K cl H (ds.map some ++ κ) (vs.map some ++ τ) ∧ match h ds with
  | .ret d ios => ∀ (v : V) (H' : Hp) (us : List V), io.map (fun i => vs[i]?) = us.map some → Rel K cl H' (some d :: (ios.map some ++ κ)) (some v :: (us.map some ++ τ)) → Q v H'
  | .exc c ns es ios => ∀ (cls : Value) (dd : Option Addr) (H' : Hp) (ws us : List V), ExAt cl H' cls dd c ns ws → ws.length = es.length → io.map (fun i => vs[i]?) = us.map some → Rel K cl H' (es.map some ++ (ios.map some ++ κ)) (ws.map some ++ (us.map some ++ τ)) → E cls dd H'
  | .stuck => False
/-- a def that does what h tells -/
def FnD (P : Program) (w : World) (K : PySem.W.Frag) (mg : Str → Option Value) (base : Heap) (cl : Nat → Addr) (name : Str) (k n : Nat) (io : List Nat) (h : List D → Rf) : Prop :=
  ∃ f fd ps, mg name = some (.ref f) ∧ PySem.W.keepIn K (.ref f) = true ∧ Binds K fd ps [] ∧ FnOk P w K mg base (L2.CX P w) k f fd ps (spD K cl n io h)
def putIo (os : List Opd) : List Nat → List D → Tw.Env → Option Tw.Env
  | [], [], env => some env
  | p :: io, d :: ios, env => match os[p]? with
    | some (.slot i) => putIo os io ios (env.set i (some d))
    | _ => none
  | _, _, _ => none
def fCall (io : List Nat) (h : List D → Rf) (os : List Opd) : Ev := fun env => (evs os env).bind fun ds env1 => match gat os ds env1 with
  | none => .stuck
  | some (as, env2) => match h as with
    | .ret d ios => match putIo os io ios env2 with
      | some env3 => .ok d env3
      | none => .stuck
    | .exc c ns es ios => match putIo os io ios env2 with
      | some env3 => .exc c ns es env3
      | none => .stuck
    | .stuck => .stuck
section
variable {X : Cx} {cl : Nat → Addr} {W : WX} {a b c e : Expr} {es : List Expr} {pos p : Pos} {x : Str}
theorem full_at : ∀ {os : List Opd} {us : List V} {σ : S} {vs : List V} {p i : Nat}, Full os us σ vs → os[p]? = some (.slot i) → ∃ v, vs[p]? = some v ∧ σ[i]? = some (some v)
  | .val _ :: os, us, σ, vs, 0, i, h, e => by cases e
  | .val _ :: os, us, σ, vs, p + 1, i, h, e => by
    obtain ⟨u, us', vs', rfl, rfl, h⟩ := h
    exact full_at (p := p) h (by simpa using e)
  | .slot j :: os, us, σ, vs, 0, i, h, e => by
    obtain ⟨v, vs', e2, rfl, h⟩ := h
    cases e
    exact ⟨v, rfl, e2⟩
  | .slot j :: os, us, σ, vs, p + 1, i, h, e => by
    obtain ⟨v, vs', e2, rfl, h⟩ := h
    exact full_at (p := p) h (by simpa using e)
  | [], _, _, _, _, _, _, e => by simp at e
theorem put_rel {K : PySem.W.Frag} {os : List Opd} {us : List V} {σ : S} {vs : List V} (fu : Full os us σ vs) : ∀ {io : List Nat} {ios : List D} {env env' : Tw.Env} {ws : List V} {H : Hp} {A : Tw.Env} {Y : S} {κ : Tw.Env} {τ : S}, putIo os io ios env = some env' → Y.length = A.length → τ.length = κ.length → σ.length = env.length → io.map (fun i => vs[i]?) = ws.map some →
    Rel K cl H (A ++ (ios.map some ++ (κ ++ env))) (Y ++ (ws.map some ++ (τ ++ σ))) → Rel K cl H (A ++ (κ ++ env')) (Y ++ (τ ++ σ))
  | [], [], env, env', ws, H, A, Y, κ, τ, e, ly, l, ls, ew, r => by
    cases e
    have e2 : ws = [] := by simpa using ew.symm
    subst e2
    exact r
  | p :: io, d :: ios, env, env', ws, H, A, Y, κ, τ, e, ly, l, ls, ew, r => by
    unfold putIo at e
    split at e
    · rename_i i e1
      obtain ⟨v, e2, e3⟩ := full_at fu e1
      cases ws with
      | nil => simp at ew
      | cons w ws =>
        simp only [List.map_cons, List.cons.injEq] at ew
        obtain ⟨ew1, ew⟩ := ew
        rw [e2] at ew1
        cases ew1
        have lw : ws.length = ios.length := by
          have q := r.len
          simp only [List.length_append, List.length_map, List.length_cons] at q
          omega
        have r2 : Rel K cl H (some d :: ((A ++ ios.map some) ++ (κ ++ env))) (some v :: ((Y ++ ws.map some) ++ (τ ++ σ))) := by
          have r3 := Rel.swap3 (A := A) (X := Y) (B := [some d]) (Y := [some v]) (C := ios.map some ++ (κ ++ env)) (Z := ws.map some ++ (τ ++ σ)) r ly rfl
          rw [List.append_assoc, List.append_assoc]
          exact r3
        have e4 : ((Y ++ ws.map some) ++ (τ ++ σ))[(Y ++ ws.map some).length + (τ.length + i)]? = some (some v) := by
          rw [List.getElem?_append_right (by omega), Nat.add_sub_cancel_left, List.getElem?_append_right (by omega), Nat.add_sub_cancel_left]
          exact e3
        have r4 := Rel.back r2 e4
        have e5 : ((A ++ ios.map some) ++ (κ ++ env)).set ((Y ++ ws.map some).length + (τ.length + i)) (some d) = A ++ (ios.map some ++ (κ ++ env.set i (some d))) := by
          have e6 : (Y ++ ws.map some).length = (A ++ ios.map some).length := by simp [ly, lw]
          rw [e6, l, List.set_append_right _ _ (by omega), Nat.add_sub_cancel_left, List.set_append_right _ _ (by omega), Nat.add_sub_cancel_left, List.append_assoc]
        rw [e5] at r4
        rw [List.append_assoc] at r4
        exact put_rel fu (io := io) (ios := ios) (env := env.set i (some d)) e ly l (by simp [ls]) ew r4
    · cases e
  | [], _ :: _, _, _, _, _, _, _, _, _, e, _, _, _, _, _ => by cases e
  | _ :: _, [], _, _, _, _, _, _, _, _, e, _, _, _, _, _ => by cases e
theorem gat_len : ∀ {os : List Opd} {ds as : List D} {env env' : Tw.Env}, gat os ds env = some (as, env') → env'.length = env.length
  | [], [], _, _, _, e => by cases e; rfl
  | [], _ :: _, _, _, _, e => by cases e
  | .val _ :: os, d :: ds, _, _, _, e => by
    simp only [gat, Option.map_eq_some_iff] at e
    obtain ⟨⟨as', e3⟩, g, e⟩ := e
    cases e
    exact gat_len g
  | .val _ :: os, [], _, _, _, e => by cases e
  | .slot i :: os, ds, _, env, _, e => by
    unfold gat at e
    split at e
    · simp only [Option.map_eq_some_iff] at e
      obtain ⟨⟨as', e3⟩, g, e⟩ := e
      cases e
      rw [gat_len g, List.length_set]
    · cases e
theorem rd_call {K : PySem.W.Frag} {n : Nat} {io : List Nat} {h : List D → Rf} {os : List Opd} (hn : os.length = n) {σ : S} {H : Hp} {Q : VK} (q : tE K cl W (fCall io h os) σ H Q) : tCallSD (spD K cl n io h) [] (fun σ cls dd H' => W cls dd σ H') (tOs K cl W os) σ H Q := by
  obtain ⟨τ, κ, env, r, l, q⟩ := q
  refine tA_os (os := os) ⟨τ, κ, env, r, l, ?_⟩
  have l0 : σ.length = env.length := by
    have z := r.len
    simp only [List.length_append] at z
    omega
  unfold fCall at q
  cases e1 : evs os env with
  | ok ds env1 =>
    rw [e1, Rs.bind_ok] at q
    intro us vs H' l2 r2 fu
    cases e2 : gat os ds env1 with
    | none => rw [e2] at q; exact q.elim
    | some pr =>
      obtain ⟨as, env2⟩ := pr
      rw [e2] at q
      simp only at q
      obtain ⟨l3, r3, _⟩ := gat_rel r2 l2 l fu e2
      have l1 : σ.length = env2.length := by
        have z := r3.len
        simp only [List.length_append, List.length_map] at z
        omega
      rw [List.append_nil]
      refine ⟨by rw [fu.len, hn], τ ++ σ, κ ++ env2, as, l3.symm, by simp [l, l1], r3, ?_⟩
      cases e3 : h as with
      | ret d ios =>
        rw [e3] at q
        simp only at q
        cases e4 : putIo os io ios env2 with
        | none => rw [e4] at q; exact q.elim
        | some env3 =>
          rw [e4] at q
          intro v H2 ws ew r4
          exact q v H2 (put_rel fu (A := [some d]) (Y := [some v]) e4 rfl l l1 ew r4)
      | exc c ns es ios =>
        rw [e3] at q
        simp only at q
        cases e4 : putIo os io ios env2 with
        | none => rw [e4] at q; exact q.elim
        | some env3 =>
          rw [e4] at q
          intro cls dd H2 xs ws ex lx ew r4
          exact q cls dd H2 xs ex (put_rel fu (A := es.map some) (Y := xs.map some) e4 (by simp [lx]) l l1 ew r4) lx.symm
      | stuck => rw [e3] at q; exact q.elim
  | exc _ _ _ _ => rw [e1] at q; exact q
  | stuck => rw [e1] at q; exact q
theorem j_call {name : Str} {k m n : Nat} {io : List Nat} {h : List D → Rf} {os : List Opd} (F : FnD X.prog X.w X.K X.mg X.base cl name k n io h) (tk : Takes X W) (hr : Room m X.A) (hkm : k ≤ m) (hn : os.length = n) (ha : PA X (e :: es) (tOs X.K cl W os)) (hg : Gl X name := by rfl)
    (hdb : (name == ("__debug__" : Str)) = false := by decide) (he : starEach (e :: es) X.env = (false, eval e X.env) :: starEach es X.env := by rfl) (hpl : (backTo pos (starEach es X.env)).any (·.1) = false := by rfl) :
    PE X (.Call (.Name name p) (e :: es) [] pos) (tE X.K cl W (fCall io h os)) := by
  obtain ⟨f, fd, ps, hm, hk, hb, F⟩ := F
  exact PE.imp (pe_callSD (dvs := []) (E := fun σ cls dd H' => W cls dd σ H') F (hr.mono hkm) hg hm hk hb .nil (fun σ => passAt tk σ) ha hdb he hpl) fun σ H Q q => rd_call hn q
end
end Tw
noncomputable section
namespace Tw
open PySem PySem.Spec PyProof.Rows L2
/-! ### targets -/
abbrev Bd := D → Tw.Env → Option Tw.Env
def Off (ts : List Nat) (σ σ' : S) : Prop := σ'.length = σ.length ∧ ∀ j, j ∉ ts → σ'[j]? = σ[j]?
def tG (K : PySem.W.Frag) (cl : Nat → Addr) (ts : List Nat) (b : Bd) : TG := fun v σ H Q => ∃ (τ : S) (κ env : Tw.Env) (d : D), Rel K cl H (some d :: (κ ++ env)) (some v :: (τ ++ σ)) ∧ τ.length = κ.length ∧
  ∃ env', b d env = some env' ∧ ∀ σ' H', Off ts σ σ' → Rel K cl H' (κ ++ env') (τ ++ σ') → Q σ' H'
def tGs (K : PySem.W.Frag) (cl : Nat → Addr) (ts : List Nat) (b : List D → Tw.Env → Option Tw.Env) : TGs := fun vs σ H Q => ∃ (τ : S) (κ env : Tw.Env) (ds : List D), Rel K cl H (ds.map some ++ (κ ++ env)) (vs.map some ++ (τ ++ σ)) ∧ τ.length = κ.length ∧ vs.length = ds.length ∧
  ∃ env', b ds env = some env' ∧ ∀ σ' H', Off ts σ σ' → Rel K cl H' (κ ++ env') (τ ++ σ') → Q σ' H'
def bNm (i : Nat) : Bd := fun d env => if i < env.length then some (env.set i (some d)) else none
def bNil : List D → Tw.Env → Option Tw.Env
  | [], env => some env
  | _, _ => none
def bCons (b : Bd) (r : List D → Tw.Env → Option Tw.Env) : List D → Tw.Env → Option Tw.Env
  | d :: ds, env => (b d env).bind fun env1 => r ds env1
  | _, _ => none
def bTp (r : List D → Tw.Env → Option Tw.Env) : Bd := fun d env => match d with
  | .tup ds => if D.oks ds then r ds env else none
  | _ => none
section
variable {X : Cx} {cl : Nat → Addr} {W : WX} {a b c e : Expr} {es : List Expr} {pos p : Pos} {x : Str} {fa fb fc : Ev}
theorem PG.imp {t t' : TG} (h : PG X e t) (q : ∀ v σ H Q, t' v σ H Q → t v σ H Q) : PG X e t' := ⟨fun pins s σ H v u Q I r z => h.run pins s σ H v u Q I r (q v σ H Q z)⟩
theorem PGs.imp {t t' : TGs} (h : PGs X es t) (q : ∀ v σ H Q, t' v σ H Q → t v σ H Q) : PGs X es t' := ⟨fun pins s σ H v u Q I r z => h.run pins s σ H v u Q I r (q v σ H Q z)⟩
theorem Off.refl {ts : List Nat} {σ : S} : Off ts σ σ := ⟨rfl, fun _ _ => rfl⟩
theorem Off.trans {ts us : List Nat} {σ σ1 σ2 : S} (h : Off ts σ σ1) (h2 : Off us σ1 σ2) : Off (ts ++ us) σ σ2 :=
  ⟨h2.1.trans h.1, fun j hj => (h2.2 j fun z => hj (List.mem_append_right _ z)).trans (h.2 j fun z => hj (List.mem_append_left _ z))⟩
theorem Off.set {i : Nat} {σ : S} {v : Option V} : Off [i] σ (σ.set i v) := ⟨List.length_set, fun j hj => List.getElem?_set_ne fun e => hj (by rw [e]; exact List.mem_singleton_self _)⟩
theorem rd_nm {K : PySem.W.Frag} {i : Nat} {v : V} {σ : S} {H : Hp} {Q : S → Hp → Prop} (h : tG K cl [i] (bNm i) v σ H Q) : gName i v σ H Q := by
  obtain ⟨τ, κ, env, d, r, l, env', e, q⟩ := h
  unfold bNm at e
  split at e
  · rename_i c
    cases e
    have r2 := Rel.put (i := κ.length + i) r (by simp; omega)
    rw [List.set_append_right _ _ (by omega), Nat.add_sub_cancel_left, ← l, List.set_append_right _ _ (by omega), Nat.add_sub_cancel_left] at r2
    exact q _ H Off.set r2
  · cases e
theorem g_nm {i : Nat} {px : Pos} (hN : X.N.Nodup) (hi : X.N[i]? = some x := by rfl) (hx : Loc X.env.scope x := by first | exact .inl rfl | exact .inr rfl) (hf : X.fn x = true ∨ X.env.scope.names.lookup x = some .local := by first | exact .inl rfl | exact .inr rfl) : PG X (.Name x px) (tG X.K cl [i] (bNm i)) :=
  PG.imp (pg_name hN hi hx hf) fun v σ H Q h => rd_nm h
theorem gs_nil : PGs X [] (tGs X.K cl [] bNil) := PGs.imp pgs_nil fun vs σ H Q ⟨τ, κ, env, ds, r, l, lv, env', e, q⟩ => by
  cases ds with
  | nil =>
    cases vs with
    | nil => cases e; exact ⟨rfl, q σ H Off.refl r⟩
    | cons _ _ => simp at lv
  | cons _ _ => cases e
theorem gs_cons {ts us : List Nat} {bd : Bd} {r : List D → Tw.Env → Option Tw.Env} (h1 : PG X e (tG X.K cl ts bd)) (h2 : PGs X es (tGs X.K cl us r)) (hs : (assignEach (e :: es) X.env).map (·.2) = assign e X.env :: (assignEach es X.env).map (·.2) := by rfl) : PGs X (e :: es) (tGs X.K cl (ts ++ us) (bCons bd r)) :=
  PGs.imp (pgs_cons h1 h2 hs) fun vs σ H Q ⟨τ, κ, env, ds, r, l, lv, env', e, q⟩ => by
  cases ds with
  | nil => cases e
  | cons d ds =>
    cases vs with
    | nil => simp at lv
    | cons v vs =>
      obtain ⟨env1, e1, e2⟩ := Option.bind_eq_some_iff.mp e
      refine ⟨v, vs, rfl, vs.map some ++ τ, ds.map some ++ κ, env, d, ?_, by simp at lv; simp [l, lv], env1, e1, fun σ1 H1 o1 r1 => ?_⟩
      · rw [List.append_assoc, List.append_assoc]; exact r
      · rw [List.append_assoc, List.append_assoc] at r1
        exact ⟨τ, κ, env1, ds, r1, l, by simpa using lv, env', e2, fun σ2 H2 o2 r2 => q σ2 H2 (o1.trans o2) r2⟩
theorem Rel.unT {K : PySem.W.Frag} {H : Hp} {ds : List D} {v : V} {κ : Tw.Env} {τ : S} (r : Rel K cl H (some (.tup ds) :: κ) (some v :: τ)) (o : D.oks ds = true) : ∃ a vs, v = .ref a ∧ SqT K H a vs ∧ vs.length = ds.length ∧ Rel K cl H (ds.map some ++ κ) (vs.map some ++ τ) := by
  obtain ⟨f, g, n, hh, hr⟩ := Rel.split (as := [.tup ds]) (vs := [v]) r rfl
  obtain ⟨a, vs, e1, t1, d1⟩ := dats1 hh
  have e2 := dats_ok d1 o
  subst e2
  exact ⟨a, vs, e1, t1.sq, dats_length d1, _, n, slots_app (dats_slots d1) hr⟩
theorem g_tp {n : Nat} {k : Nat} {ts : List Nat} {r : List D → Tw.Env → Option Tw.Env} (hc : X.calm = true) (h : PGs X es (tGs X.K cl ts r)) (hlen : ∀ ds env env', r ds env = some env' → ds.length = n) (hn : (assignEach es X.env).length = n := by rfl) (hst : (assignEach es X.env).findIdx? (·.1) = none := by rfl) : PG X (.Tuple es k pos) (tG X.K cl ts (bTp r)) :=
  PG.imp (pg_tup hc h hn hst) fun v σ H Q ⟨τ, κ, env, d, rl, l, env', e, q⟩ => by
  cases d with
  | tup ds =>
    simp only [bTp] at e
    split at e
    · rename_i o
      obtain ⟨a, vs, rfl, s, lv, r2⟩ := rl.unT o
      exact ⟨a, vs, rfl, s, by rw [lv, hlen _ _ _ e], τ, κ, env, ds, r2, l, lv, env', e, q⟩
    · cases e
  | _ => simp [bTp] at e
theorem bNil_len {ds : List D} {env env' : Tw.Env} (h : bNil ds env = some env') : ds.length = 0 := by
  cases ds with
  | nil => rfl
  | cons _ _ => cases h
theorem bCons_len {b : Bd} {r : List D → Tw.Env → Option Tw.Env} {n : Nat} (hr : ∀ ds env env', r ds env = some env' → ds.length = n) {ds : List D} {env env' : Tw.Env} (h : bCons b r ds env = some env') : ds.length = n + 1 := by
  cases ds with
  | nil => cases h
  | cons d ds =>
    obtain ⟨_, _, h⟩ := Option.bind_eq_some_iff.mp h
    rw [List.length_cons, hr _ _ _ h]
/-! ### what is walked -/
structure IterD (K : PySem.W.Frag) (cl : Nat → Addr) (J : It) (κx : Tw.Env) (τx : S) (items : List D) : Prop where
  go : ∀ (i : Nat) (d : D), items[i]? = some d → ∀ (H : Hp) (κ : Tw.Env) (τ : S), Rel K cl H (κx ++ κ) (τx ++ τ) → J.go i H ∧ ∀ x H', J.yld i H x H' → Rel K cl H' (some d :: (κx ++ κ)) (some x :: (τx ++ τ))
  stop : ∀ (i : Nat), items.length ≤ i → ∀ (H : Hp) (κ : Tw.Env) (τ : S), Rel K cl H (κx ++ κ) (τx ++ τ) → J.stop i H
def tI (K : PySem.W.Frag) (cl : Nat → Addr) (W : WX) (fi : Tw.Env → Rs (List D)) : TI := fun σ H R => ∃ (τ : S) (κ env : Tw.Env), Rel K cl H (κ ++ env) (τ ++ σ) ∧ τ.length = κ.length ∧
  (fi env).P (fun items env' => ∀ J κx τx H', τx.length = κx.length → IterD K cl J κx τx items → Rel K cl H' (κx ++ (κ ++ env')) (τx ++ (τ ++ σ)) → R J H') (WP K cl W κ τ σ)
theorem PI.imp {tg : Expr} {t t' : TI} (h : PI X tg e t) (q : ∀ σ H Q, t' σ H Q → t σ H Q) : PI X tg e t' := ⟨fun pins s σ H Q I z => h.run pins s σ H Q I (q σ H Q z)⟩
theorem PI.or {tg : Expr} {t t' : TI} (h : PI X tg e t) (h' : PI X tg e t') : PI X tg e (fun σ H Q => t σ H Q ∨ t' σ H Q) := ⟨fun pins s σ H Q I z => z.elim (fun z => h.run pins s σ H Q I z) fun z => h'.run pins s σ H Q I z⟩
def D.items : D → Option (List D)
  | .lst _ xs => if D.oks xs then some xs else none
  | .tup xs => if D.oks xs then some xs else none
  | _ => none
def iSeq (fa : Ev) : Tw.Env → Rs (List D) := fun env => (fa env).bind fun d env1 => match D.items d with
  | some xs => .ok xs env1
  | none => .stuck
theorem iter_lst {K : PySem.W.Frag} {a : Addr} {ds : List D} (o : D.oks ds = true) : IterD K cl (Itl K a) [some (.lst false ds)] [some (.ref a)] ds := by
  have key : ∀ (H : Hp) (κ : Tw.Env) (τ : S), Rel K cl H ([some (.lst false ds)] ++ κ) ([some (.ref a)] ++ τ) → ∃ vs f g, (f ++ g).Nodup ∧ Dats K cl (· ∈ f ++ g) H [.lst false ds] [.ref a] f ∧ Slots K cl (· ∈ f ++ g) H κ τ g ∧ H a = some (.lst vs) ∧ Dats K cl (· ∈ f ++ g) H ds vs [] := fun H κ τ r => by
    obtain ⟨f, g, n, hh, hr⟩ := Rel.split (as := [.lst false ds]) (vs := [.ref a]) r rfl
    obtain ⟨a', vs, g1, e1, t1, d1, _⟩ := dats1 hh
    cases e1
    exact ⟨vs, f, g, n, hh, hr, t1, oks_nil d1 o⟩
  refine ⟨fun i d e H κ τ r => ?_, fun i hi H κ τ r => ?_⟩
  · obtain ⟨vs, f, g, n, hh, hr, t, hd⟩ := key H κ τ r
    obtain ⟨v, e1, hv⟩ := dats_get hd e
    refine ⟨⟨vs, v, .of t, e1⟩, fun x H' y => ?_⟩
    obtain ⟨rfl, y⟩ := y
    have e2 := y vs (.of t)
    rw [e1] at e2
    cases e2
    exact derive n hh hr hv
  · obtain ⟨vs, f, g, n, hh, hr, t, hd⟩ := key H κ τ r
    exact ⟨vs, .of t, by rw [dats_length hd]; exact hi⟩
theorem iter_tup {K : PySem.W.Frag} {H0 : Hp} {κ0 : Tw.Env} {τ0 : S} {v : V} {ds : List D} (o : D.oks ds = true) (r0 : Rel K cl H0 (some (.tup ds) :: κ0) (some v :: τ0)) : ∃ a vs, v = .ref a ∧ SqT K H0 a vs ∧ IterD K cl (Itt K a) [some (.tup ds)] [some (.ref a)] ds := by
  have key : ∀ (a : Addr) (H : Hp) (κ : Tw.Env) (τ : S), Rel K cl H ([some (.tup ds)] ++ κ) ([some (.ref a)] ++ τ) → ∃ vs f g, (f ++ g).Nodup ∧ Dats K cl (· ∈ f ++ g) H [.tup ds] [.ref a] f ∧ Slots K cl (· ∈ f ++ g) H κ τ g ∧ SqT K H a vs ∧ Dats K cl (· ∈ f ++ g) H ds vs [] := fun a H κ τ r => by
    obtain ⟨f, g, n, hh, hr⟩ := Rel.split (as := [.tup ds]) (vs := [.ref a]) r rfl
    obtain ⟨a', vs, e1, t1, d1⟩ := dats1 hh
    cases e1
    exact ⟨vs, f, g, n, hh, hr, t1.sq, oks_nil d1 o⟩
  obtain ⟨a, vs, rfl, s0, _⟩ := r0.unT o
  refine ⟨a, vs, rfl, s0, ⟨fun i d e H κ τ r => ?_, fun i hi H κ τ r => ?_⟩⟩
  · obtain ⟨vs, f, g, n, hh, hr, t, hd⟩ := key a H κ τ r
    obtain ⟨v, e1, hv⟩ := dats_get hd e
    refine ⟨⟨vs, v, t, e1⟩, fun x H' y => ?_⟩
    obtain ⟨rfl, y⟩ := y
    have e2 := y vs t
    rw [e1] at e2
    cases e2
    exact derive n hh hr hv
  · obtain ⟨vs, f, g, n, hh, hr, t, hd⟩ := key a H κ τ r
    exact ⟨vs, t, by rw [dats_length hd]; exact hi⟩
theorem i_seq {tg : Expr} (ha : PE X a (tE X.K cl W fa)) : PI X tg a (tI X.K cl W (iSeq fa)) := PI.imp (PI.or (pi_list (tg := tg) ha) (pi_tup (tg := tg) ha)) fun σ H R ⟨τ, κ, env, r, l, q⟩ => by
  unfold iSeq at q
  cases e1 : fa env with
  | ok d env1 =>
    rw [e1, Rs.bind_ok] at q
    cases d with
    | lst m ds =>
      simp only [D.items] at q
      by_cases o : D.oks ds = true
      · rw [if_pos o] at q
        refine .inl ⟨τ, κ, env, r, l, ?_⟩
        rw [e1]
        intro v H1 r1
        have r2 := r1.freeze
        rw [D.frz, D.frzs_ok o] at r2
        obtain ⟨M, f, a, vs, g, e2, t, _⟩ := r1.head
        subst e2
        exact ⟨a, rfl, ⟨vs, .of t⟩, q (Itl X.K a) [some (.lst false ds)] [some (.ref a)] H1 rfl (iter_lst o) r2⟩
      · rw [if_neg o] at q; exact q.elim
    | tup ds =>
      simp only [D.items] at q
      by_cases o : D.oks ds = true
      · rw [if_pos o] at q
        refine .inr ⟨τ, κ, env, r, l, ?_⟩
        rw [e1]
        intro v H1 r1
        obtain ⟨a, vs, e2, s, it⟩ := iter_tup o r1
        subst e2
        exact ⟨a, rfl, ⟨vs, s⟩, q (Itt X.K a) [some (.tup ds)] [some (.ref a)] H1 rfl it r1⟩
      · rw [if_neg o] at q; exact q.elim
    | _ => exact q.elim
  | exc _ _ _ _ =>
    rw [e1] at q
    refine .inl ⟨τ, κ, env, r, l, ?_⟩
    rw [e1]
    exact q
  | stuck => rw [e1] at q; exact q.elim
def rngD (lo : Int) (n : Nat) : List D := (List.range n).map fun (i : Nat) => .int (lo + (i : Int))
theorem iter_rng {K : PySem.W.Frag} {lo : Int} {n : Nat} : IterD K cl (Itr lo n) [] [] (rngD lo n) := by
  refine ⟨fun i d e H κ τ r => ?_, fun i hi H κ τ r => ?_⟩
  · unfold rngD at e
    rw [List.getElem?_map] at e
    obtain ⟨j, e1, rfl⟩ := Option.map_eq_some_iff.mp e
    have hi : i < n := by
      have z := (List.getElem?_eq_some_iff.mp e1).1
      simpa using z
    rw [List.getElem?_range hi] at e1
    cases e1
    refine ⟨hi, fun x H' y => ?_⟩
    obtain ⟨rfl, rfl⟩ := y
    exact Rel.push r fun M => dint
  · unfold rngD at hi
    rw [List.length_map, List.length_range] at hi
    exact hi
open Classical in
def rngOk (i : Int) : Bool := @decide (-(2 ^ 62) ≤ i ∧ i < 2 ^ 62) (propDecidable _)
def D.ints : List D → Option (List Int)
  | [] => some []
  | d :: ds => (D.asI d).bind fun i => (D.ints ds).map (i :: ·)
theorem dats_intsOf {K M H} : ∀ {ds : List D} {is : List Int} {vs : List V} {f : List Addr}, Dats K cl M H ds vs f → D.ints ds = some is → vs = is.map V.int
  | [], _, _, _, h, e => by cases e; exact h.1
  | d :: ds, _, _, _, h, e => by
    obtain ⟨v, vs', f1, f2, rfl, _, h1, h2⟩ := h
    simp only [D.ints, Option.bind_eq_some_iff, Option.map_eq_some_iff] at e
    obtain ⟨b, e1, bs, e, rfl⟩ := e
    rw [dat_asI h1 e1, dats_intsOf h2 e]
    rfl
def rngOf : List Int → Option (Int × Nat)
  | [j] => if rngOk j then some (0, j.toNat) else none
  | [i, j] => if rngOk i && rngOk j then some (i, (j - i).toNat) else none
  | _ => none
def iRng (os : List Ev) : Tw.Env → Rs (List D) := fun env => (evs (vals os) env).bind fun ds env1 => match (D.ints ds).bind rngOf with
  | some q => .ok (rngD q.1 q.2) env1
  | none => .stuck
theorem rngOk_iff {i : Int} : rngOk i = true ↔ (-(2 ^ 62) ≤ i ∧ i < 2 ^ 62) := by unfold rngOk; exact @decide_eq_true_iff _ (Classical.propDecidable _)
theorem rd_rng {K : PySem.W.Frag} {fs : List Ev} {σ : S} {H : Hp} {R : It → Hp → Prop} (h : tI K cl W (iRng fs) σ H R) : tOs K cl W (vals fs) σ H fun vs H1 => ∃ is lo n, vs = is.map V.int ∧ rngOf is = some (lo, n) ∧ R (Itr lo n) H1 := by
  obtain ⟨τ, κ, env, r, l, q⟩ := h
  refine tA_os (os := vals fs) ⟨τ, κ, env, r, l, ?_⟩
  unfold iRng at q
  cases e1 : evs (vals fs) env with
  | ok ds env1 =>
    rw [e1, Rs.bind_ok] at q
    intro us vs H' l2 r2 fu
    obtain ⟨rfl, l3⟩ := full_vals fu
    cases e2 : (D.ints ds).bind rngOf with
    | none => rw [e2] at q; exact q.elim
    | some pr =>
      rw [e2] at q
      obtain ⟨is, e3, e4⟩ := Option.bind_eq_some_iff.mp e2
      obtain ⟨M, f, hd⟩ := r2.heads l2.symm
      exact ⟨is, pr.1, pr.2, dats_intsOf hd e3, e4, q (Itr pr.1 pr.2) [] [] H' rfl iter_rng (Rel.drop r2 (by simp [l2]))⟩
  | exc _ _ _ _ => rw [e1] at q; exact q
  | stuck => rw [e1] at q; exact q
theorem rng_one {is : List Int} {lo : Int} {n : Nat} {vs : List V} (h : rngOf is = some (lo, n)) (e : vs = is.map V.int) (l : vs.length = 1) : ∃ j : Int, vs = [.int j] ∧ -(2 ^ 62) ≤ j ∧ j < 2 ^ 62 ∧ lo = 0 ∧ n = j.toNat := by
  subst e
  match is, l with
  | [j], _ =>
    simp only [rngOf] at h
    split at h
    · rename_i c
      have hc := rngOk_iff.mp c
      cases h
      exact ⟨j, rfl, hc.1, hc.2, rfl, rfl⟩
    · cases h
theorem rng_two {is : List Int} {lo : Int} {n : Nat} {vs : List V} (h : rngOf is = some (lo, n)) (e : vs = is.map V.int) (l : vs.length = 2) : ∃ i j : Int, vs = [.int i, .int j] ∧ (-(2 ^ 62) ≤ i ∧ i < 2 ^ 62 ∧ -(2 ^ 62) ≤ j ∧ j < 2 ^ 62) ∧ lo = i ∧ n = (j - i).toNat := by
  subst e
  match is, l with
  | [i, j], _ =>
    simp only [rngOf] at h
    split at h
    · rename_i c
      simp only [Bool.and_eq_true] at c
      have hc := rngOk_iff.mp c.1
      have hc2 := rngOk_iff.mp c.2
      cases h
      exact ⟨lo, j, rfl, ⟨hc.1, hc.2, hc2.1, hc2.2⟩, rfl, rfl⟩
    · cases h
/-- the number of what the arguments give -/
theorem tOs_len {K : PySem.W.Frag} : ∀ {os : List Opd} {σ : S} {H : Hp} {Q Q' : List V → Hp → Prop}, tOs K cl W os σ H Q → (∀ vs H', vs.length = os.length → Q vs H' → Q' vs H') → tOs K cl W os σ H Q'
  | [], σ, H, Q, Q', h, q => q [] H rfl h
  | .slot i :: os, σ, H, Q, Q', h, q => by
    obtain ⟨v, e, h⟩ := h
    exact ⟨v, e, tOs_len h fun vs H' l z => q (v :: vs) H' (by simp [l]) z⟩
  | .val f :: os, σ, H, Q, Q', h, q => by
    obtain ⟨τ, κ, env, r, l, h⟩ := h
    exact ⟨τ, κ, env, r, l, h.imp (fun d env1 z v H1 r1 => tOs_len (z v H1 r1) fun vs H' l z => q (v :: vs) H' (by simp [l]) z) fun _ _ _ _ z => z⟩
theorem i_rng1 {tg : Expr} {f : Ev} (hm : X.mg "range" = none) (ha : PA X [e] (tOs X.K cl W (vals [f]))) (hg : Gl X "range" := by rfl) (hs : starEach [e] X.env = [(false, eval e X.env)] := by rfl) : PI X tg (.Call (.Name "range" p) [e] [] pos) (tI X.K cl W (iRng [f])) :=
  PI.imp (pi_range1 hg hm ha hs) fun σ H R h => tOs_len (rd_rng h) fun vs H' l ⟨is, lo, n, e, e2, q⟩ => by
  obtain ⟨j, ej, h1, h2, rfl, rfl⟩ := rng_one e2 e l
  exact ⟨j, ej, h1, h2, q⟩
theorem i_rng2 {tg : Expr} {f g : Ev} (hm : X.mg "range" = none) (ha : PA X [a, b] (tOs X.K cl W (vals [f, g]))) (hg : Gl X "range" := by rfl) (hs : starEach [a, b] X.env = [(false, eval a X.env), (false, eval b X.env)] := by rfl) (hs2 : starEach [b] X.env = [(false, eval b X.env)] := by rfl) : PI X tg (.Call (.Name "range" p) [a, b] [] pos) (tI X.K cl W (iRng [f, g])) :=
  PI.imp (pi_range2 hg hm ha hs hs2) fun σ H R h => tOs_len (rd_rng h) fun vs H' l ⟨is, lo, n, e, e2, q⟩ => by
  obtain ⟨i, j, ej, h1, e3, e4⟩ := rng_two e2 e l
  subst e3; subst e4
  exact ⟨_, j, ej, h1, q⟩
/-! ### zip -/
def zipD (xs ys : List D) : List D := (xs.zip ys).map fun p => .tup [p.1, p.2]
def iZip2 (fa fb : Ev) : Tw.Env → Rs (List D) := fun env => (fa env).bind fun x env1 => (fb env1).bind fun y env2 => match x, y with
  | .lst _ xs, .lst _ ys => if D.oks xs && D.oks ys then .ok (zipD xs ys) env2 else .stuck
  | .tup xs, .tup ys => if D.oks xs && D.oks ys then .ok (zipD xs ys) env2 else .stuck
  | _, _ => .stuck
theorem zipD_get {xs ys : List D} {i : Nat} {d : D} (h : (zipD xs ys)[i]? = some d) : ∃ x y, xs[i]? = some x ∧ ys[i]? = some y ∧ d = .tup [x, y] := by
  unfold zipD at h
  rw [List.getElem?_map] at h
  obtain ⟨q, e, rfl⟩ := Option.map_eq_some_iff.mp h
  rw [List.getElem?_zip_eq_some] at e
  exact ⟨q.1, q.2, e.1, e.2, rfl⟩
theorem zipD_end {xs ys : List D} {i : Nat} (h : (zipD xs ys).length ≤ i) : xs.length ≤ i ∨ ys.length ≤ i := by
  unfold zipD at h
  rw [List.length_map, List.length_zip] at h
  omega
end
end Tw
noncomputable section
namespace Tw
open PySem PySem.Spec PyProof.Rows L2
/-- a list (false) or a tuple (true), its items -/
def D.seqK : D → Option (Bool × List D)
  | .lst _ xs => if D.oks xs then some (false, xs) else none
  | .tup xs => if D.oks xs then some (true, xs) else none
  | _ => none
def zipOf : List D → Option (Bool × List D × List D)
  | [x, y] => (D.seqK x).bind fun p => (D.seqK y).bind fun q => if p.1 = q.1 then some (p.1, p.2, q.2) else none
  | _ => none
def iZip (os : List Ev) : Tw.Env → Rs (List D) := fun env => (evs (vals os) env).bind fun ds env1 => match zipOf ds with
  | some q => .ok (zipD q.2.1 q.2.2) env1
  | none => .stuck
section
variable {X : Cx} {cl : Nat → Addr} {W : WX} {a b c e : Expr} {es : List Expr} {pos p : Pos} {x : Str} {fa fb fc : Ev}
theorem dat_seqK {K M H} {d : D} {k : Bool} {xs : List D} {v : V} {f : List Addr} (h : Dat K cl M H d v f) (e : D.seqK d = some (k, xs)) : ∃ a vs, v = .ref a ∧ (k = false → H a = some (.lst vs)) ∧ (k = true → SqT K H a vs) ∧ Dats K cl M H xs vs [] := by
  cases d with
  | lst m ds =>
    simp only [D.seqK] at e
    split at e
    · rename_i o
      cases e
      obtain ⟨a, vs, g, e1, t, hd, _⟩ := h
      exact ⟨a, vs, e1, fun _ => t, fun z => (nomatch z), oks_nil hd o⟩
    · cases e
  | tup ds =>
    simp only [D.seqK] at e
    split at e
    · rename_i o
      cases e
      obtain ⟨a, vs, e1, t, hd⟩ := h
      exact ⟨a, vs, e1, fun z => (nomatch z), fun _ => t.sq, oks_nil hd o⟩
    · cases e
  | _ => simp [D.seqK] at e
theorem iter_zip {K : PySem.W.Frag} {A B : Addr} {x y : D} {k : Bool} {xs ys : List D} (ex : D.seqK x = some (k, xs)) (ey : D.seqK y = some (k, ys)) : IterD K cl (if k = true then RZ.ItzT K A B else Itz K A B) (List.map some [x, y]) (List.map some [.ref A, .ref B]) (zipD xs ys) := by
  have key : ∀ (H : Hp) (κ : Tw.Env) (τ : S), Rel K cl H (List.map some [x, y] ++ κ) (List.map some [.ref A, .ref B] ++ τ) → ∃ f g us ws, (f ++ g).Nodup ∧ Dats K cl (· ∈ f ++ g) H [x, y] [.ref A, .ref B] f ∧ Slots K cl (· ∈ f ++ g) H κ τ g ∧
      (k = false → H A = some (.lst us)) ∧ (k = true → SqT K H A us) ∧ Dats K cl (· ∈ f ++ g) H xs us [] ∧ (k = false → H B = some (.lst ws)) ∧ (k = true → SqT K H B ws) ∧ Dats K cl (· ∈ f ++ g) H ys ws [] := fun H κ τ r => by
    obtain ⟨f, g, n, hh, hr⟩ := r.split rfl
    obtain ⟨f1, f2, _, h1, h2⟩ := dats2 hh
    obtain ⟨a, us, e1, l1, t1, d1⟩ := dat_seqK h1 ex
    obtain ⟨b, ws, e2, l2, t2, d2⟩ := dat_seqK h2 ey
    cases e1; cases e2
    exact ⟨f, g, us, ws, n, hh, hr, l1, t1, d1, l2, t2, d2⟩
  refine ⟨fun i d e H κ τ r => ?_, fun i hi H κ τ r => ?_⟩
  · obtain ⟨f, g, us, ws, n, hh, hr, l1, t1, d1, l2, t2, d2⟩ := key H κ τ r
    obtain ⟨x1, y1, e1, e2, rfl⟩ := zipD_get e
    obtain ⟨u, e3, hu⟩ := dats_get d1 e1
    obtain ⟨w, e4, hw⟩ := dats_get d2 e2
    have fin : ∀ T, H T = none → Rel K cl (upd H T (.tup [u, w])) (some (.tup [x1, y1]) :: (List.map some [x, y] ++ κ)) (some (.ref T) :: (List.map some [.ref A, .ref B] ++ τ)) := fun T nT => newT n hh hr nT ⟨u, [w], [], [], rfl, rfl, hu, w, [], [], [], rfl, rfl, hw, rfl, rfl⟩
    cases k with
    | false =>
      rw [if_neg Bool.false_ne_true]
      refine ⟨⟨us, ws, u, w, .of (l1 rfl), .of (l2 rfl), e3, e4⟩, fun v H' yl => ?_⟩
      obtain ⟨T, u', w', rfl, nT, rfl, q1, q2⟩ := yl
      have z1 := q1 us (.of (l1 rfl)); have z2 := q2 ws (.of (l2 rfl))
      rw [e3] at z1; rw [e4] at z2
      cases z1; cases z2
      exact fin T nT
    | true =>
      rw [if_pos rfl]
      refine ⟨⟨us, ws, u, w, t1 rfl, t2 rfl, e3, e4⟩, fun v H' yl => ?_⟩
      obtain ⟨T, u', w', rfl, nT, rfl, q1, q2⟩ := yl
      have z1 := q1 us (t1 rfl); have z2 := q2 ws (t2 rfl)
      rw [e3] at z1; rw [e4] at z2
      cases z1; cases z2
      exact fin T nT
  · obtain ⟨f, g, us, ws, n, hh, hr, l1, t1, d1, l2, t2, d2⟩ := key H κ τ r
    have q := zipD_end hi
    rw [← dats_length d1, ← dats_length d2] at q
    cases k with
    | false =>
      rw [if_neg Bool.false_ne_true]
      exact ⟨us, ws, .of (l1 rfl), .of (l2 rfl), q⟩
    | true =>
      rw [if_pos rfl]
      exact ⟨us, ws, t1 rfl, t2 rfl, q⟩
theorem i_zip {tpos : Pos} {elts : List Expr} {kk : Nat} {f g : Ev} (hm : X.mg "zip" = none) (ha : PA X [a, b] (tOs X.K cl W (vals [f, g]))) (hg : Gl X "zip" := by rfl)
    (hs : starEach [a, b] X.env = (false, eval a X.env) :: starEach [b] X.env := by rfl) (hpl : (backTo pos (starEach [b] X.env)).any (·.1) = false := by rfl) :
    PI X (.Tuple elts kk tpos) (.Call (.Name "zip" p) [a, b] [] pos) (tI X.K cl W (iZip [f, g])) := PI.imp (RZ.pi_zipA hg hm ha hs hpl) fun σ H R ⟨τ, κ, env, r, l, q⟩ => by
  refine tA_os (os := vals [f, g]) ⟨τ, κ, env, r, l, ?_⟩
  unfold iZip at q
  cases e1 : evs (vals [f, g]) env with
  | ok ds env1 =>
    rw [e1, Rs.bind_ok] at q
    intro us vs H' l2 r2 fu
    obtain ⟨rfl, l3⟩ := full_vals fu
    match ds, vs, l2, l3, r2, q with
    | [x, y], [u, w], l2, l3, r2, q =>
      cases e2 : zipOf [x, y] with
      | none => rw [e2] at q; exact q.elim
      | some pr =>
        rw [e2] at q
        simp only [zipOf, Option.bind_eq_some_iff] at e2
        obtain ⟨⟨k, xs⟩, ex, ⟨k2, ys⟩, ey, e2⟩ := e2
        split at e2
        · rename_i hk
          simp only at hk
          cases e2
          subst hk
          obtain ⟨f', g', n, hh, hr⟩ := r2.split rfl
          obtain ⟨f1, f2, _, h1, h2⟩ := dats2 hh
          obtain ⟨A, us, ea, la, ta, d1⟩ := dat_seqK h1 ex
          obtain ⟨B, ws, eb, lb, tb, d2⟩ := dat_seqK h2 ey
          subst ea; subst eb
          have fin := q (if k = true then RZ.ItzT X.K A B else Itz X.K A B) _ _ H' rfl (iter_zip ex ey) r2
          cases k with
          | false => exact ⟨A, B, us, ws, rfl, .inl ⟨.of (la rfl), .of (lb rfl), fin⟩⟩
          | true => exact ⟨A, B, us, ws, rfl, .inr ⟨ta rfl, tb rfl, fin⟩⟩
        · cases e2
    | [], _, l2, l3, _, _ => exact absurd (l2.symm.trans l3) (by simp [vals])
    | [_], _, l2, l3, _, _ => exact absurd (l2.symm.trans l3) (by simp)
    | _ :: _ :: _ :: _, _, l2, l3, _, _ => exact absurd (l2.symm.trans l3) (by simp)
  | exc _ _ _ _ => rw [e1] at q; exact q
  | stuck => rw [e1] at q; exact q
/-! ### comprehensions -/
def Rs.ne {α : Type} (r : Rs α) : Rs α := match r with
  | .exc _ _ _ _ => .stuck
  | r => r
def wipeE (env : Tw.Env) : List Nat → Tw.Env
  | [] => env
  | v :: vs => (wipeE env vs).set v none
def compGo (vs : List Nat) (b : Bd) (t : EvB) (f : Ev) : List D → List D → Tw.Env → Rs (List D)
  | [], acc, env => .ok acc env
  | d :: ds, acc, env => match b d env with
    | none => .stuck
    | some env1 => (t env1).ne.bind fun k env2 => if k = true then (f env2).ne.bind fun y env3 => compGo vs b t f ds (acc ++ [y]) (wipeE env3 vs) else compGo vs b t f ds acc (wipeE env2 vs)
def fComp (vs : List Nat) (fi : Tw.Env → Rs (List D)) (b : Bd) (t : EvB) (f : Ev) : Ev := fun env => (fi env).bind fun items env1 => if lenOk items.length then (compGo vs b t f items [] (wipeE env1 vs)).bind fun ds env2 => .ok (.lst true ds) env2 else .stuck
theorem Rel.append {K : PySem.W.Frag} {H : Hp} {d : D} {acc : List D} {y : V} {p : Addr} {κ : Tw.Env} {τ : S} (r : Rel K cl H (some d :: some (.lst true acc) :: κ) (some y :: some (.ref p) :: τ)) :
    ∃ us, H p = some (.lst us) ∧ us.length = acc.length ∧ Rel K cl (upd H p (.lst (us ++ [y]))) (some (.lst true (acc ++ [d])) :: κ) (some (.ref p) :: τ) := by
  obtain ⟨F, n, h⟩ := r
  obtain ⟨v1, xs1, f1, g1, e1, e2, h1, h2⟩ := h
  cases e1
  obtain ⟨v2, xs2, f2, g2, e3, e4, h3, h4⟩ := h2
  cases e3
  obtain ⟨a, us, g, e5, t, hd, w⟩ := h3
  cases e5
  rcases w with ⟨_, hM, e6⟩ | ⟨z, _⟩
  · subst e6; subst e4; subst e2
    refine ⟨us, t, dats_length hd, ?_⟩
    have n1 := List.nodup_append.mp n
    have n2 := List.nodup_append.mp n1.2.1
    have np1 : p ∉ f1 := fun z => n1.2.2 p z p (List.mem_append_left _ List.mem_cons_self) rfl
    have np2 : p ∉ g2 := fun z => n2.2.2 p List.mem_cons_self p z rfl
    have np3 : p ∉ g := (List.nodup_cons.mp n2.1).1
    have pm : (f1 ++ (p :: g ++ g2)).Perm ((p :: (g ++ f1)) ++ g2) := by
      refine (List.perm_append_comm_assoc f1 (p :: g) g2).trans ?_
      simp
    refine Rel.of_perm (f := f1 ++ (p :: g ++ g2)) (g := (p :: (g ++ f1)) ++ g2) ?_ n pm
    have tr : ∀ {f : List Addr}, p ∉ f → ∀ a o, H a = some o → (a ∈ f1 ++ (p :: g ++ g2) → a ∈ f) → upd H p (.lst (us ++ [y])) a = some o := fun {f} np a o e hf => by
      rw [upd_ne fun z => np (by rw [← z]; exact hf (by rw [z]; exact hM))]
      exact e
    refine ⟨.ref p, _, p :: (g ++ f1), g2, rfl, rfl, ⟨p, us ++ [y], g ++ f1, rfl, upd_same, ?_, .inl ⟨rfl, hM, rfl⟩⟩, ?_⟩
    · refine dats_append (dats_tr hd (fun a z => .inl z) (fun a z => by simp [z]) (tr np3)) ⟨y, [], f1, [], rfl, by simp, dat_tr h1 (fun a z => .inl z) (fun a z => by simp [z]) (tr np1), rfl, rfl⟩
    · exact slots_tr h4 (fun a z => .inl z) (fun a z => by simp [z]) (tr np2)
  · cases z
theorem slots_blank {K M H} : ∀ {ds : Tw.Env} {xs : S} {f : List Addr} (i : Nat) (x : Option V), Slots K cl M H ds xs f → ∃ g, (∀ a ∈ g, a ∈ f) ∧ (f.Nodup → g.Nodup) ∧ Slots K cl M H (ds.set i none) (xs.set i x) g
  | [], xs, f, i, x, h => by
    have e := h.1
    subst e
    exact ⟨f, fun _ z => z, id, by simpa using h⟩
  | none :: ds, _, f, 0, x, h => by
    obtain ⟨y, ys, rfl, h⟩ := h
    exact ⟨f, fun _ z => z, id, x, ys, rfl, h⟩
  | some d :: ds, _, f, 0, x, h => by
    obtain ⟨y, ys, f1, f2, rfl, rfl, h1, h⟩ := h
    exact ⟨f2, fun _ z => List.mem_append_right _ z, fun n => (List.nodup_append.mp n).2.1, x, ys, rfl, h⟩
  | none :: ds, _, f, i + 1, x, h => by
    obtain ⟨y, ys, rfl, h⟩ := h
    obtain ⟨g, hg, n, h2⟩ := slots_blank i x h
    exact ⟨g, hg, n, y, ys.set i x, rfl, h2⟩
  | some d :: ds, _, f, i + 1, x, h => by
    obtain ⟨y, ys, f1, f2, rfl, rfl, h1, h⟩ := h
    obtain ⟨g, hg, n, h2⟩ := slots_blank i x h
    refine ⟨f1 ++ g, fun a z => (List.mem_append.mp z).elim (fun z => List.mem_append_left _ z) fun z => List.mem_append_right _ (hg a z), fun n' => ?_, y, ys.set i x, f1, g, rfl, rfl, h1, h2⟩
    have n3 := List.nodup_append.mp n'
    exact List.nodup_append.mpr ⟨n3.1, n n3.2.1, fun a z b w e => n3.2.2 a z b (hg b w) e⟩
theorem Rel.blank {K : PySem.W.Frag} {H : Hp} {ds : Tw.Env} {xs : S} (r : Rel K cl H ds xs) (i : Nat) (x : Option V) : Rel K cl H (ds.set i none) (xs.set i x) := by
  obtain ⟨f, n, h⟩ := r
  obtain ⟨g, hg, n2, h2⟩ := slots_blank i x h
  exact .of_sub h2 (n2 n) hg
theorem Rel.blank2 {K : PySem.W.Frag} {H : Hp} {κ env : Tw.Env} {τ σ : S} (r : Rel K cl H (κ ++ env) (τ ++ σ)) (l : τ.length = κ.length) (i : Nat) (x : Option V) : Rel K cl H (κ ++ env.set i none) (τ ++ σ.set i x) := by
  have q := r.blank (κ.length + i) x
  rwa [List.set_append_right _ _ (by omega), Nat.add_sub_cancel_left, ← l, List.set_append_right _ _ (by omega), Nat.add_sub_cancel_left] at q
theorem rel_wipe {K : PySem.W.Frag} {H : Hp} {κ env : Tw.Env} {τ σ : S} (r : Rel K cl H (κ ++ env) (τ ++ σ)) (l : τ.length = κ.length) : ∀ vs : List Nat, Rel K cl H (κ ++ wipeE env vs) (τ ++ wipe σ vs)
  | [] => r
  | v :: vs => (rel_wipe r l vs).blank2 l v none
theorem wipeE_set {env : Tw.Env} : ∀ {vs : List Nat} {v : Nat}, v ∈ vs → (wipeE env vs).set v none = wipeE env vs
  | u :: vs, v, h => by
    unfold wipeE
    by_cases e : v = u
    · subst e; rw [List.set_set]
    · rw [List.set_comm _ _ (Ne.symm e), wipeE_set ((List.mem_cons.mp h).resolve_left e)]
theorem set_some_self (σ : S) (v : Nat) : σ.set v (σ[v]?.join) = σ := by
  by_cases h : v < σ.length
  · rw [List.getElem?_eq_getElem h]
    show σ.set v σ[v] = σ
    exact List.set_getElem_self h
  · exact List.set_eq_of_length_le (by omega)
theorem rel_unwipe {K : PySem.W.Frag} {H : Hp} {κ env : Tw.Env} {τ σ : S} (l : τ.length = κ.length) : ∀ {vs : List Nat}, (∀ v ∈ vs, env.set v none = env) → Rel K cl H (κ ++ env) (τ ++ wipe σ vs) → Rel K cl H (κ ++ env) (τ ++ σ)
  | [], _, r => r
  | v :: vs, hv, r => by
    refine rel_unwipe l (fun u hu => hv u (List.mem_cons_of_mem _ hu)) ?_
    have q := r.blank2 l v ((wipe σ vs)[v]?.join)
    rw [hv v List.mem_cons_self] at q
    have e : (wipe σ (v :: vs)).set v ((wipe σ vs)[v]?.join) = wipe σ vs := by
      show ((wipe σ vs).set v none).set v _ = _
      rw [List.set_set, set_some_self]
    rwa [e] at q
theorem wipe_off {σ σ' : S} : ∀ {vs : List Nat}, σ'.length = σ.length → (∀ j, j ∉ vs → σ'[j]? = σ[j]?) → wipe σ' vs = wipe σ vs := fun {vs} l h => by
  apply List.ext_getElem?
  intro j
  by_cases hj : j ∈ vs
  · have key : ∀ (ρ : S) (us : List Nat), j ∈ us → (wipe ρ us)[j]? = if j < ρ.length then some none else none := fun ρ us hm => by
      induction us with
      | nil => cases hm
      | cons u us ih =>
        unfold wipe
        by_cases e : u = j
        · subst e
          by_cases c : u < ρ.length
          · rw [if_pos c, List.getElem?_set_self (by rw [wipe_length]; exact c)]
          · rw [if_neg c, List.getElem?_eq_none (by rw [List.length_set, wipe_length]; omega)]
        · rw [List.getElem?_set_ne e]
          exact ih ((List.mem_cons.mp hm).resolve_left fun z => e z.symm)
    rw [key σ' vs hj, key σ vs hj, l]
  · rw [wipe_out hj, wipe_out hj, h j hj]
/-- the reading of a comprehension -/
theorem rd_comp {K : PySem.W.Frag} {vs ts : List Nat} {fi : Tw.Env → Rs (List D)} {b : Bd} {t : EvB} {f : Ev} {g : TG} {tt : TT} {te : TE} (hts : ∀ i ∈ ts, i ∈ vs) {σ : S} {H : Hp} {Q : VK} (h : tE K cl W (fComp vs fi b t f) σ H Q)
    (hg : ∀ v σ H Q, tG K cl ts b v σ H Q → g v σ H Q) (ht : ∀ σ H Q, tT K cl (fun _ _ _ _ => False) t σ H Q → tt σ H Q) (he : ∀ σ H Q, tE K cl (fun _ _ _ _ => False) f σ H Q → te σ H Q) : tLc (tI K cl W fi) g tt te vs σ H Q := by
  obtain ⟨τ, κ, env, r, l, q⟩ := h
  refine ⟨τ, κ, env, r, l, ?_⟩
  unfold fComp at q
  cases e1 : fi env with
  | ok items env1 =>
    rw [e1, Rs.bind_ok] at q
    intro J κx τx H1 lx it r1 p hD
    split at q
    · rename_i hlen
      have hlen := of_decide_eq_true hlen
      let Inv : Nat → Nat → Hp → Prop := fun i m H => i ≤ items.length ∧ m = items.length - i ∧ ∃ (env' : Tw.Env) (acc : List D), acc.length ≤ i ∧ (∀ v ∈ vs, env'.set v none = env') ∧ Rel K cl H (some (.lst true acc) :: (κx ++ (κ ++ env'))) (some (.ref p) :: (τx ++ (τ ++ wipe σ vs))) ∧
        ((compGo vs b t f (items.drop i) acc env').bind fun ds env2 => Rs.ok (Tw.D.lst true ds) env2).P (fun d env' => ∀ v H', Rel K cl H' (some d :: (κ ++ env')) (some v :: (τ ++ σ)) → Q v H') (WP K cl W κ τ σ)
      refine ⟨Inv, ⟨items.length, Nat.zero_le _, rfl, wipeE env1 vs, [], Nat.zero_le _, fun v hv => wipeE_set hv, ?_, q⟩, ?_⟩
      · have r2 : Rel K cl H1 (κx ++ (κ ++ wipeE env1 vs)) (τx ++ (τ ++ wipe σ vs)) := by
          have z := rel_wipe (κ := κx ++ κ) (τ := τx ++ τ) (env := env1) (σ := σ) (by rw [List.append_assoc, List.append_assoc]; exact r1) (by simp [lx, l]) vs
          rwa [List.append_assoc, List.append_assoc] at z
        exact Rel.packL (as := []) (vs := []) r2 rfl hD
      · rintro i m H ⟨hi, rfl, env', acc, ha, hv, r2, q2⟩
        by_cases hlt : i < items.length
        · right
          have hd : items[i]? = some items[i] := List.getElem?_eq_getElem hlt
          have r3 : Rel K cl H (κx ++ (some (.lst true acc) :: (κ ++ env'))) (τx ++ (some (.ref p) :: (τ ++ wipe σ vs))) := Rel.swap3 (A := [some (.lst true acc)]) (X := [some (.ref p)]) r2 rfl lx
          obtain ⟨go, yl⟩ := it.go i items[i] hd H _ _ r3
          have r4' : ∀ x H', J.yld i H x H' → Rel K cl H' (some items[i] :: (some (.lst true acc) :: (κx ++ (κ ++ env')))) (some x :: (some (.ref p) :: (τx ++ (τ ++ wipe σ vs)))) := fun x H' y => by
            have z := yl x H' y
            have z2 := Rel.swap3 (A := some items[i] :: κx) (X := some x :: τx) (B := [some (.lst true acc)]) (Y := [some (.ref p)]) (C := κ ++ env') (Z := τ ++ wipe σ vs) z (by simp [lx]) rfl
            exact Rel.swap3 (A := [some (.lst true acc)]) (X := [some (.ref p)]) (B := [some items[i]]) (Y := [some x]) z2 rfl rfl
          rw [List.drop_eq_getElem_cons hlt] at q2
          unfold compGo at q2
          refine ⟨go, fun H' => ∃ m', m' < items.length - i ∧ Inv (i + 1) m' H', fun H' z => z, fun x H' y => hg _ _ _ _ ?_⟩
          have r4 := r4' x H' y
          cases e2 : b items[i] env' with
          | none => rw [e2] at q2; exact q2.elim
          | some env2 =>
            rw [e2] at q2
            simp only at q2
            refine ⟨some (.ref p) :: (τx ++ τ), some (.lst true acc) :: (κx ++ κ), env', items[i], by simpa [List.append_assoc] using r4, by simp [lx, l], env2, e2, fun σ2 H2 o2 r5 => ?_⟩
            have ew : wipe σ2 vs = wipe σ vs := by
              have z : wipe σ2 vs = wipe (wipe σ vs) vs := wipe_off o2.1 fun j hj => o2.2 j fun z => hj (hts j z)
              rw [z]
              exact wipe_off (wipe_length _ _) fun j hj => wipe_out hj
            refine ⟨ew, ht _ _ _ ?_⟩
            have back : ∀ {ρ : S} {env3 : Tw.Env} {H3 : Hp} {a : List D}, wipe ρ vs = wipe σ vs → Rel K cl H3 (some (.lst true a) :: (κx ++ (κ ++ env3))) (some (.ref p) :: (τx ++ (τ ++ ρ))) → Rel K cl H3 (some (.lst true a) :: (κx ++ (κ ++ wipeE env3 vs))) (some (.ref p) :: (τx ++ (τ ++ wipe σ vs))) := fun {ρ env3 H3 a} e z => by
              have z2 := rel_wipe (κ := some (.lst true a) :: (κx ++ κ)) (τ := some (.ref p) :: (τx ++ τ)) (env := env3) (σ := ρ) (by simpa [List.append_assoc] using z) (by simp [lx, l]) vs
              rw [e] at z2
              simpa [List.append_assoc] using z2
            refine ⟨some (.ref p) :: (τx ++ τ), some (.lst true acc) :: (κx ++ κ), env2, r5, by simp [lx, l], ?_⟩
            cases e3 : t env2 with
            | ok k env3 =>
              rw [e3] at q2
              simp only [Rs.ne, Rs.bind_ok] at q2
              intro H3 r6
              have r6' : Rel K cl H3 (some (.lst true acc) :: (κx ++ (κ ++ env3))) (some (.ref p) :: (τx ++ (τ ++ σ2))) := by simpa [List.append_assoc] using r6
              cases k with
              | true =>
                rw [if_pos rfl] at q2 ⊢
                refine he _ _ _ ⟨some (.ref p) :: (τx ++ τ), some (.lst true acc) :: (κx ++ κ), env3, r6, by simp [lx, l], ?_⟩
                cases e4 : f env3 with
                | ok y env4 =>
                  rw [e4] at q2
                  simp only [Rs.ne, Rs.bind_ok] at q2
                  intro v H4 r7
                  obtain ⟨us, t1, lu, r8⟩ := Rel.append (d := y) (acc := acc) (y := v) (p := p) (κ := κx ++ (κ ++ env4)) (τ := τx ++ (τ ++ σ2)) (by simpa [List.append_assoc] using r7)
                  exact ⟨us, t1, by omega, items.length - (i + 1), by omega, hlt, rfl, wipeE env4 vs, acc ++ [y], by simp; omega, fun v hv => wipeE_set hv, back ew r8, q2⟩
                | exc _ _ _ _ => rw [e4] at q2; exact q2.elim
                | stuck => rw [e4] at q2; exact q2.elim
              | false =>
                rw [if_neg Bool.false_ne_true] at q2 ⊢
                exact ⟨items.length - (i + 1), by omega, hlt, rfl, wipeE env3 vs, acc, by omega, fun v hv => wipeE_set hv, back ew r6', q2⟩
            | exc _ _ _ _ => rw [e3] at q2; exact q2.elim
            | stuck => rw [e3] at q2; exact q2.elim
        · left
          have e : i = items.length := by omega
          subst e
          have r3 : Rel K cl H (κx ++ (some (.lst true acc) :: (κ ++ env'))) (τx ++ (some (.ref p) :: (τ ++ wipe σ vs))) := Rel.swap3 (A := [some (.lst true acc)]) (X := [some (.ref p)]) r2 rfl lx
          refine ⟨it.stop _ (Nat.le_refl _) H _ _ r3, ?_⟩
          rw [List.drop_length] at q2
          have r4 := Rel.drop r3 lx
          exact q2 _ _ (rel_unwipe (κ := some (.lst true acc) :: κ) (τ := some (.ref p) :: τ) (by simp [l]) hv r4)
    · exact q.elim
  | exc _ _ _ _ => rw [e1] at q; exact q
  | stuck => rw [e1] at q; exact q
end
end Tw
noncomputable section
namespace Tw
open PySem PySem.Spec PyProof.Rows L2
def bTrue : EvB := fun env => .ok true env
section
variable {X : Cx} {cl : Nat → Addr} {W : WX} {a b c e : Expr} {es : List Expr} {pos p : Pos} {x : Str} {fa fb fc : Ev}
theorem c_nil : PTs X [] (tT X.K cl W bTrue) := ⟨fun pins s σ H Q I ⟨τ, κ, env, r, l, q⟩ => pts_nil.run pins s σ H Q I (q H r)⟩
theorem c_one {t : EvB} (h : PT X c (tT X.K cl W t)) : PTs X [c] (tT X.K cl W t) := pts_one h
theorem j_comp {elt tg iter : Expr} {ifs : List Expr} {scope : Scope} {own : List (Str × Nat)} {fi : Tw.Env → Rs (List D)} {bd : Bd} {ts : List Nat} {t : EvB} {f : Ev} (hc : X.calm = true) (hN : X.N.Nodup) (hi : PI X tg iter (tI X.K cl W fi)) (ok : BlkOk X.N X.env.scope scope own)
    (hg : ∀ (s : Shared) (H : Hp) (C : Addr) (cls : List (Str × Addr)) (fp : List Addr), PG (X.blk s H scope (compEnvC scope cls C X.env) fp) tg (tG X.K cl ts bd)) (ht : ∀ (s : Shared) (H : Hp) (C : Addr) (cls : List (Str × Addr)) (fp : List Addr), PTs (X.blk s H scope (compEnvC scope cls C X.env) fp) ifs (tT X.K cl (fun _ _ _ _ => False) t))
    (he : ∀ (s : Shared) (H : Hp) (C : Addr) (cls : List (Str × Addr)) (fp : List Addr), PE (X.blk s H scope (compEnvC scope cls C X.env) fp) elt (tE X.K cl (fun _ _ _ _ => False) f)) (hts : ∀ i ∈ ts, i ∈ own.map (·.2)) (hs : ∀ x, foldedSetIterable iter X.env x = pure x := by intro _; rfl) :
    PE X (.ListComp elt [⟨tg, iter, ifs, 0⟩] scope pos) (tE X.K cl W (fComp (own.map (·.2)) fi bd t f)) :=
  PE.imp (pe_lc hc hN hi ok hg ht he hs) fun σ H Q h => rd_comp hts h (fun _ _ _ _ z => z) (fun _ _ _ z => z) fun _ _ _ z => z
/-! ## statements -/
inductive Out where
  | next (env : Tw.Env) | brk (env : Tw.Env) | cont (env : Tw.Env) | ret (d : D) (env : Tw.Env) | exc (c : Nat) (ns : List Str) (ds : List D) (env : Tw.Env) | stuck
abbrev Sv := Tw.Env → Out
def Agr (io : List Nat) (σ σ' : S) : Prop := σ'.length = σ.length ∧ ∀ i ∈ io, σ'[i]? = σ[i]?
theorem Agr.refl {io : List Nat} {σ : S} : Agr io σ σ := ⟨rfl, fun _ _ => rfl⟩
theorem Agr.symm {io : List Nat} {σ σ' : S} (h : Agr io σ σ') : Agr io σ' σ := ⟨h.1.symm, fun i hi => (h.2 i hi).symm⟩
theorem Agr.trans {io : List Nat} {σ σ1 σ2 : S} (h : Agr io σ σ1) (h2 : Agr io σ1 σ2) : Agr io σ σ2 := ⟨h2.1.trans h.1, fun i hi => (h2.2 i hi).trans (h.2 i hi)⟩
theorem Off.agr {ts io : List Nat} {σ σ' : S} (h : Off ts σ σ') (d : ∀ i ∈ io, i ∉ ts) : Agr io σ σ' := ⟨h.1, fun i hi => h.2 i (d i hi)⟩
def SOut (K : PySem.W.Frag) (cl : Nat → Addr) (W : WX) (io : List Nat) (Z : Ends) (κ : Tw.Env) (τ σ : S) : Out → Prop
  | .next env' => ∀ σ' H', Agr io σ σ' → Rel K cl H' (κ ++ env') (τ ++ σ') → Z.nx σ' H'
  | .brk env' => ∀ σ' H', Agr io σ σ' → Rel K cl H' (κ ++ env') (τ ++ σ') → Z.bk σ' H'
  | .cont env' => ∀ σ' H', Agr io σ σ' → Rel K cl H' (κ ++ env') (τ ++ σ') → Z.ct σ' H'
  | .ret d env' => ∀ v σ' H', Agr io σ σ' → Rel K cl H' (some d :: (κ ++ env')) (some v :: (τ ++ σ')) → Z.rt v H'
  | .exc c ns ds env' => ∀ cls dd σ' H' vs, Agr io σ σ' → ExAt cl H' cls dd c ns vs → Rel K cl H' (ds.map some ++ (κ ++ env')) (vs.map some ++ (τ ++ σ')) → ds.length = vs.length → W cls dd σ' H'
  | .stuck => False
def tS (K : PySem.W.Frag) (cl : Nat → Addr) (W : WX) (io : List Nat) (g : Sv) : TS := fun Z σ H => ∃ (τ : S) (κ env : Tw.Env), Rel K cl H (κ ++ env) (τ ++ σ) ∧ τ.length = κ.length ∧ SOut K cl W io Z κ τ σ (g env)
theorem SOut.agr {K : PySem.W.Frag} {io : List Nat} {Z : Ends} {κ : Tw.Env} {τ σ σ1 : S} {o : Out} (h : SOut K cl W io Z κ τ σ o) (g : Agr io σ σ1) : SOut K cl W io Z κ τ σ1 o := by
  cases o with
  | next env => exact fun σ' H' q r => h σ' H' (g.trans q) r
  | brk env => exact fun σ' H' q r => h σ' H' (g.trans q) r
  | cont env => exact fun σ' H' q r => h σ' H' (g.trans q) r
  | ret d env => exact fun v σ' H' q r => h v σ' H' (g.trans q) r
  | exc c ns ds env => exact fun cls dd σ' H' vs q e r l => h cls dd σ' H' vs (g.trans q) e r l
  | stuck => exact h
def sBind {α : Type} (r : Rs α) (k : α → Tw.Env → Out) : Out := match r with
  | .ok a e => k a e
  | .exc c ns ds e => .exc c ns ds e
  | .stuck => .stuck
@[simp] theorem sBind_ok {α : Type} (a : α) (e : Tw.Env) (k : α → Tw.Env → Out) : sBind (.ok a e) k = k a e := rfl
@[simp] theorem sBind_stuck {α : Type} (k : α → Tw.Env → Out) : sBind .stuck k = .stuck := rfl
theorem sbind_at {K : PySem.W.Frag} {io : List Nat} {Z : Ends} {A κ env : Tw.Env} {Y τ σ : S} {H : Hp} {f : Ev} {k : D → Tw.Env → Out} {Q : VK} (ly : Y.length = A.length) (r : Rel K cl H (A ++ (κ ++ env)) (Y ++ (τ ++ σ))) (l : τ.length = κ.length) (h : SOut K cl W io Z κ τ σ (sBind (f env) k))
    (hk : ∀ d env1 v H1, SOut K cl W io Z κ τ σ (k d env1) → Rel K cl H1 (some d :: (A ++ (κ ++ env1))) (some v :: (Y ++ (τ ++ σ))) → Q v H1) : tE K cl W f σ H Q := by
  refine ⟨Y ++ τ, A ++ κ, env, by rwa [List.append_assoc, List.append_assoc], by simp [ly, l], ?_⟩
  cases e : f env with
  | ok d env1 =>
    rw [e] at h
    exact fun v H1 r1 => hk d env1 v H1 h (by rwa [List.append_assoc, List.append_assoc] at r1)
  | exc c ns ds env1 =>
    rw [e] at h
    exact WP.weak ly fun cls dd H' vs ex r2 l2 => h cls dd σ H' vs .refl ex r2 l2
  | stuck => rw [e] at h; exact h
theorem tbind_at {K : PySem.W.Frag} {io : List Nat} {Z : Ends} {κ env : Tw.Env} {τ σ : S} {H : Hp} {f : EvB} {k : Bool → Tw.Env → Out} {Q : Bool → Hp → Prop} (r : Rel K cl H (κ ++ env) (τ ++ σ)) (l : τ.length = κ.length) (h : SOut K cl W io Z κ τ σ (sBind (f env) k))
    (hk : ∀ d env1 H1, SOut K cl W io Z κ τ σ (k d env1) → Rel K cl H1 (κ ++ env1) (τ ++ σ) → Q d H1) : tT K cl W f σ H Q := by
  refine ⟨τ, κ, env, r, l, ?_⟩
  cases e : f env with
  | ok d env1 =>
    rw [e] at h
    exact fun H1 r1 => hk d env1 H1 h r1
  | exc c ns ds env1 =>
    rw [e] at h
    exact fun cls dd H' vs ex r2 l2 => h cls dd σ H' vs .refl ex r2 l2
  | stuck => rw [e] at h; exact h
/-! ### one behind another -/
variable {io : List Nat} {st : Stmt} {sts : List Stmt}
def sNil : Sv := fun env => .next env
def sSeq (g h : Sv) : Sv := fun env => match g env with
  | .next env1 => h env1
  | o => o
theorem ss_nil : PSs X [] (tS X.K cl W io sNil) := PSs.imp pss_nil fun Z σ H ⟨τ, κ, env, r, l, q⟩ => q σ H .refl r
theorem ss_cons {g h : Sv} (h1 : PS X st (tS X.K cl W io g)) (h2 : PSs X sts (tS X.K cl W io h)) : PSs X (st :: sts) (tS X.K cl W io (sSeq g h)) := PSs.imp (pss_cons h1 h2) fun Z σ H ⟨τ, κ, env, r, l, q⟩ => by
  refine ⟨τ, κ, env, r, l, ?_⟩
  unfold sSeq at q
  cases e : g env with
  | next env1 =>
    rw [e] at q
    exact fun σ' H' a r' => ⟨τ, κ, env1, r', l, q.agr a⟩
  | brk env1 => rw [e] at q; exact q
  | cont env1 => rw [e] at q; exact q
  | ret d env1 => rw [e] at q; exact q
  | exc c ns ds env1 => rw [e] at q; exact q
  | stuck => rw [e] at q; exact q
theorem ss_one {g : Sv} (h1 : PS X st (tS X.K cl W io g)) : PSs X [st] (tS X.K cl W io g) := pss_one h1
def sNever : Sv := fun _ => .stuck
theorem s_never : PS X st (tS X.K cl W io sNever) := PS.imp ps_never fun Z σ H ⟨τ, κ, env, r, l, q⟩ => q
theorem ss_never : PSs X sts (tS X.K cl W io sNever) := PSs.imp pss_never fun Z σ H ⟨τ, κ, env, r, l, q⟩ => q
def sBrk : Sv := fun env => .brk env
def sCont : Sv := fun env => .cont env
theorem s_pass : PS X (.Pass pos) (tS X.K cl W io sNil) := PS.imp ps_pass fun Z σ H ⟨τ, κ, env, r, l, q⟩ => q σ H .refl r
theorem s_brk : PS X (.Break pos) (tS X.K cl W io sBrk) := PS.imp ps_break fun Z σ H ⟨τ, κ, env, r, l, q⟩ => q σ H .refl r
theorem s_cont : PS X (.Continue pos) (tS X.K cl W io sCont) := PS.imp ps_continue fun Z σ H ⟨τ, κ, env, r, l, q⟩ => q σ H .refl r
def sRet (f : Ev) : Sv := fun env => sBind (f env) fun d env1 => .ret d env1
def sExpr (f : Ev) : Sv := fun env => sBind (f env) fun _ env1 => .next env1
theorem s_ret (h : PE X e (tE X.K cl W fa)) : PS X (.Return (some e) pos) (tS X.K cl W io (sRet fa)) := PS.imp (ps_ret h) fun Z σ H ⟨τ, κ, env, r, l, q⟩ =>
  sbind_at (A := []) (Y := []) rfl r l q fun d env1 v H1 h1 r1 => h1 v σ H1 .refl r1
theorem s_retN : PS X (.Return none pos) (tS X.K cl W io (sRet (fK .non))) := PS.imp ps_retN fun Z σ H ⟨τ, κ, env, r, l, q⟩ => q .non σ H .refl (r.push fun M => ⟨rfl, rfl⟩)
theorem s_expr (h : PE X e (tE X.K cl W fa)) (hs : swapsWith e none pos.line X.env = pure false := by rfl) : PS X (.Expr e pos) (tS X.K cl W io (sExpr fa)) := PS.imp (ps_expr h hs) fun Z σ H ⟨τ, κ, env, r, l, q⟩ =>
  sbind_at (A := []) (Y := []) rfl r l q fun d env1 v H1 h1 r1 => h1 σ H1 .refl r1.pop
def sIf (t : EvB) (g h : Sv) : Sv := fun env => sBind (t env) fun k env1 => if k = true then g env1 else h env1
theorem s_if {t : EvB} {g h : Sv} {as bs : List Stmt} (hc : PT X c (tT X.K cl W t)) (ha : PSs X as (tS X.K cl W io g)) (hb : PSs X bs (tS X.K cl W io h)) : PS X (.If c as bs pos) (tS X.K cl W io (sIf t g h)) := PS.imp (ps_if hc ha hb) fun Z σ H ⟨τ, κ, env, r, l, q⟩ =>
  tbind_at r l q fun k env1 H1 h1 r1 => by
    cases k with
    | true => rw [if_pos rfl] at h1 ⊢; exact ⟨τ, κ, env1, r1, l, h1⟩
    | false => rw [if_neg Bool.false_ne_true] at h1 ⊢; exact ⟨τ, κ, env1, r1, l, h1⟩
/-! ### stores -/
def sAsg (bd : Bd) (f : Ev) : Sv := fun env => sBind (f env) fun d env1 => match bd d env1 with
  | some env2 => .next env2
  | none => .stuck
theorem rd_asg {K : PySem.W.Frag} {ts : List Nat} {bd : Bd} {te : TE} {g : TG} (he : ∀ σ H Q, tE K cl W fa σ H Q → te σ H Q) (hg : ∀ v σ H Q, tG K cl ts bd v σ H Q → g v σ H Q) (hio : ∀ i ∈ io, i ∉ ts) {Z : Ends} {σ : S} {H : Hp} (h : tS K cl W io (sAsg bd fa) Z σ H) : tAsg te g Z σ H := by
  obtain ⟨τ, κ, env, r, l, q⟩ := h
  refine he _ _ _ (sbind_at (A := []) (Y := []) rfl r l q fun d env1 v H1 h1 r1 => hg _ _ _ _ ?_)
  cases e : bd d env1 with
  | none => rw [e] at h1; exact h1.elim
  | some env2 =>
    rw [e] at h1
    exact ⟨τ, κ, env1, d, r1, l, env2, e, fun σ' H' o r2 => h1 σ' H' (o.agr hio) r2⟩
theorem s_set {i : Nat} {px : Pos} (hN : X.N.Nodup) (he : PE X e (tE X.K cl W fa)) (hio : ∀ j ∈ io, j ∉ [i] := by decide) (hi : X.N[i]? = some x := by rfl) (hx : Loc X.env.scope x := by first | exact .inl rfl | exact .inr rfl) (hs : swapsWith e (some (.Name x px)) pos.line X.env = pure false := by rfl)
    (hf : X.fn x = true ∨ X.env.scope.names.lookup x = some .local := by first | exact .inl rfl | exact .inr rfl) : PS X (.Assign [.Name x px] e pos) (tS X.K cl W io (sAsg (bNm i) fa)) :=
  PS.imp (L2.ps_set hN hi hx he hs hf) fun Z σ H h => rd_asg (fun _ _ _ z => z) (fun _ _ _ _ z => rd_nm z) hio h
theorem s_asg {tg : Expr} {ts : List Nat} {bd : Bd} (he : PE X e (tE X.K cl W fa)) (hg : PG X tg (tG X.K cl ts bd)) (hio : ∀ j ∈ io, j ∉ ts := by decide) (hs : swapsWithSole [tg] e pos.line X.env = pure false := by rfl) (hw : swappedStores [tg] e X.env = pure none := by rfl) (h1 : (assignEach [tg] X.env).map (·.2) = [assign tg X.env] := by rfl) :
    PS X (.Assign [tg] e pos) (tS X.K cl W io (sAsg bd fa)) := PS.imp (ps_asg he hg hs hw h1) fun Z σ H h => rd_asg (fun _ _ _ z => z) (fun _ _ _ _ z => z) hio h
theorem s_setLc {i : Nat} {y : Str} {py spos : Pos} {elt tg iter : Expr} {ifs : List Expr} {scope : Scope} {own : List (Str × Nat)} {fi : Tw.Env → Rs (List D)} {bd : Bd} {ts : List Nat} {t : EvB} {f : Ev} (hc : X.calm = true) (hN : X.N.Nodup) (hy : X.N[i]? = some y) (hyl : X.env.scope.names.lookup y = some .local)
    (hsw : swapsWith (.ListComp elt [⟨tg, iter, ifs, 0⟩] scope pos) (some (.Name y py)) spos.line X.env = pure true) (hi : PI X tg iter (tI X.K cl W fi)) (ok : BlkOk X.N X.env.scope scope own)
    (hg : ∀ (s : Shared) (H : Hp) (C : Addr) (cls : List (Str × Addr)) (fp : List Addr), PG (X.blk s H scope (compEnvC scope cls C X.env) fp) tg (tG X.K cl ts bd)) (ht : ∀ (s : Shared) (H : Hp) (C : Addr) (cls : List (Str × Addr)) (fp : List Addr), PTs (X.blk s H scope (compEnvC scope cls C X.env) fp) ifs (tT X.K cl (fun _ _ _ _ => False) t))
    (he : ∀ (s : Shared) (H : Hp) (C : Addr) (cls : List (Str × Addr)) (fp : List Addr), PE (X.blk s H scope (compEnvC scope cls C X.env) fp) elt (tE X.K cl (fun _ _ _ _ => False) f)) (hts : ∀ i ∈ ts, i ∈ own.map (·.2)) (hio : ∀ j ∈ io, j ∉ [i] := by decide) (hs : ∀ x, foldedSetIterable iter X.env x = pure x := by intro _; rfl) :
    PS X (.Assign [.Name y py] (.ListComp elt [⟨tg, iter, ifs, 0⟩] scope pos) spos) (tS X.K cl W io (sAsg (bNm i) (fComp (own.map (·.2)) fi bd t f))) :=
  PS.imp (ps_setLc hc hN hy hyl hsw hi ok hg ht he hs) fun Z σ H h => rd_asg (fun σ H Q h => rd_comp hts h (fun _ _ _ _ z => z) (fun _ _ _ z => z) fun _ _ _ z => z) (fun _ _ _ _ z => rd_nm z) hio h
/-- a, b = e1, e2 -/
def sPar (i j : Nat) (f g : Ev) : Sv := fun env => sBind (f env) fun x env1 => sBind (g env1) fun y env2 => if i < env2.length ∧ j < env2.length then .next ((env2.set i (some x)).set j (some y)) else .stuck
theorem s_par {i j : Nat} {x y : Str} {px py pt : Pos} {kt k2 pt2} (hc : X.calm = true) (hN : X.N.Nodup) (ha : PE X a (tE X.K cl W fa)) (hb : PE X b (tE X.K cl W fb)) (hi : X.N[i]? = some x := by rfl) (hj : X.N[j]? = some y := by rfl) (hij : i ≠ j := by decide) (hio : ∀ k ∈ io, k ∉ [i, j] := by decide)
    (hx : X.env.scope.names.lookup x = some .local := by rfl) (hy : X.env.scope.names.lookup y = some .local := by rfl) (hw : swappedStores [.Tuple [.Name x px, .Name y py] kt pt] (.Tuple [a, b] k2 pt2) X.env = pure (some [x, y]) := by rfl)
    (hs : swapsWithSole [.Tuple [.Name x px, .Name y py] kt pt] (.Tuple [a, b] k2 pt2) pos.line X.env = pure false := by rfl) (h1 : starEach [a, b] X.env = (false, eval a X.env) :: starEach [b] X.env := by rfl) (h2 : starEach [b] X.env = (false, eval b X.env) :: starEach [] X.env := by rfl) :
    PS X (.Assign [.Tuple [.Name x px, .Name y py] kt pt] (.Tuple [a, b] k2 pt2) pos) (tS X.K cl W io (sPar i j fa fb)) :=
  PS.imp (ps_par hc hN hi hj hij hx hy (pa_cons ha (pa_cons hb pa_nil h2) h1) hw hs) fun Z σ H ⟨τ, κ, env, r, l, q⟩ => by
  refine sbind_at (A := []) (Y := []) rfl r l q fun d env1 v H1 h1 r1 => ?_
  refine sbind_at (A := [some d]) (Y := [some v]) rfl r1 l h1 fun d2 env2 v2 H2 h2 r2 => ⟨v, v2, rfl, ?_⟩
  split at h2
  · rename_i hl
    have r3 : Rel X.K cl H2 (some d :: (some d2 :: (κ ++ env2))) (some v :: (some v2 :: (τ ++ σ))) := Rel.swap3 (A := [some d2]) (X := [some v2]) (B := [some d]) (Y := [some v]) r2 rfl rfl
    have r4 := Rel.put (i := κ.length + i + 1) r3 (by simp; omega)
    have r5 : Rel X.K cl H2 (some d2 :: (κ ++ env2.set i (some d))) (some v2 :: (τ ++ σ.set i (some v))) := by
      rw [List.set_cons_succ, List.set_cons_succ, List.set_append_right _ _ (by omega), Nat.add_sub_cancel_left, ← l, List.set_append_right _ _ (by omega), Nat.add_sub_cancel_left] at r4
      exact r4
    have r6 := Rel.put (i := κ.length + j) r5 (by simp; omega)
    rw [List.set_append_right _ _ (by omega), Nat.add_sub_cancel_left, ← l, List.set_append_right _ _ (by omega), Nat.add_sub_cancel_left] at r6
    exact h2 _ H2 ((Off.set.trans Off.set).agr hio) r6
  · exact h2.elim
/-! ### loops -/
def forGo (bd : Bd) (body : Sv) : List D → Sv
  | [], env => .next env
  | d :: ds, env => match bd d env with
    | none => .stuck
    | some env1 => match body env1 with
      | .next env2 => forGo bd body ds env2
      | .cont env2 => forGo bd body ds env2
      | .brk env2 => .next env2
      | o => o
def sFor (fi : Tw.Env → Rs (List D)) (bd : Bd) (body : Sv) : Sv := fun env => sBind (fi env) fun items env1 => forGo bd body items env1
theorem s_for {tg iter : Expr} {body : List Stmt} {fi : Tw.Env → Rs (List D)} {ts : List Nat} {bd : Bd} {g : Sv} (hp : PassesOwn (model X.prog X.w) X.A X.env X.xe) (hc : X.calm = true) (hi : PI X tg iter (tI X.K cl W fi)) (hg : PG X tg (tG X.K cl ts bd)) (hb : PSs X body (tS X.K cl W io g)) (hio : ∀ i ∈ io, i ∉ ts := by decide)
    (hs : ∀ x, foldedSetIterable iter X.env x = pure x := by intro _; rfl) : PS X (.For tg iter body [] pos) (tS X.K cl W io (sFor fi bd g)) := PS.imp (ps_for hp hc hi hg hb hs) fun Z σ H ⟨τ, κ, env, r, l, q⟩ => by
  refine ⟨τ, κ, env, r, l, ?_⟩
  unfold sFor at q
  cases e1 : fi env with
  | ok items env1 =>
    rw [e1, sBind_ok] at q
    intro J κx τx H1 lx it r1
    refine ⟨fun i m σ1 H1 => i ≤ items.length ∧ m = items.length - i ∧ Agr io σ σ1 ∧ ∃ env', Rel X.K cl H1 (κx ++ (κ ++ env')) (τx ++ (τ ++ σ1)) ∧ SOut X.K cl W io Z κ τ σ (forGo bd g (items.drop i) env'), ⟨items.length, Nat.zero_le _, rfl, .refl, env1, r1, q⟩, ?_⟩
    rintro i m σ1 H1 ⟨hi, rfl, ag, env', r2, q2⟩
    by_cases hlt : i < items.length
    · right
      have hd : items[i]? = some items[i] := List.getElem?_eq_getElem hlt
      obtain ⟨go, yl⟩ := it.go i items[i] hd H1 _ _ r2
      refine ⟨go, _, fun σ' H' z => z, fun x H' y => ?_⟩
      have r3 := yl x H' y
      rw [List.drop_eq_getElem_cons hlt] at q2
      unfold forGo at q2
      cases e2 : bd items[i] env' with
      | none => rw [e2] at q2; exact q2.elim
      | some env2 =>
        rw [e2] at q2
        simp only at q2
        refine ⟨τx ++ τ, κx ++ κ, env', items[i], by simpa [List.append_assoc] using r3, by simp [lx, l], env2, e2, fun σ2 H2 o2 r4 => ?_⟩
        have ag2 := ag.trans (o2.agr hio)
        refine ⟨τx ++ τ, κx ++ κ, env2, r4, by simp [lx, l], ?_⟩
        cases e3 : g env2 with
        | next env3 =>
          rw [e3] at q2
          exact fun σ3 H3 a3 r5 => ⟨items.length - (i + 1), by omega, hlt, rfl, ag2.trans a3, env3, by simpa [List.append_assoc] using r5, q2⟩
        | cont env3 =>
          rw [e3] at q2
          exact fun σ3 H3 a3 r5 => ⟨items.length - (i + 1), by omega, hlt, rfl, ag2.trans a3, env3, by simpa [List.append_assoc] using r5, q2⟩
        | brk env3 =>
          rw [e3] at q2
          exact fun σ3 H3 a3 r5 => q2 σ3 H3 (ag2.trans a3) (Rel.drop (A := κx) (X := τx) (by simpa [List.append_assoc] using r5) lx)
        | ret d env3 =>
          rw [e3] at q2
          exact fun v σ3 H3 a3 r5 => q2 v σ3 H3 (ag2.trans a3) (Rel.drop (A := κx) (X := τx) (Rel.swap3 (A := [some d]) (X := [some v]) (B := κx) (Y := τx) (C := κ ++ env3) (Z := τ ++ σ3) (by simpa [List.append_assoc] using r5) rfl lx) lx)
        | exc c ns ds env3 =>
          rw [e3] at q2
          exact fun cls dd σ3 H3 vs a3 ex r5 l5 => q2 cls dd σ3 H3 vs (ag2.trans a3) ex (Rel.drop (A := κx) (X := τx) (Rel.swap3 (A := ds.map some) (X := vs.map some) (B := κx) (Y := τx) (C := κ ++ env3) (Z := τ ++ σ3) (by simpa [List.append_assoc] using r5) (by simp [l5]) lx) lx) l5
        | stuck => rw [e3] at q2; exact q2.elim
    · left
      have e : i = items.length := by omega
      subst e
      rw [List.drop_length] at q2
      exact ⟨it.stop _ (Nat.le_refl _) H1 _ _ r2, q2 σ1 H1 ag (Rel.drop r2 lx)⟩
  | exc c ns ds env1 =>
    rw [e1] at q
    exact fun cls dd H' vs ex r2 l2 => q cls dd σ H' vs .refl ex r2 l2
  | stuck => rw [e1] at q; exact q
def whileGo (t : EvB) (body : Sv) : Nat → Sv
  | 0, _ => .stuck
  | n + 1, env => sBind (t env) fun k env1 => if k = true then (match body env1 with
      | .next env2 => whileGo t body n env2
      | .cont env2 => whileGo t body n env2
      | .brk env2 => .next env2
      | o => o) else .next env1
open Classical in
noncomputable def sWhile (t : EvB) (body : Sv) : Sv := fun env => if h : ∃ n, whileGo t body n env ≠ .stuck then whileGo t body (Classical.choose h) env else .stuck
theorem s_while {body : List Stmt} {t : EvB} {g : Sv} (hp : PassesOwn (model X.prog X.w) X.A X.env X.xe) (hc : PT X c (tT X.K cl W t)) (hb : PSs X body (tS X.K cl W io g)) : PS X (.While c body [] pos) (tS X.K cl W io (sWhile t g)) := PS.imp (ps_while hp hc hb) fun Z σ H ⟨τ, κ, env, r, l, q⟩ => by
  unfold sWhile at q
  split at q
  · rename_i h
    refine ⟨fun m σ1 H1 => Agr io σ σ1 ∧ ∃ env', Rel X.K cl H1 (κ ++ env') (τ ++ σ1) ∧ SOut X.K cl W io Z κ τ σ (whileGo t g m env'), ⟨_, .refl, env, r, q⟩, ?_⟩
    rintro m σ1 H1 ⟨ag, env', r1, q1⟩
    cases m with
    | zero => exact q1.elim
    | succ m =>
      unfold whileGo at q1
      refine tbind_at r1 l (q1.agr ag) fun k env1 H2 h2 r2 => ?_
      cases k with
      | false =>
        rw [if_neg Bool.false_ne_true] at h2 ⊢
        exact h2 σ1 H2 .refl r2
      | true =>
        rw [if_pos rfl] at h2 ⊢
        refine ⟨_, fun σ' H' z => z, τ, κ, env1, r2, l, ?_⟩
        cases e3 : g env1 with
        | next env3 =>
          rw [e3] at h2
          exact fun σ3 H3 a3 r5 => ⟨m, by omega, ag.trans a3, env3, r5, h2.agr ag.symm⟩
        | cont env3 =>
          rw [e3] at h2
          exact fun σ3 H3 a3 r5 => ⟨m, by omega, ag.trans a3, env3, r5, h2.agr ag.symm⟩
        | brk env3 => rw [e3] at h2; exact h2
        | ret d env3 => rw [e3] at h2; exact h2
        | exc c ns ds env3 => rw [e3] at h2; exact h2
        | stuck => rw [e3] at h2; exact h2.elim
  · exact q.elim
end
end Tw
noncomputable section
namespace Tw
open PySem PySem.Spec PyProof.Rows L2
/-! ### lists that are changed where they lie -/
def D.own : D → Option (List D)
  | .lst true xs => some xs
  | _ => none
theorem own_eq {d : D} {xs : List D} (h : D.own d = some xs) : d = .lst true xs := by
  cases d with
  | lst m ys => cases m <;> simp [D.own] at h; rw [h]
  | _ => simp [D.own] at h
def ownAt (env : Tw.Env) (i : Nat) : Option (List D) := (env[i]?.join).bind D.own
section
variable {X : Cx} {cl : Nat → Addr} {W : WX} {a b c e : Expr} {es : List Expr} {pos p : Pos} {x : Str} {fa fb fc : Ev} {io : List Nat}
theorem ownAt_eq {env : Tw.Env} {i : Nat} {xs : List D} (h : ownAt env i = some xs) : env[i]? = some (some (.lst true xs)) := by
  unfold ownAt at h
  obtain ⟨d, e, h⟩ := Option.bind_eq_some_iff.mp h
  rw [own_eq h] at e
  cases e2 : env[i]? with
  | none => rw [e2] at e; cases e
  | some o => rw [e2] at e; cases o with
    | none => cases e
    | some d' => cases e; rfl
/-- the list at a slot to the front, and back -/
theorem slot_out {K : PySem.W.Frag} {H : Hp} {A κ env : Tw.Env} {Y τ σ : S} {i : Nat} {d : D} (r : Rel K cl H (A ++ (κ ++ env)) (Y ++ (τ ++ σ))) (ly : Y.length = A.length) (l : τ.length = κ.length) (e : env[i]? = some (some d)) :
    ∃ v, σ[i]? = some (some v) ∧ Rel K cl H (some d :: (A ++ (κ ++ env.set i none))) (some v :: (Y ++ (τ ++ σ))) := by
  have e2 : (A ++ (κ ++ env))[A.length + (κ.length + i)]? = some (some d) := by
    rw [List.getElem?_append_right (by omega), Nat.add_sub_cancel_left, List.getElem?_append_right (by omega), Nat.add_sub_cancel_left]
    exact e
  obtain ⟨v, e3, r2⟩ := r.take e2
  rw [List.getElem?_append_right (by omega), ly, Nat.add_sub_cancel_left, List.getElem?_append_right (by omega), l, Nat.add_sub_cancel_left] at e3
  rw [List.set_append_right _ _ (by omega), Nat.add_sub_cancel_left, List.set_append_right _ _ (by omega), Nat.add_sub_cancel_left] at r2
  exact ⟨v, e3, r2⟩
theorem slot_in {K : PySem.W.Frag} {H : Hp} {A κ env : Tw.Env} {Y τ σ : S} {i : Nat} {d : D} {v : V} (r : Rel K cl H (some d :: (A ++ (κ ++ env))) (some v :: (Y ++ (τ ++ σ)))) (ly : Y.length = A.length) (l : τ.length = κ.length) (e : σ[i]? = some (some v)) : Rel K cl H (A ++ (κ ++ env.set i (some d))) (Y ++ (τ ++ σ)) := by
  have e2 : (Y ++ (τ ++ σ))[A.length + (κ.length + i)]? = some (some v) := by
    rw [← ly, ← l, List.getElem?_append_right (by omega), Nat.add_sub_cancel_left, List.getElem?_append_right (by omega), Nat.add_sub_cancel_left]
    exact e
  have r2 := r.back e2
  rwa [List.set_append_right _ _ (by omega), Nat.add_sub_cancel_left, List.set_append_right _ _ (by omega), Nat.add_sub_cancel_left] at r2
/-- o.m(e) of the list at slot i: gm tells from the list and the argument the answer and the new list -/
def fMt1 (i : Nat) (gm : List D → D → Option (D × List D)) (f : Ev) : Ev := fun env => match ownAt env i with
  | none => .stuck
  | some _ => (f env).bind fun y env1 => match (ownAt env1 i).bind fun ds => gm ds y with
    | some q => .ok q.1 (env1.set i (some (.lst true q.2)))
    | none => .stuck
def fMt0 (i : Nat) (gm : List D → Option (D × List D)) : Ev := fun env => match (ownAt env i).bind gm with
  | some q => .ok q.1 (env.set i (some (.lst true q.2)))
  | none => .stuck
/-- what the rule of such a method asks, told of the front -/
def Mt1S (K : PySem.W.Frag) (cl : Nat → Addr) (r : V → List V → Hp → VK → Prop) (gm : List D → D → Option (D × List D)) : Prop :=
  ∀ (ds : List D) (y : D) (q : D × List D) (p : Addr) (v : V) (H : Hp) (κ : Tw.Env) (τ : S) (Q : VK), gm ds y = some q → Rel K cl H (some y :: some (.lst true ds) :: κ) (some v :: some (.ref p) :: τ) →
    (∀ u H', Rel K cl H' (some q.1 :: some (.lst true q.2) :: κ) (some u :: some (.ref p) :: τ) → Q u H') → r (.ref p) [v] H Q
def Mt0S (K : PySem.W.Frag) (cl : Nat → Addr) (r : V → List V → Hp → VK → Prop) (gm : List D → Option (D × List D)) : Prop :=
  ∀ (ds : List D) (q : D × List D) (p : Addr) (H : Hp) (κ : Tw.Env) (τ : S) (Q : VK), gm ds = some q → Rel K cl H (some (.lst true ds) :: κ) (some (.ref p) :: τ) →
    (∀ u H', Rel K cl H' (some q.1 :: some (.lst true q.2) :: κ) (some u :: some (.ref p) :: τ) → Q u H') → r (.ref p) [] H Q
theorem own_head {K : PySem.W.Frag} {H : Hp} {ds : List D} {v : V} {κ : Tw.Env} {τ : S} (r : Rel K cl H (some (.lst true ds) :: κ) (some v :: τ)) : ∃ p vs, v = .ref p ∧ H p = some (.lst vs) ∧ vs.length = ds.length := by
  obtain ⟨M, f, a, vs, g, e, t, hd, _⟩ := r.head
  exact ⟨a, vs, e, t, dats_length hd⟩
theorem rd_mt1 {K : PySem.W.Frag} {i : Nat} {r : V → List V → Hp → VK → Prop} {gm : List D → D → Option (D × List D)} (hs : Mt1S K cl r gm) {σ : S} {H : Hp} {Q : VK} (h : tE K cl W (fMt1 i gm fa) σ H Q) : tBM K "list" r (tVar i) (tOs K cl W [.val fa]) σ H Q := by
  obtain ⟨τ, κ, env, rl, l, q⟩ := h
  unfold fMt1 at q
  cases e : ownAt env i with
  | none => rw [e] at q; exact q.elim
  | some ds0 =>
    rw [e] at q
    simp only at q
    obtain ⟨v, e1, r1⟩ := slot_out (A := []) (Y := []) rl rfl l (ownAt_eq e)
    obtain ⟨p, vs, rfl, t, _⟩ := own_head r1
    refine ⟨.ref p, e1, .inl ⟨rfl, vs, .of t⟩, ?_⟩
    refine tE_bind rl l q fun y env1 v H1 h1 r2 => ?_
    show r _ _ _ _
    cases e2 : (ownAt env1 i).bind fun ds => gm ds y with
    | none => rw [e2] at h1; exact h1.elim
    | some z =>
      rw [e2] at h1
      obtain ⟨ds, e3, e4⟩ := Option.bind_eq_some_iff.mp e2
      obtain ⟨v', e5, r3⟩ := slot_out (A := [some y]) (Y := [some v]) r2 rfl l (ownAt_eq e3)
      rw [e1] at e5
      cases e5
      refine hs ds y z p v H1 _ _ Q e4 (Rel.swap3 (A := [some (.lst true ds)]) (X := [some (.ref p)]) (B := [some y]) (Y := [some v]) r3 rfl rfl) fun u H2 r4 => ?_
      have r5 := slot_in (A := [some z.1]) (Y := [some u]) (Rel.swap3 (A := [some z.1]) (X := [some u]) (B := [some (.lst true z.2)]) (Y := [some (.ref p)]) r4 rfl rfl) rfl l e1
      rw [List.set_set] at r5
      exact h1 u H2 r5
theorem rd_mt0 {K : PySem.W.Frag} {i : Nat} {r : V → List V → Hp → VK → Prop} {gm : List D → Option (D × List D)} (hs : Mt0S K cl r gm) {σ : S} {H : Hp} {Q : VK} (h : tE K cl W (fMt0 i gm) σ H Q) : tBM0 K "list" r (tVar i) σ H Q := by
  obtain ⟨τ, κ, env, rl, l, q⟩ := h
  unfold fMt0 at q
  cases e2 : (ownAt env i).bind gm with
  | none => rw [e2] at q; exact q.elim
  | some z =>
    rw [e2] at q
    obtain ⟨ds, e3, e4⟩ := Option.bind_eq_some_iff.mp e2
    obtain ⟨v, e1, r1⟩ := slot_out (A := []) (Y := []) rl rfl l (ownAt_eq e3)
    obtain ⟨p, vs, rfl, t, _⟩ := own_head r1
    refine ⟨.ref p, e1, .inl ⟨rfl, vs, .of t⟩, ?_⟩
    refine hs ds z p H _ _ Q e4 r1 fun u H2 r4 => ?_
    have r5 := slot_in (A := [some z.1]) (Y := [some u]) (Rel.swap3 (A := [some z.1]) (X := [some u]) (B := [some (.lst true z.2)]) (Y := [some (.ref p)]) r4 rfl rfl) rfl l e1
    rw [List.set_set] at r5
    exact q u H2 r5
def gAppend (ds : List D) (y : D) : Option (D × List D) := if lenOk (ds.length + 1) then some (.non, ds ++ [y]) else none
theorem s_append {K : PySem.W.Frag} : Mt1S K cl rAppend gAppend := by
  intro ds y q p v H κ τ Q h r k
  unfold gAppend at h
  split at h
  · rename_i c
    cases h
    obtain ⟨us, t, lu, r2⟩ := r.append
    have c := of_decide_eq_true c
    exact ⟨p, us, v, rfl, rfl, t, by omega, k _ _ (r2.push fun M => ⟨rfl, rfl⟩)⟩
  · cases h
/-- parts of the front list put elsewhere: what is left of it -/
theorem Rel.relist {K : PySem.W.Frag} {H : Hp} {ds es : List D} {us ws : List V} {p : Addr} {κ : Tw.Env} {τ : S} (r : Rel K cl H (some (.lst true ds) :: κ) (some (.ref p) :: τ)) (t : H p = some (.lst us)) (o : D.oks ds = true)
    (hd : ∀ M, Dats K cl M H ds us [] → Dats K cl M H es ws []) : Rel K cl (upd H p (.lst ws)) (some (.lst true es) :: κ) (some (.ref p) :: τ) := by
  obtain ⟨F, n, h⟩ := r
  obtain ⟨v1, xs1, f1, g1, e1, e2, h1, h4⟩ := h
  cases e1
  obtain ⟨a, us', g, e5, t', hd', w⟩ := h1
  cases e5
  rw [t] at t'
  cases t'
  have eg := dats_ok hd' o
  subst eg
  rcases w with ⟨_, hM, e6⟩ | ⟨z, _⟩
  · subst e6; subst e2
    have np : p ∉ g1 := (List.nodup_cons.mp n).1
    have tr : ∀ {f : List Addr}, p ∉ f → ∀ a o, H a = some o → (a ∈ [p] ++ g1 → a ∈ f) → upd H p (.lst ws) a = some o := fun {f} np a o e hf => by
      rw [upd_ne fun z => np (by rw [← z]; exact hf (by rw [z]; exact hM))]
      exact e
    refine ⟨[p] ++ g1, n, .ref p, _, [p], g1, rfl, rfl, ⟨p, ws, [], rfl, upd_same, ?_, .inl ⟨rfl, hM, rfl⟩⟩, ?_⟩
    · exact dats_tr (hd _ hd') (fun a z => .inl z) (fun a z => nomatch z) (tr (by simp))
    · exact slots_tr h4 (fun a z => .inl z) (fun a z => List.mem_append_right _ z) (tr np)
  · cases z
theorem dats_dropLast {K M H} : ∀ {ds : List D} {vs : List V}, Dats K cl M H ds vs [] → Dats K cl M H ds.dropLast vs.dropLast [] := fun {ds vs} h => by
  rw [List.dropLast_eq_take, List.dropLast_eq_take, dats_length h]
  exact dats_take _ h
theorem dats_eraseIdx {K M H} {ds : List D} {vs : List V} (n : Nat) (h : Dats K cl M H ds vs []) : Dats K cl M H (ds.eraseIdx n) (vs.eraseIdx n) [] := by
  rw [List.eraseIdx_eq_take_drop_succ, List.eraseIdx_eq_take_drop_succ]
  exact dats_nil_append (dats_take _ h) (dats_drop _ h)
theorem dats_set {K M H} {d : D} {v : V} (hd : Dat K cl M H d v []) : ∀ {ds : List D} {vs : List V} (n : Nat), Dats K cl M H ds vs [] → Dats K cl M H (ds.set n d) (vs.set n v) []
  | [], _, n, h => by rw [h.1]; exact ⟨rfl, rfl⟩
  | e :: ds, _, n, h => by
    obtain ⟨u, us, f1, f2, rfl, e2, h1, h2⟩ := h
    obtain ⟨rfl, rfl⟩ := List.append_eq_nil_iff.mp e2.symm
    cases n with
    | zero => exact ⟨v, us, [], [], rfl, rfl, hd, h2⟩
    | succ n => exact ⟨u, us.set n v, [], [], rfl, rfl, h1, dats_set hd n h2⟩
/-- take a frozen thing out of the front list, and change it -/
theorem Rel.pluck {K : PySem.W.Frag} {H : Hp} {ds es : List D} {us ws : List V} {p : Addr} {κ : Tw.Env} {τ : S} {j : Nat} {d : D} {v : V} (r : Rel K cl H (some (.lst true ds) :: κ) (some (.ref p) :: τ)) (t : H p = some (.lst us)) (o : D.oks ds = true) (ed : ds[j]? = some d) (ev : us[j]? = some v)
    (hd : ∀ M, Dats K cl M H ds us [] → Dats K cl M H es ws []) : Rel K cl (upd H p (.lst ws)) (some d :: some (.lst true es) :: κ) (some v :: some (.ref p) :: τ) := by
  have r2 : Rel K cl H (some d :: (List.map some [D.lst true ds] ++ κ)) (some v :: (List.map some [.ref p] ++ τ)) := by
    obtain ⟨f, g, n, hh, hr⟩ := Rel.split (as := [.lst true ds]) (vs := [.ref p]) r rfl
    obtain ⟨a', us', g1, e1, t1, d1, _⟩ := dats1 hh
    cases e1
    rw [t] at t1
    cases t1
    obtain ⟨w, e2, hw⟩ := dats_get (oks_nil d1 o) ed
    rw [ev] at e2
    cases e2
    exact derive n hh hr hw
  have r3 : Rel K cl H (some (.lst true ds) :: (some d :: κ)) (some (.ref p) :: (some v :: τ)) := Rel.swap3 (A := [some d]) (X := [some v]) (B := [some (.lst true ds)]) (Y := [some (.ref p)]) r2 rfl rfl
  exact Rel.swap3 (A := [some (.lst true es)]) (X := [some (.ref p)]) (B := [some d]) (Y := [some v]) (r3.relist t o hd) rfl rfl
def gPop (ds : List D) : Option (D × List D) := if D.oks ds then (ds[ds.length - 1]?).map fun d => (d, ds.dropLast) else none
theorem own_dats {K : PySem.W.Frag} {H : Hp} {ds : List D} {p : Addr} {κ : Tw.Env} {τ : S} (r : Rel K cl H (some (.lst true ds) :: κ) (some (.ref p) :: τ)) (o : D.oks ds = true) : ∃ us M, H p = some (.lst us) ∧ Dats K cl M H ds us [] := by
  obtain ⟨M, f, a, vs, g, e, t, hd, _⟩ := r.head
  cases e
  exact ⟨vs, M, t, oks_nil hd o⟩
theorem s_pop {K : PySem.W.Frag} : Mt0S K cl rPop gPop := by
  intro ds q p H κ τ Q h r k
  unfold gPop at h
  split at h
  · rename_i o
    obtain ⟨d, e, rfl⟩ := Option.map_eq_some_iff.mp h
    obtain ⟨us, M, t, hd⟩ := own_dats r o
    obtain ⟨v, e2, _⟩ := dats_get hd e
    rw [← dats_length hd] at e2
    have e3 : us[ds.length - 1]? = some v := by rw [← dats_length hd]; exact e2
    exact ⟨p, us, v, rfl, rfl, t, e2, k _ _ (r.pluck t o e e3 fun M h => dats_dropLast h)⟩
  · cases h
def gPopAt (ds : List D) (y : D) : Option (D × List D) := (D.asI y).bind fun i => if D.oks ds && decide (-(2 ^ 63) ≤ i ∧ i < 2 ^ 63) then (seqIndex? i ds.length).bind fun k => (ds[k]?).map fun d => (d, ds.eraseIdx k) else none
theorem s_popAt {K : PySem.W.Frag} : Mt1S K cl rPopAt gPopAt := by
  intro ds y q p v H κ τ Q h r k
  unfold gPopAt at h
  obtain ⟨i, e, h⟩ := Option.bind_eq_some_iff.mp h
  split at h
  · rename_i o
    simp only [Bool.and_eq_true, decide_eq_true_eq] at o
    obtain ⟨o, b1, b2⟩ := o
    obtain ⟨j, ej, h⟩ := Option.bind_eq_some_iff.mp h
    obtain ⟨d, ed, rfl⟩ := Option.map_eq_some_iff.mp h
    obtain ⟨M, f, hv⟩ := r.head
    have ev := dat_asI hv e
    subst ev
    have r := r.pop
    obtain ⟨us, M, t, hd⟩ := own_dats r o
    obtain ⟨v, e2, _⟩ := dats_get hd ed
    refine ⟨p, us, i, j, v, rfl, rfl, t, b1, b2, by rw [dats_length hd]; exact ej, e2, k _ _ (r.pluck t o ed e2 fun M h => dats_eraseIdx _ h)⟩
  · cases h
/-- xs.extend(ys) -/
def D.lstOf : D → Option (List D)
  | .lst _ xs => some xs
  | _ => none
def gExtend (ds : List D) (y : D) : Option (D × List D) := (D.lstOf y).bind fun ys => if D.oks ds && D.oks ys && lenOk (ds.length + ys.length) then some (.non, ds ++ ys) else none
theorem dat_lstOf {K M H} {d : D} {xs : List D} {v : V} {f : List Addr} (h : Dat K cl M H d v f) (e : D.lstOf d = some xs) (o : D.oks xs = true) : ∃ a vs, v = .ref a ∧ H a = some (.lst vs) ∧ Dats K cl M H xs vs [] := by
  cases d with
  | lst m ds =>
    cases e
    obtain ⟨a, vs, g, e1, t, hd, _⟩ := h
    exact ⟨a, vs, e1, t, oks_nil hd o⟩
  | _ => cases e
theorem s_extend {K : PySem.W.Frag} : Mt1S K cl rExtend gExtend := by
  intro ds y q p v H κ τ Q h r k
  unfold gExtend at h
  obtain ⟨ys, ey, h⟩ := Option.bind_eq_some_iff.mp h
  split at h
  · rename_i o
    cases h
    simp only [Bool.and_eq_true] at o
    obtain ⟨⟨o1, o2⟩, o3⟩ := o
    have o3 := of_decide_eq_true o3
    obtain ⟨F, n, h⟩ := r
    obtain ⟨v1, xs1, f1, g1, e1, e2, h1, h2⟩ := h
    cases e1
    obtain ⟨v2, xs2, f2, g2, e3, e4, h3, h4⟩ := h2
    cases e3
    obtain ⟨a, us, g, e5, t, hd, w⟩ := h3
    cases e5
    have eg := dats_ok hd o1
    subst eg
    obtain ⟨b, zs, e7, tb, hz⟩ := dat_lstOf h1 ey o2
    subst e7
    rcases w with ⟨_, hM, e6⟩ | ⟨z, _⟩
    · subst e6; subst e4; subst e2
      have n1 := List.nodup_append.mp n
      have np : p ∉ g2 := (List.nodup_cons.mp n1.2.1).1
      have tr : ∀ {f : List Addr}, p ∉ f → ∀ a o, H a = some o → (a ∈ f1 ++ ([p] ++ g2) → a ∈ f) → upd H p (.lst (us ++ zs)) a = some o := fun {f} np a o e hf => by
        rw [upd_ne fun z => np (by rw [← z]; exact hf (by rw [z]; exact hM))]
        exact e
      have r2 : Rel K cl (upd H p (.lst (us ++ zs))) (some (.lst true (ds ++ ys)) :: κ) (some (.ref p) :: τ) := by
        refine Rel.of_sub (f := f1 ++ ([p] ++ g2)) (g := [p] ++ g2) ?_ n1.2.1 fun a z => List.mem_append_right _ z
        refine ⟨.ref p, _, [p], g2, rfl, rfl, ⟨p, us ++ zs, [], rfl, upd_same, ?_, .inl ⟨rfl, hM, rfl⟩⟩, ?_⟩
        · exact dats_tr (dats_nil_append hd hz) (fun a z => .inl z) (fun a z => nomatch z) (tr (by simp))
        · exact slots_tr h4 (fun a z => .inl z) (fun a z => by simp [z]) (tr np)
      refine ⟨p, b, us, zs, rfl, rfl, t, tb, by rw [dats_length hd, dats_length hz]; exact o3, k _ _ (r2.push fun M => ⟨rfl, rfl⟩)⟩
    · cases z
  · cases h
end
end Tw
noncomputable section
namespace Tw
open PySem PySem.Spec PyProof.Rows L2
section
variable {X : Cx} {cl : Nat → Addr} {W : WX} {a b c e : Expr} {es : List Expr} {pos p : Pos} {x : Str} {fa fb fc : Ev} {io : List Nat} {o : Expr} {i : Nat} {apos : Pos}
theorem j_append (ho : PE X o (tVar i)) (ha : PA X [e] (tOs X.K cl W [.val fa])) (hbase : attributeBase o "append" X.env (eval o X.env) = eval o X.env := by rfl)
    (hfew : ((backTo pos (starEach [e] X.env)).all (fun x => !x.1) && (backToKw pos (keywordEach [] X.env)).all (fun x => x.1.isSome) && decide ([e].length + ([] : List Keyword).length + (if ([] : List Keyword).isEmpty then 0 else 1) < 30)) = true := by rfl)
    (hline : (apos.endLine == pos.line) = true := by rfl) (hs : starEach [e] X.env = (false, eval e X.env) :: starEach [] X.env := by rfl) (hplain : (backTo pos (starEach [] X.env)).any (·.1) = false := by rfl) :
    PE X (.Call (.Attribute o "append" apos) [e] [] pos) (tE X.K cl W (fMt1 i gAppend fa)) :=
  PE.imp (pe_bm PySem.F.plainAttrs_list PySem.F.slot_list_append PySem.F.type_list_append mt_append ho ha hbase hfew hline hs hplain) fun σ H Q h => rd_mt1 s_append h
theorem j_extend (ho : PE X o (tVar i)) (ha : PA X [e] (tOs X.K cl W [.val fa])) (hbase : attributeBase o "extend" X.env (eval o X.env) = eval o X.env := by rfl)
    (hfew : ((backTo pos (starEach [e] X.env)).all (fun x => !x.1) && (backToKw pos (keywordEach [] X.env)).all (fun x => x.1.isSome) && decide ([e].length + ([] : List Keyword).length + (if ([] : List Keyword).isEmpty then 0 else 1) < 30)) = true := by rfl)
    (hline : (apos.endLine == pos.line) = true := by rfl) (hs : starEach [e] X.env = (false, eval e X.env) :: starEach [] X.env := by rfl) (hplain : (backTo pos (starEach [] X.env)).any (·.1) = false := by rfl) :
    PE X (.Call (.Attribute o "extend" apos) [e] [] pos) (tE X.K cl W (fMt1 i gExtend fa)) :=
  PE.imp (pe_bm PySem.F.plainAttrs_list PySem.F.slot_list_extend PySem.F.type_list_extend mt_extend ho ha hbase hfew hline hs hplain) fun σ H Q h => rd_mt1 s_extend h
theorem j_popAt (ho : PE X o (tVar i)) (ha : PA X [e] (tOs X.K cl W [.val fa])) (hbase : attributeBase o "pop" X.env (eval o X.env) = eval o X.env := by rfl)
    (hfew : ((backTo pos (starEach [e] X.env)).all (fun x => !x.1) && (backToKw pos (keywordEach [] X.env)).all (fun x => x.1.isSome) && decide ([e].length + ([] : List Keyword).length + (if ([] : List Keyword).isEmpty then 0 else 1) < 30)) = true := by rfl)
    (hline : (apos.endLine == pos.line) = true := by rfl) (hs : starEach [e] X.env = (false, eval e X.env) :: starEach [] X.env := by rfl) (hplain : (backTo pos (starEach [] X.env)).any (·.1) = false := by rfl) :
    PE X (.Call (.Attribute o "pop" apos) [e] [] pos) (tE X.K cl W (fMt1 i gPopAt fa)) :=
  PE.imp (pe_bm PySem.F.plainAttrs_list PySem.F.slot_list_pop PySem.F.type_list_pop mt_popAt ho ha hbase hfew hline hs hplain) fun σ H Q h => rd_mt1 s_popAt h
theorem j_pop (ho : PE X o (tVar i)) (hbase : attributeBase o "pop" X.env (eval o X.env) = eval o X.env := by rfl) (hline : (apos.endLine == pos.line) = true := by rfl) :
    PE X (.Call (.Attribute o "pop" apos) [] [] pos) (tE X.K cl W (fMt0 i gPop)) :=
  PE.imp (pe_bm0 PySem.F.plainAttrs_list PySem.F.slot_list_pop PySem.F.type_list_pop mt_pop ho hbase hline) fun σ H Q h => rd_mt0 s_pop h
/-! ### xs[i] = v -/
def sStore (i : Nat) (fi f : Ev) : Sv := fun env => sBind (f env) fun d env1 => match ownAt env1 i with
  | none => .stuck
  | some _ => sBind (fi env1) fun k env2 => match (D.asI k).bind fun z => (ownAt env2 i).bind fun ds => if D.oks ds && D.ok d then (ixN ds.length z).map fun j => ds.set j d else none with
    | some es => .next (env2.set i (some (.lst true es)))
    | none => .stuck
theorem s_store {tpos : Pos} (hpg : PG X (.Subscript o c tpos) (L2.gSub (tVar i) (tE X.K cl W fc) rSetL)) (he : PE X e (tE X.K cl W fa)) (hs : swapsWithSole [.Subscript o c tpos] e pos.line X.env = pure false := by rfl) (hw : swappedStores [.Subscript o c tpos] e X.env = pure none := by rfl)
    (h1 : (assignEach [.Subscript o c tpos] X.env).map (·.2) = [assign (.Subscript o c tpos) X.env] := by rfl) :
    PS X (.Assign [.Subscript o c tpos] e pos) (tS X.K cl W io (sStore i fc fa)) := PS.imp (ps_asg he hpg hs hw h1) fun Z σ H ⟨τ, κ, env, r, l, q⟩ => by
  refine sbind_at (A := []) (Y := []) rfl r l q fun d env1 v H1 h1 r1 => ?_
  cases e : ownAt env1 i with
  | none => rw [e] at h1; exact h1.elim
  | some ds0 =>
    rw [e] at h1
    simp only at h1
    obtain ⟨u, e1, r1'⟩ := slot_out (A := [some d]) (Y := [some v]) r1 rfl l (ownAt_eq e)
    obtain ⟨p, vs0, eu, t0, _⟩ := own_head r1'
    subst eu
    refine ⟨.ref p, e1, ?_⟩
    refine sbind_at (A := [some d]) (Y := [some v]) rfl r1 l h1 fun k env2 w H2 h2 r2 => ?_
    cases e2 : (D.asI k).bind fun z => (ownAt env2 i).bind fun ds => if D.oks ds && D.ok d then (ixN ds.length z).map fun j => ds.set j d else none with
    | none => rw [e2] at h2; exact h2.elim
    | some es =>
      rw [e2] at h2
      obtain ⟨z, ez, e2⟩ := Option.bind_eq_some_iff.mp e2
      obtain ⟨ds, ed, e2⟩ := Option.bind_eq_some_iff.mp e2
      split at e2
      · rename_i ok
        simp only [Bool.and_eq_true] at ok
        obtain ⟨j, ej, rfl⟩ := Option.map_eq_some_iff.mp e2
        obtain ⟨M, f, hk⟩ := r2.head
        have ew := dat_asI hk ez
        subst ew
        have r3 := r2.pop
        obtain ⟨u', e1', r4⟩ := slot_out (A := [some d]) (Y := [some v]) r3 rfl l (ownAt_eq ed)
        rw [e1] at e1'
        cases e1'
        have r5 : Rel X.K cl H2 (List.map some [d, .lst true ds] ++ (κ ++ env2.set i none)) (List.map some [v, .ref p] ++ (τ ++ σ)) := Rel.swap3 (A := [some (.lst true ds)]) (X := [some (.ref p)]) (B := [some d]) (Y := [some v]) r4 rfl rfl
        obtain ⟨f, g, n, hh, hr⟩ := r5.split rfl
        obtain ⟨f1, f2, ef, hd, hl⟩ := dats2 hh
        obtain ⟨a', us, g', e6, t, hds, w⟩ := hl
        cases e6
        have z1 := dat_ok hd ok.2
        subst z1
        have z2 := dats_ok hds ok.1
        subst z2
        rcases w with ⟨_, hM, e7⟩ | ⟨z, _⟩
        · subst e7
          have e8 : f = [p] := ef
          subst e8
          refine ⟨p, us, z, j, rfl, rfl, t, by rw [dats_length hds]; exact ej, ?_⟩
          have np : p ∉ g := (List.nodup_cons.mp n).1
          have tr : ∀ {f : List Addr}, p ∉ f → ∀ a o, H2 a = some o → (a ∈ [p] ++ g → a ∈ f) → upd H2 p (.lst (us.set j v)) a = some o := fun {f} np a o e hf => by
            rw [upd_ne fun z => np (by rw [← z]; exact hf (by rw [z]; exact hM))]
            exact e
          have r6 : Rel X.K cl (upd H2 p (.lst (us.set j v))) (some (.lst true (ds.set j d)) :: (κ ++ env2.set i none)) (some (.ref p) :: (τ ++ σ)) := by
            refine ⟨[p] ++ g, n, .ref p, _, [p], g, rfl, rfl, ⟨p, us.set j v, [], rfl, upd_same, ?_, .inl ⟨rfl, hM, rfl⟩⟩, ?_⟩
            · exact dats_tr (dats_set hd j hds) (fun a z => .inl z) (fun a z => nomatch z) (tr (by simp))
            · exact slots_tr hr (fun a z => .inl z) (fun a z => List.mem_append_right _ z) (tr np)
          have r7 := slot_in (A := []) (Y := []) r6 rfl l e1
          rw [List.set_set] at r7
          exact h2 σ _ .refl r7
        · cases z
      · cases e2
/-- x op= e -/
def sAug (i : Nat) (g : List D → Option D) (f : Ev) : Sv := fun env => sBind (fVar i env) fun u env1 => sBind (f env1) fun y env2 => match g [u, y] with
  | some z => if i < env2.length then .next (env2.set i (some z)) else .stuck
  | none => .stuck
theorem s_aug {op : Operator} {r : R2} {g : List D → Option D} {px : Pos} (hN : X.N.Nodup) (ho : OpR X (inplaceOp op) r) (hs : OpS X.K cl (rw2 r) g) (he : PE X e (tE X.K cl W fa)) (hio : ∀ j ∈ io, j ∉ [i] := by decide) (hi : X.N[i]? = some x := by rfl) (hx : Loc X.env.scope x := by first | exact .inl rfl | exact .inr rfl)
    (hf : X.fn x = true ∨ X.env.scope.names.lookup x = some .local := by first | exact .inl rfl | exact .inr rfl) : PS X (.AugAssign (.Name x px) op e pos) (tS X.K cl W io (sAug i g fa)) :=
  PS.imp (ps_aug hN hi hx he ho hf) fun Z σ H ⟨τ, κ, env, rl, l, q⟩ => by
  unfold sAug at q
  have key : tE X.K cl W (fVar i) σ H fun u H1 => tE X.K cl W fa σ H1 fun y H2 => r u y H2 fun z H3 => Z.nx (σ.set i (some z)) H3 := by
    refine sbind_at (A := []) (Y := []) rfl rl l q fun d env1 v H1 h1 r1 => ?_
    refine sbind_at (A := [some d]) (Y := [some v]) rfl r1 l h1 fun y env2 w H2 h2 r2 => ?_
    have r3 : Rel X.K cl H2 (List.map some [d, y] ++ (κ ++ env2)) (List.map some [v, w] ++ (τ ++ σ)) := Rel.swap3 (A := [some y]) (X := [some w]) (B := [some d]) (Y := [some v]) r2 rfl rfl
    cases eg : g [d, y] with
    | none => rw [eg] at h2; exact h2.elim
    | some z =>
      rw [eg] at h2
      refine hs [d, y] z [v, w] H2 _ _ _ eg rfl r3 fun u H3 r4 => ?_
      have r5 : Rel X.K cl H3 (some z :: (κ ++ env2)) (some u :: (τ ++ σ)) := Rel.drop (A := [some d, some y]) (X := [some v, some w]) (Rel.swap3 (A := [some z]) (X := [some u]) (B := [some d, some y]) (Y := [some v, some w]) r4 rfl rfl) rfl
      by_cases hl : i < env2.length
      · simp only [if_pos hl] at h2
        have r6 := Rel.put (i := κ.length + i) r5 (by simp; omega)
        rw [List.set_append_right _ _ (by omega), Nat.add_sub_cancel_left, ← l, List.set_append_right _ _ (by omega), Nat.add_sub_cancel_left] at r6
        exact h2 _ H3 (Off.set.agr hio) r6
      · simp only [if_neg hl] at h2; exact h2.elim
  obtain ⟨τ', κ', env', r', l', key⟩ := key
  unfold fVar at key
  cases e1 : env'[i]? with
  | none => rw [e1] at key; exact key.elim
  | some y =>
    cases y with
    | none => rw [e1] at key; exact key.elim
    | some d =>
      rw [e1] at key
      have e2 : (κ' ++ env')[κ'.length + i]? = some (some d) := by rw [List.getElem?_append_right (by omega)]; simpa using e1
      obtain ⟨v, e3, r2⟩ := r'.read e2
      rw [List.getElem?_append_right (by omega), l', Nat.add_sub_cancel_left] at e3
      rw [List.set_append_right _ _ (by omega), Nat.add_sub_cancel_left] at r2
      exact ⟨v, e3, key v H r2⟩
end
/-! ## a def -/
def ioOf (io : List Nat) (env : Tw.Env) : Option (List D) := io.mapM fun i => env[i]?.join
def runB (n : Nat) (io : List Nat) (g : Sv) : List D → Rf := fun ds => match g (ds.map some ++ List.replicate (n - ds.length) none) with
  | .next env => match ioOf io env with
    | some ios => .ret .non ios
    | none => .stuck
  | .ret d env => match ioOf io env with
    | some ios => .ret d ios
    | none => .stuck
  | .exc c ns es env => match ioOf io env with
    | some ios => .exc c ns es ios
    | none => .stuck
  | _ => .stuck
section
variable {P : Program} {w : World} {K : PySem.W.Frag} {mg : Str → Option Value} {base : Heap} {cl : Nat → Addr}
/-- the slots that the caller gets back, in front of what is the caller's own -/
theorem Rel.outs {H : Hp} : ∀ {io : List Nat} {ios : List D} {env A κ : Tw.Env} {σ Y τ : S}, ioOf io env = some ios → io.Nodup → σ.length = env.length → Y.length = A.length → Rel K cl H (A ++ (κ ++ env)) (Y ++ (τ ++ σ)) → τ.length = κ.length →
    ∃ us : List V, io.map (fun i => σ[i]?) = us.map (fun u => some (some u)) ∧ us.length = ios.length ∧ Rel K cl H (A ++ (ios.map some ++ κ)) (Y ++ (us.map some ++ τ))
  | [], ios, env, A, κ, σ, Y, τ, e, _, ls, ly, r, l => by
    simp [ioOf] at e
    subst e
    refine ⟨[], rfl, rfl, ?_⟩
    have r2 : Rel K cl H ((A ++ κ) ++ env) ((Y ++ τ) ++ σ) := by rwa [List.append_assoc, List.append_assoc]
    exact Rel.drop (r2.swap (by simp [ly, l])) ls
  | i :: io, ios, env, A, κ, σ, Y, τ, e, nd, ls, ly, r, l => by
    simp only [ioOf, List.mapM_cons, Option.bind_eq_bind, Option.bind_eq_some_iff, Option.pure_def, Option.some.injEq] at e
    obtain ⟨d, ed, ios', e, rfl⟩ := e
    have ed2 : env[i]? = some (some d) := by
      cases q : env[i]? with
      | none => rw [q] at ed; cases ed
      | some y => rw [q] at ed; cases y with
        | none => cases ed
        | some d' => cases ed; rfl
    obtain ⟨v, ev, r2⟩ := slot_out r ly l ed2
    have nd2 := List.nodup_cons.mp nd
    have e' : ioOf io (env.set i none) = some ios' := by
      have key : ∀ l : List Nat, i ∉ l → ioOf l (env.set i none) = ioOf l env := fun l => by
        induction l with
        | nil => intro _; rfl
        | cons j l ih =>
          intro hj
          simp only [List.mem_cons, not_or] at hj
          unfold ioOf at ih ⊢
          rw [List.mapM_cons, List.mapM_cons, ih hj.2, List.getElem?_set_ne hj.1]
      rw [key io nd2.1]
      exact e
    have r3 : Rel K cl H ((A ++ [some d]) ++ (κ ++ env.set i none)) ((Y ++ [some v]) ++ (τ ++ σ)) := by
      have z := Rel.swap3 (A := [some d]) (X := [some v]) (B := A) (Y := Y) r2 rfl ly
      rwa [List.append_assoc, List.append_assoc]
    obtain ⟨us, eu, lu, r4⟩ := Rel.outs (io := io) (ios := ios') e' nd2.2 (by simp [ls]) (by simp [ly]) r3 l
    refine ⟨v :: us, by simp [ev, eu], by simp [lu], ?_⟩
    rw [List.append_assoc, List.append_assoc] at r4
    exact r4
theorem start_rel {N : List Str} {H : Hp} {ds : List D} {vs : List V} {κ : Tw.Env} {τ : S} (r : Rel K cl H (ds.map some ++ κ) (vs.map some ++ τ)) (l : vs.length = ds.length) : Rel K cl H (κ ++ (ds.map some ++ List.replicate (N.length - ds.length) none)) (τ ++ L2.start N vs) := by
  have key : ∀ (n : Nat) {A : Tw.Env} {Y : S}, Rel K cl H A Y → Rel K cl H (A ++ List.replicate n none) (Y ++ List.replicate n none) := fun n A Y h => by
    obtain ⟨f, nd, h⟩ := h
    have hn : ∀ n, Slots K cl (· ∈ f) H (List.replicate n (none : Option D)) (List.replicate n (none : Option V)) [] := fun n => by
      induction n with
      | zero => exact ⟨rfl, rfl⟩
      | succ n ih => exact ⟨none, _, rfl, ih⟩
    have z := slots_app h (hn n)
    rw [List.append_nil] at z
    exact ⟨f, nd, z⟩
  unfold L2.start
  rw [l]
  have r2 := r.swap (by simp [l])
  have r3 := key (N.length - ds.length) r2
  rwa [List.append_assoc, List.append_assoc] at r3
theorem def_okF {x qual : Str} {st : Stmt} {f : Addr} {fd : FuncData} {N ps : List Str} {k : Nat} {io : List Nat} {g : Sv} (F : Fun K x qual st f fd) (Sc : FnScope N ps (defScope st)) (hnd : io.Nodup) (hio : ∀ i ∈ io, i < ps.length) (hps : ps.length ≤ N.length)
    (hbody : ∀ (cdv : Value) (A : Around) (outer : List PySem.Env) (s : Shared) (H : Hp) (E : XK), Room k (A.deeper (envOfC qual (defScope st) s.heap.objs.size f cdv)) →
      Takes (cxOf (L2.CX P w) P w K mg base N qual (defScope st) f cdv A outer s H E) (fun cls dd _ H' => E cls dd H') → PassesOwn (model P w) (A.deeper (envOfC qual (defScope st) s.heap.objs.size f cdv)) (envOfC qual (defScope st) s.heap.objs.size f cdv) (cxOf (L2.CX P w) P w K mg base N qual (defScope st) f cdv A outer s H E).xe →
      PSs (cxOf (L2.CX P w) P w K mg base N qual (defScope st) f cdv A outer s H E) (defBody st) (tS K cl (fun cls dd _ H' => E cls dd H') io g)) :
    FnOk P w K mg base (L2.CX P w) (k + 1) f fd ps (spD K cl ps.length io (runB N.length io g)) := by
  refine F.okX Sc (fun vs H Q E h => h.1) fun cdv A outer s H vs Q E hr h => ⟨_, hbody cdv A outer s H E hr (takes_of rfl rfl rfl rfl) (passes_of rfl), ?_⟩
  obtain ⟨ln, τ, κ, ds, l, lt, r, q⟩ := h
  refine ⟨τ, κ, ds.map some ++ List.replicate (N.length - ds.length) none, start_rel r l, lt, ?_⟩
  have lst : (L2.start N vs).length = (ds.map some ++ List.replicate (N.length - ds.length) none : Tw.Env).length := by unfold L2.start; simp [l]
  have hstart : ∀ {σ' : S} {us : List V}, Agr io (L2.start N vs) σ' → io.map (fun i => σ'[i]?) = us.map (fun u => some (some u)) → io.map (fun i => vs[i]?) = us.map some := fun {σ' us} ag e => by
    have key : ∀ (l : List Nat) (us : List V), (∀ i ∈ l, i ∈ io) → l.map (fun i => σ'[i]?) = us.map (fun u => some (some u)) → l.map (fun i => vs[i]?) = us.map some := fun l => by
      induction l with
      | nil => intro us _ e; cases us with
        | nil => rfl
        | cons _ _ => simp at e
      | cons i l ih =>
        intro us hi e
        cases us with
        | nil => simp at e
        | cons u us =>
          simp only [List.map_cons, List.cons.injEq] at e ⊢
          refine ⟨?_, ih us (fun j hj => hi j (List.mem_cons_of_mem _ hj)) e.2⟩
          have e1 := (ag.2 i (hi i List.mem_cons_self)).symm.trans e.1
          have il : i < vs.length := by have := hio i (hi i List.mem_cons_self); omega
          unfold L2.start at e1
          rw [List.getElem?_append_left (by simpa using il), List.getElem?_map] at e1
          cases q : vs[i]? with
          | none => rw [q] at e1; cases e1
          | some y => rw [q] at e1; cases e1; rfl
    exact key io us (fun _ z => z) e
  unfold runB at q
  have lenOf : ∀ {H' : Hp} {κ' env' : Tw.Env} {τ' σ' : S}, Rel K cl H' (κ' ++ env') (τ' ++ σ') → τ'.length = κ'.length → σ'.length = env'.length := fun {H' κ' env' τ' σ'} z lt => by
    have y := z.len
    simp only [List.length_append] at y
    omega
  cases e : g (ds.map some ++ List.replicate (N.length - ds.length) none) with
  | next env =>
    rw [e] at q
    intro σ' H' ag r2
    cases e2 : ioOf io env with
    | none => simp only [e2] at q
    | some ios =>
      simp only [e2] at q
      obtain ⟨us, eu, lu, r3⟩ := Rel.outs (A := [some D.non]) (Y := [some V.non]) e2 hnd (lenOf r2 lt) rfl (r2.push fun M => ⟨rfl, rfl⟩) lt
      exact q .non H' us (hstart ag eu) r3
  | ret d env =>
    rw [e] at q
    intro v σ' H' ag r2
    cases e2 : ioOf io env with
    | none => simp only [e2] at q
    | some ios =>
      simp only [e2] at q
      obtain ⟨us, eu, lu, r3⟩ := Rel.outs (A := [some d]) (Y := [some v]) e2 hnd (lenOf r2.pop lt) rfl r2 lt
      exact q v H' us (hstart ag eu) r3
  | exc c ns es env =>
    rw [e] at q
    intro cls dd σ' H' ws ag ex r2 lw
    cases e2 : ioOf io env with
    | none => simp only [e2] at q
    | some ios =>
      simp only [e2] at q
      obtain ⟨us, eu, lu, r3⟩ := Rel.outs (A := es.map some) (Y := ws.map some) e2 hnd (lenOf (Rel.drop r2 (by simp [lw])) lt) (by simp [lw]) r2 lt
      exact q cls dd H' ws us ex lw.symm (hstart ag eu) r3
  | brk env => rw [e] at q; exact q.elim
  | cont env => rw [e] at q; exact q.elim
  | stuck => rw [e] at q; exact q.elim
theorem def_ok {x qual : Str} {st : Stmt} {f : Addr} {fd : FuncData} {N ps : List Str} {k : Nat} {io : List Nat} {g : Sv} (F : Fun K x qual st f fd) (Sc : FnScope N ps (defScope st)) (gm : mg x = some (.ref f)) (hb : Binds K fd ps []) (hnd : io.Nodup) (hio : ∀ i ∈ io, i < ps.length) (hps : ps.length ≤ N.length)
    (hbody : ∀ (cdv : Value) (A : Around) (outer : List PySem.Env) (s : Shared) (H : Hp) (E : XK), Room k (A.deeper (envOfC qual (defScope st) s.heap.objs.size f cdv)) →
      Takes (cxOf (L2.CX P w) P w K mg base N qual (defScope st) f cdv A outer s H E) (fun cls dd _ H' => E cls dd H') → PassesOwn (model P w) (A.deeper (envOfC qual (defScope st) s.heap.objs.size f cdv)) (envOfC qual (defScope st) s.heap.objs.size f cdv) (cxOf (L2.CX P w) P w K mg base N qual (defScope st) f cdv A outer s H E).xe →
      PSs (cxOf (L2.CX P w) P w K mg base N qual (defScope st) f cdv A outer s H E) (defBody st) (tS K cl (fun cls dd _ H' => E cls dd H') io g)) :
    FnD P w K mg base cl x (k + 1) ps.length io (runB N.length io g) := ⟨f, fd, ps, gm, F.kp, hb, def_okF F Sc hnd hio hps hbody⟩
end
end Tw
noncomputable section
namespace Tw
open PySem PySem.Spec PyProof.Rows L2
/-! ### comprehensions with two clauses -/
def comp2Go (vs vs1 : List Nat) (b : Bd) (t : EvB) (fi1 : Tw.Env → Rs (List D)) (b1 : Bd) (t1 : EvB) (f : Ev) : List D → List D → Tw.Env → Rs (List D)
  | [], acc, env => .ok acc env
  | d :: ds, acc, env => match b d env with
    | none => .stuck
    | some env1 => (t env1).ne.bind fun k env2 => if k = true then (fi1 env2).ne.bind fun items1 env3 => if lenOk (acc.length + items1.length) then
        (compGo vs1 b1 t1 f items1 acc (wipeE env3 vs1)).bind fun acc2 env4 => comp2Go vs vs1 b t fi1 b1 t1 f ds acc2 (wipeE env4 vs) else .stuck
      else comp2Go vs vs1 b t fi1 b1 t1 f ds acc (wipeE env2 vs)
def fComp2 (vs vs1 : List Nat) (fi : Tw.Env → Rs (List D)) (b : Bd) (t : EvB) (fi1 : Tw.Env → Rs (List D)) (b1 : Bd) (t1 : EvB) (f : Ev) : Ev := fun env => (fi env).bind fun items env1 => (comp2Go vs vs1 b t fi1 b1 t1 f items [] (wipeE env1 vs)).bind fun ds env2 => .ok (.lst true ds) env2
section
variable {X : Cx} {cl : Nat → Addr} {W : WX} {pos : Pos}
theorem rd_comp2 {K : PySem.W.Frag} {vs vs1 ts ts1 : List Nat} {fi fi1 : Tw.Env → Rs (List D)} {b b1 : Bd} {t t1 : EvB} {f : Ev} (hts : ∀ i ∈ ts, i ∈ vs) (hts1 : ∀ i ∈ ts1, i ∈ vs1) {σ : S} {H : Hp} {Q : VK} (h : tE K cl W (fComp2 vs vs1 fi b t fi1 b1 t1 f) σ H Q) :
    tLc2 (tI K cl W fi) (tG K cl ts b) (tT K cl (fun _ _ _ _ => False) t) (tI K cl (fun _ _ _ _ => False) fi1) (tG K cl ts1 b1) (tT K cl (fun _ _ _ _ => False) t1) (tE K cl (fun _ _ _ _ => False) f) vs vs1 σ H Q := by
  obtain ⟨τ, κ, env, r, l, q⟩ := h
  refine ⟨τ, κ, env, r, l, ?_⟩
  unfold fComp2 at q
  cases e1 : fi env with
  | exc _ _ _ _ => rw [e1] at q; exact q
  | stuck => rw [e1] at q; exact q
  | ok items env1 =>
    rw [e1, Rs.bind_ok] at q
    intro J κx τx H1 lx it r1 p hD
    let Fin : Rs (List D) → Prop := fun o => (o.bind fun ds env2 => Rs.ok (D.lst true ds) env2).P (fun d env' => ∀ v H', Rel K cl H' (some d :: (κ ++ env')) (some v :: (τ ++ σ)) → Q v H') (WP K cl W κ τ σ)
    let Inv : Nat → Nat → Hp → Prop := fun i m H => i ≤ items.length ∧ m = items.length - i ∧ ∃ (env' : Tw.Env) (acc : List D), (∀ v ∈ vs, env'.set v none = env') ∧ Rel K cl H (some (.lst true acc) :: (κx ++ (κ ++ env'))) (some (.ref p) :: (τx ++ (τ ++ wipe σ vs))) ∧
        Fin (comp2Go vs vs1 b t fi1 b1 t1 f (items.drop i) acc env')
    refine ⟨Inv, ⟨items.length, Nat.zero_le _, rfl, wipeE env1 vs, [], fun v hv => wipeE_set hv, ?_, q⟩, ?_⟩
    · have r2 : Rel K cl H1 (κx ++ (κ ++ wipeE env1 vs)) (τx ++ (τ ++ wipe σ vs)) := by
        have z := rel_wipe (κ := κx ++ κ) (τ := τx ++ τ) (env := env1) (σ := σ) (by rw [List.append_assoc, List.append_assoc]; exact r1) (by simp [lx, l]) vs
        rwa [List.append_assoc, List.append_assoc] at z
      exact Rel.packL (as := []) (vs := []) r2 rfl hD
    · rintro i m H ⟨hi, rfl, env', acc, hv, r2, q2⟩
      by_cases hlt : i < items.length
      · right
        have hd : items[i]? = some items[i] := List.getElem?_eq_getElem hlt
        have r3 : Rel K cl H (κx ++ (some (.lst true acc) :: (κ ++ env'))) (τx ++ (some (.ref p) :: (τ ++ wipe σ vs))) := Rel.swap3 (A := [some (.lst true acc)]) (X := [some (.ref p)]) r2 rfl lx
        obtain ⟨go, yl⟩ := it.go i items[i] hd H _ _ r3
        have r4' : ∀ x H', J.yld i H x H' → Rel K cl H' (some items[i] :: (some (.lst true acc) :: (κx ++ (κ ++ env')))) (some x :: (some (.ref p) :: (τx ++ (τ ++ wipe σ vs)))) := fun x H' y => by
          have z := yl x H' y
          have z2 := Rel.swap3 (A := some items[i] :: κx) (X := some x :: τx) (B := [some (.lst true acc)]) (Y := [some (.ref p)]) (C := κ ++ env') (Z := τ ++ wipe σ vs) z (by simp [lx]) rfl
          exact Rel.swap3 (A := [some (.lst true acc)]) (X := [some (.ref p)]) (B := [some items[i]]) (Y := [some x]) z2 rfl rfl
        rw [List.drop_eq_getElem_cons hlt] at q2
        unfold comp2Go at q2
        refine ⟨go, fun H' => ∃ m', m' < items.length - i ∧ Inv (i + 1) m' H', fun H' z => z, fun x H' y => ?_⟩
        have r4 := r4' x H' y
        cases e2 : b items[i] env' with
        | none => rw [e2] at q2; exact q2.elim
        | some env2 =>
          rw [e2] at q2
          simp only at q2
          refine ⟨some (.ref p) :: (τx ++ τ), some (.lst true acc) :: (κx ++ κ), env', items[i], by simpa [List.append_assoc] using r4, by simp [lx, l], env2, e2, fun σ2 H2 o2 r5 => ?_⟩
          have ew : wipe σ2 vs = wipe σ vs := by
            have z : wipe σ2 vs = wipe (wipe σ vs) vs := wipe_off o2.1 fun j hj => o2.2 j fun z => hj (hts j z)
            rw [z]
            exact wipe_off (wipe_length _ _) fun j hj => wipe_out hj
          refine ⟨ew, ?_⟩
          have back : ∀ {env3 : Tw.Env} {H3 : Hp} {a : List D}, Rel K cl H3 (some (.lst true a) :: (κx ++ (κ ++ env3))) (some (.ref p) :: (τx ++ (τ ++ σ2))) → Rel K cl H3 (some (.lst true a) :: (κx ++ (κ ++ wipeE env3 vs))) (some (.ref p) :: (τx ++ (τ ++ wipe σ vs))) := fun {env3 H3 a} z => by
            have z2 := rel_wipe (κ := some (.lst true a) :: (κx ++ κ)) (τ := some (.ref p) :: (τx ++ τ)) (env := env3) (σ := σ2) (by simpa [List.append_assoc] using z) (by simp [lx, l]) vs
            rw [ew] at z2
            simpa [List.append_assoc] using z2
          refine ⟨some (.ref p) :: (τx ++ τ), some (.lst true acc) :: (κx ++ κ), env2, r5, by simp [lx, l], ?_⟩
          cases e3 : t env2 with
          | exc _ _ _ _ => rw [e3] at q2; exact q2.elim
          | stuck => rw [e3] at q2; exact q2.elim
          | ok k env3 =>
            rw [e3] at q2
            simp only [Rs.ne, Rs.bind_ok] at q2
            intro H3 r6
            have r6' : Rel K cl H3 (some (.lst true acc) :: (κx ++ (κ ++ env3))) (some (.ref p) :: (τx ++ (τ ++ σ2))) := by simpa [List.append_assoc] using r6
            cases k with
            | false =>
              rw [if_neg Bool.false_ne_true] at q2 ⊢
              exact ⟨items.length - (i + 1), by omega, hlt, rfl, wipeE env3 vs, acc, fun v hv => wipeE_set hv, back r6', q2⟩
            | true =>
              rw [if_pos rfl] at q2 ⊢
              refine ⟨some (.ref p) :: (τx ++ τ), some (.lst true acc) :: (κx ++ κ), env3, r6, by simp [lx, l], ?_⟩
              cases e4 : fi1 env3 with
              | exc _ _ _ _ => rw [e4] at q2; exact q2.elim
              | stuck => rw [e4] at q2; exact q2.elim
              | ok items1 env4 =>
                rw [e4] at q2
                simp only [Rs.ne, Rs.bind_ok] at q2
                intro J1 κ1 τ1 H4 l1 it1 r7
                by_cases hln : lenOk (acc.length + items1.length) = true
                · rw [if_pos hln] at q2
                  have hln := of_decide_eq_true hln
                  -- the inner loop
                  let Inv1 : Nat → Nat → Hp → Prop := fun j m H => j ≤ items1.length ∧ m = items1.length - j ∧ ∃ (env' : Tw.Env) (ac : List D), ac.length ≤ acc.length + j ∧ (∀ v ∈ vs1, env'.set v none = env') ∧
                    Rel K cl H (some (.lst true ac) :: (κ1 ++ (κx ++ (κ ++ env')))) (some (.ref p) :: (τ1 ++ (τx ++ (τ ++ wipe σ2 vs1)))) ∧
                    Fin ((compGo vs1 b1 t1 f (items1.drop j) ac env').bind fun acc2 env4 => comp2Go vs vs1 b t fi1 b1 t1 f (items.drop (i + 1)) acc2 (wipeE env4 vs))
                  refine ⟨Inv1, ⟨items1.length, Nat.zero_le _, rfl, wipeE env4 vs1, acc, by omega, fun v hv => wipeE_set hv, ?_, q2⟩, ?_⟩
                  · have z0 : Rel K cl H4 (some (.lst true acc) :: (κ1 ++ (κx ++ (κ ++ env4)))) (some (.ref p) :: (τ1 ++ (τx ++ (τ ++ σ2)))) := by
                      have z := Rel.swap3 (A := κ1) (X := τ1) (B := [some (.lst true acc)]) (Y := [some (.ref p)]) (C := κx ++ (κ ++ env4)) (Z := τx ++ (τ ++ σ2)) (by simpa [List.append_assoc] using r7) l1 rfl
                      exact z
                    have z := rel_wipe (κ := some (.lst true acc) :: (κ1 ++ (κx ++ κ))) (τ := some (.ref p) :: (τ1 ++ (τx ++ τ))) (env := env4) (σ := σ2) (by simpa [List.append_assoc] using z0) (by simp [l1, lx, l]) vs1
                    simpa [List.append_assoc] using z
                  · rintro j m H5 ⟨hj, rfl, env5, ac, ha, hv5, r8, q5⟩
                    have r9 : Rel K cl H5 (κ1 ++ (some (.lst true ac) :: (κx ++ (κ ++ env5)))) (τ1 ++ (some (.ref p) :: (τx ++ (τ ++ wipe σ2 vs1)))) := Rel.swap3 (A := [some (.lst true ac)]) (X := [some (.ref p)]) r8 rfl l1
                    by_cases hlt1 : j < items1.length
                    · right
                      have hd1 : items1[j]? = some items1[j] := List.getElem?_eq_getElem hlt1
                      obtain ⟨go1, yl1⟩ := it1.go j items1[j] hd1 H5 _ _ r9
                      rw [List.drop_eq_getElem_cons hlt1] at q5
                      unfold compGo at q5
                      refine ⟨go1, fun H' => ∃ m', m' < items1.length - j ∧ Inv1 (j + 1) m' H', fun H' z => z, fun x1 H6 y1 => ?_⟩
                      have r10 : Rel K cl H6 (some items1[j] :: (some (.lst true ac) :: (κ1 ++ (κx ++ (κ ++ env5))))) (some x1 :: (some (.ref p) :: (τ1 ++ (τx ++ (τ ++ wipe σ2 vs1))))) := by
                        have z := yl1 x1 H6 y1
                        have z2 := Rel.swap3 (A := some items1[j] :: κ1) (X := some x1 :: τ1) (B := [some (.lst true ac)]) (Y := [some (.ref p)]) (C := κx ++ (κ ++ env5)) (Z := τx ++ (τ ++ wipe σ2 vs1)) z (by simp [l1]) rfl
                        exact Rel.swap3 (A := [some (.lst true ac)]) (X := [some (.ref p)]) (B := [some items1[j]]) (Y := [some x1]) z2 rfl rfl
                      cases e6 : b1 items1[j] env5 with
                      | none => rw [e6] at q5; exact q5.elim
                      | some env6 =>
                        rw [e6] at q5
                        simp only at q5
                        refine ⟨some (.ref p) :: (τ1 ++ (τx ++ τ)), some (.lst true ac) :: (κ1 ++ (κx ++ κ)), env5, items1[j], by simpa [List.append_assoc] using r10, by simp [l1, lx, l], env6, e6, fun σ3 H7 o3 r11 => ?_⟩
                        have ew3 : wipe σ3 vs1 = wipe σ2 vs1 := by
                          have z : wipe σ3 vs1 = wipe (wipe σ2 vs1) vs1 := wipe_off o3.1 fun j hj => o3.2 j fun z => hj (hts1 j z)
                          rw [z]
                          exact wipe_off (wipe_length _ _) fun j hj => wipe_out hj
                        refine ⟨ew3, ?_⟩
                        have back1 : ∀ {env3 : Tw.Env} {H3 : Hp} {a : List D}, Rel K cl H3 (some (.lst true a) :: (κ1 ++ (κx ++ (κ ++ env3)))) (some (.ref p) :: (τ1 ++ (τx ++ (τ ++ σ3)))) → Rel K cl H3 (some (.lst true a) :: (κ1 ++ (κx ++ (κ ++ wipeE env3 vs1)))) (some (.ref p) :: (τ1 ++ (τx ++ (τ ++ wipe σ2 vs1)))) := fun {env3 H3 a} z => by
                          have z2 := rel_wipe (κ := some (.lst true a) :: (κ1 ++ (κx ++ κ))) (τ := some (.ref p) :: (τ1 ++ (τx ++ τ))) (env := env3) (σ := σ3) (by simpa [List.append_assoc] using z) (by simp [l1, lx, l]) vs1
                          rw [ew3] at z2
                          simpa [List.append_assoc] using z2
                        refine ⟨some (.ref p) :: (τ1 ++ (τx ++ τ)), some (.lst true ac) :: (κ1 ++ (κx ++ κ)), env6, r11, by simp [l1, lx, l], ?_⟩
                        cases e7 : t1 env6 with
                        | exc _ _ _ _ => rw [e7] at q5; exact q5.elim
                        | stuck => rw [e7] at q5; exact q5.elim
                        | ok k1 env7 =>
                          rw [e7] at q5
                          simp only [Rs.ne, Rs.bind_ok] at q5
                          intro H8 r12
                          have r12' : Rel K cl H8 (some (.lst true ac) :: (κ1 ++ (κx ++ (κ ++ env7)))) (some (.ref p) :: (τ1 ++ (τx ++ (τ ++ σ3)))) := by simpa [List.append_assoc] using r12
                          cases k1 with
                          | false =>
                            rw [if_neg Bool.false_ne_true] at q5 ⊢
                            exact ⟨items1.length - (j + 1), by omega, hlt1, rfl, wipeE env7 vs1, ac, by omega, fun v hv => wipeE_set hv, back1 r12', q5⟩
                          | true =>
                            rw [if_pos rfl] at q5 ⊢
                            refine ⟨some (.ref p) :: (τ1 ++ (τx ++ τ)), some (.lst true ac) :: (κ1 ++ (κx ++ κ)), env7, r12, by simp [l1, lx, l], ?_⟩
                            cases e8 : f env7 with
                            | exc _ _ _ _ => rw [e8] at q5; exact q5.elim
                            | stuck => rw [e8] at q5; exact q5.elim
                            | ok y env8 =>
                              rw [e8] at q5
                              simp only [Rs.ne, Rs.bind_ok] at q5
                              intro v H9 r13
                              obtain ⟨us, tu, lu, r14⟩ := Rel.append (d := y) (acc := ac) (y := v) (p := p) (κ := κ1 ++ (κx ++ (κ ++ env8))) (τ := τ1 ++ (τx ++ (τ ++ σ3))) (by simpa [List.append_assoc] using r13)
                              exact ⟨us, tu, by omega, items1.length - (j + 1), by omega, hlt1, rfl, wipeE env8 vs1, ac ++ [y], by simp; omega, fun v hv => wipeE_set hv, back1 r14, q5⟩
                    · left
                      have e : j = items1.length := by omega
                      subst e
                      rw [List.drop_length] at q5
                      refine ⟨it1.stop _ (Nat.le_refl _) H5 _ _ r9, items.length - (i + 1), by omega, hlt, rfl, wipeE env5 vs, ac, fun v hv => wipeE_set hv, ?_, q5⟩
                      have z := Rel.drop r9 l1
                      have z2 := rel_unwipe (κ := some (.lst true ac) :: (κx ++ κ)) (τ := some (.ref p) :: (τx ++ τ)) (σ := σ2) (env := env5) (vs := vs1) (by simp [lx, l]) hv5 (by simpa [List.append_assoc] using z)
                      exact back (by simpa [List.append_assoc] using z2)
                · rw [if_neg hln] at q2; exact q2.elim
      · left
        have e : i = items.length := by omega
        subst e
        have r3 : Rel K cl H (κx ++ (some (.lst true acc) :: (κ ++ env'))) (τx ++ (some (.ref p) :: (τ ++ wipe σ vs))) := Rel.swap3 (A := [some (.lst true acc)]) (X := [some (.ref p)]) r2 rfl lx
        refine ⟨it.stop _ (Nat.le_refl _) H _ _ r3, ?_⟩
        rw [List.drop_length] at q2
        have r4 := Rel.drop r3 lx
        exact q2 _ _ (rel_unwipe (κ := some (.lst true acc) :: κ) (τ := some (.ref p) :: τ) (by simp [l]) hv r4)
variable {io : List Nat}
theorem j_comp2 {elt tg iter tg1 iter1 : Expr} {ifs ifs1 : List Expr} {scope : Scope} {own : List (Str × Nat)} {fi fi1 : Tw.Env → Rs (List D)} {bd bd1 : Bd} {ts vs1 : List Nat} {t t1 : EvB} {f : Ev} (hc : X.calm = true) (hN : X.N.Nodup) (hi : PI X tg iter (tI X.K cl W fi)) (ok : BlkOk X.N X.env.scope scope own) (hv : ∀ i ∈ vs1, i ∈ own.map (·.2))
    (hg : ∀ (s : Shared) (H : Hp) (C : Addr) (cls : List (Str × Addr)) (fp : List Addr), PG (X.blk s H scope (compEnvC scope cls C X.env) fp) tg (tG X.K cl ts bd)) (ht : ∀ (s : Shared) (H : Hp) (C : Addr) (cls : List (Str × Addr)) (fp : List Addr), PTs (X.blk s H scope (compEnvC scope cls C X.env) fp) ifs (tT X.K cl (fun _ _ _ _ => False) t))
    (hi1 : ∀ (s : Shared) (H : Hp) (C : Addr) (cls : List (Str × Addr)) (fp : List Addr), PI (X.blk s H scope (compEnvC scope cls C X.env) fp) tg1 iter1 (tI X.K cl (fun _ _ _ _ => False) fi1))
    (hg1 : ∀ (s : Shared) (H : Hp) (C : Addr) (cls : List (Str × Addr)) (fp : List Addr), PG (X.blk s H scope (compEnvC scope cls C X.env) fp) tg1 (tG X.K cl vs1 bd1)) (ht1 : ∀ (s : Shared) (H : Hp) (C : Addr) (cls : List (Str × Addr)) (fp : List Addr), PTs (X.blk s H scope (compEnvC scope cls C X.env) fp) ifs1 (tT X.K cl (fun _ _ _ _ => False) t1))
    (he : ∀ (s : Shared) (H : Hp) (C : Addr) (cls : List (Str × Addr)) (fp : List Addr), PE (X.blk s H scope (compEnvC scope cls C X.env) fp) elt (tE X.K cl (fun _ _ _ _ => False) f)) (hts : ∀ i ∈ ts, i ∈ own.map (·.2)) (hs : ∀ x, foldedSetIterable iter X.env x = pure x := by intro _; rfl) (hs1 : ∀ env x, foldedSetIterable iter1 env x = pure x := by intro _ _; rfl) :
    PE X (.ListComp elt [⟨tg, iter, ifs, 0⟩, ⟨tg1, iter1, ifs1, 0⟩] scope pos) (tE X.K cl W (fComp2 (own.map (·.2)) vs1 fi bd t fi1 bd1 t1 f)) :=
  PE.imp (pe_lc2 hc hN hi ok hv hg ht hi1 hg1 ht1 he hs hs1) fun σ H Q h => rd_comp2 hts (fun _ z => z) h
theorem s_setLc2 {i : Nat} {y : Str} {py spos : Pos} {elt tg iter tg1 iter1 : Expr} {ifs ifs1 : List Expr} {scope : Scope} {own : List (Str × Nat)} {fi fi1 : Tw.Env → Rs (List D)} {bd bd1 : Bd} {ts vs1 : List Nat} {t t1 : EvB} {f : Ev} (hc : X.calm = true) (hN : X.N.Nodup) (hy : X.N[i]? = some y) (hyl : X.env.scope.names.lookup y = some .local)
    (hsw : swapsWith (.ListComp elt [⟨tg, iter, ifs, 0⟩, ⟨tg1, iter1, ifs1, 0⟩] scope pos) (some (.Name y py)) spos.line X.env = pure true) (hi : PI X tg iter (tI X.K cl W fi)) (ok : BlkOk X.N X.env.scope scope own) (hv : ∀ i ∈ vs1, i ∈ own.map (·.2))
    (hg : ∀ (s : Shared) (H : Hp) (C : Addr) (cls : List (Str × Addr)) (fp : List Addr), PG (X.blk s H scope (compEnvC scope cls C X.env) fp) tg (tG X.K cl ts bd)) (ht : ∀ (s : Shared) (H : Hp) (C : Addr) (cls : List (Str × Addr)) (fp : List Addr), PTs (X.blk s H scope (compEnvC scope cls C X.env) fp) ifs (tT X.K cl (fun _ _ _ _ => False) t))
    (hi1 : ∀ (s : Shared) (H : Hp) (C : Addr) (cls : List (Str × Addr)) (fp : List Addr), PI (X.blk s H scope (compEnvC scope cls C X.env) fp) tg1 iter1 (tI X.K cl (fun _ _ _ _ => False) fi1))
    (hg1 : ∀ (s : Shared) (H : Hp) (C : Addr) (cls : List (Str × Addr)) (fp : List Addr), PG (X.blk s H scope (compEnvC scope cls C X.env) fp) tg1 (tG X.K cl vs1 bd1)) (ht1 : ∀ (s : Shared) (H : Hp) (C : Addr) (cls : List (Str × Addr)) (fp : List Addr), PTs (X.blk s H scope (compEnvC scope cls C X.env) fp) ifs1 (tT X.K cl (fun _ _ _ _ => False) t1))
    (he : ∀ (s : Shared) (H : Hp) (C : Addr) (cls : List (Str × Addr)) (fp : List Addr), PE (X.blk s H scope (compEnvC scope cls C X.env) fp) elt (tE X.K cl (fun _ _ _ _ => False) f)) (hts : ∀ i ∈ ts, i ∈ own.map (·.2)) (hio : ∀ j ∈ io, j ∉ [i] := by decide) (hs : ∀ x, foldedSetIterable iter X.env x = pure x := by intro _; rfl) (hs1 : ∀ env x, foldedSetIterable iter1 env x = pure x := by intro _ _; rfl) :
    PS X (.Assign [.Name y py] (.ListComp elt [⟨tg, iter, ifs, 0⟩, ⟨tg1, iter1, ifs1, 0⟩] scope pos) spos) (tS X.K cl W io (sAsg (bNm i) (fComp2 (own.map (·.2)) vs1 fi bd t fi1 bd1 t1 f))) :=
  PS.imp (ps_setLc2 hc hN hy hyl hsw hi ok hv hg ht hi1 hg1 ht1 he hs hs1) fun Z σ H h => rd_asg (fun σ H Q h => rd_comp2 hts (fun _ z => z) h) (fun _ _ _ _ z => rd_nm z) hio h
end
end Tw
noncomputable section
namespace Tw
open PySem PySem.Spec PyProof.Rows L2
/-! ### objects -/
def putN (f : Str) (ns : List Str) : List Str := if f ∈ ns then ns else ns ++ [f]
def putD (f : Str) (d : D) : List Str → List D → List D
  | n :: ns, e :: ds => if n = f then d :: ds else e :: putD f d ns ds
  | _, _ => [d]
/-- the thing at the field that is stored anew -/
def oldOk (f : Str) : List Str → List D → Bool
  | n :: ns, e :: ds => if n = f then D.ok e else oldOk f ns ds
  | _, _ => true
def D.ownO : D → Option (Nat × List Str × List D)
  | .obj true c ns ds => some (c, ns, ds)
  | _ => none
theorem ownO_eq {d : D} {c : Nat} {ns : List Str} {ds : List D} (h : D.ownO d = some (c, ns, ds)) : d = .obj true c ns ds := by
  cases d with
  | obj m c' ns' ds' => cases m <;> simp [D.ownO] at h; obtain ⟨rfl, rfl, rfl⟩ := h; rfl
  | _ => simp [D.ownO] at h
def ownOAt (env : Tw.Env) (i : Nat) : Option (Nat × List Str × List D) := (env[i]?.join).bind D.ownO
def sFSet (i : Nat) (own : Nat → Bool) (f : Str) (fe : Ev) : Sv := fun env => sBind (fe env) fun d env1 => match ownOAt env1 i with
  | some q => if own q.1 && decide (q.2.1.length = q.2.2.length) && decide (q.2.1.length < 1000) && D.ok d && oldOk f q.2.1 q.2.2 then .next (env1.set i (some (.obj true q.1 (putN f q.2.1) (putD f d q.2.1 q.2.2)))) else .stuck
  | none => .stuck
section
variable {X : Cx} {cl : Nat → Addr} {W : WX} {a b c e : Expr} {es : List Expr} {pos p : Pos} {x : Str} {fa fb fc : Ev} {io : List Nat} {o : Expr} {i : Nat} {K : PySem.W.Frag} {M : Addr → Prop} {H : Hp}
theorem ownOAt_eq {env : Tw.Env} {i : Nat} {q : Nat × List Str × List D} (h : ownOAt env i = some q) : env[i]? = some (some (.obj true q.1 q.2.1 q.2.2)) := by
  unfold ownOAt at h
  obtain ⟨d, e, h⟩ := Option.bind_eq_some_iff.mp h
  obtain ⟨c, ns, ds⟩ := q
  rw [ownO_eq h] at e
  cases e2 : env[i]? with
  | none => rw [e2] at e; cases e
  | some o => rw [e2] at e; cases o with
    | none => cases e
    | some d' => cases e; rfl
theorem put_zip (f : Str) (d : D) (v : V) : ∀ {ns : List Str} {ds : List D} {vs : List V} {g : List Addr}, Dats K cl M H ds vs g → ns.length = ds.length → Dat K cl M H d v [] → oldOk f ns ds = true →
    ∃ ws, putF f v (ns.zip vs) = (putN f ns).zip ws ∧ (putN f ns).length = ws.length ∧ Dats K cl M H (putD f d ns ds) ws g
  | [], [], vs, g, h, _, hd, _ => by
    obtain ⟨rfl, rfl⟩ := h
    exact ⟨[v], rfl, rfl, v, [], [], [], rfl, rfl, hd, rfl, rfl⟩
  | n :: ns, e :: ds, vs, g, h, l, hd, ok => by
    obtain ⟨u, us, f1, f2, rfl, rfl, h1, h2⟩ := h
    by_cases c : n = f
    · subst c
      simp only [oldOk, if_pos] at ok
      have z := dat_ok h1 ok
      subst z
      refine ⟨v :: us, ?_, ?_, ?_⟩
      · show (if n = n then (n, v) :: ns.zip us else _) = _
        rw [if_pos rfl, putN, if_pos List.mem_cons_self]
        rfl
      · rw [putN, if_pos List.mem_cons_self]
        have := dats_length h2
        simp only [List.length_cons] at l ⊢
        omega
      · show Dats K cl M H (if n = n then d :: ds else _) _ _
        rw [if_pos rfl]
        exact ⟨v, us, [], f2, rfl, rfl, hd, h2⟩
    · simp only [oldOk, if_neg c] at ok
      obtain ⟨ws, e1, e2, e3⟩ := put_zip f d v h2 (by simpa using l) hd ok
      have en : putN f (n :: ns) = n :: putN f ns := by
        unfold putN
        by_cases m : f ∈ ns
        · rw [if_pos m, if_pos (List.mem_cons_of_mem _ m)]
        · rw [if_neg m, if_neg (by simp [m, Ne.symm c])]
          rfl
      refine ⟨u :: ws, ?_, by rw [en]; simp [e2], ?_⟩
      · show (if n = f then _ else (n, u) :: putF f v (ns.zip us)) = _
        rw [if_neg c, e1, en]
        rfl
      · show Dats K cl M H (if n = f then _ else e :: putD f d ns ds) _ _
        rw [if_neg c]
        exact ⟨u, ws, f1, f2, rfl, rfl, h1, e3⟩
  | [], _ :: _, _, _, _, l, _, _ => by simp at l
  | _ :: _, [], _, _, _, l, _, _ => by simp at l
theorem s_fset {own : Nat → Bool} {f : Str} {pf : Pos} (ho : FldOk X.K cl own f) (hs : PE X o (tVar i)) (he : PE X e (tE X.K cl W fa)) (hsw : swapsWith e (some (.Attribute o f pf)) pos.line X.env = pure false := by rfl) : PS X (.Assign [.Attribute o f pf] e pos) (tS X.K cl W io (sFSet i own f fa)) :=
  PS.imp (ps_fld hs he hsw) fun Z σ H ⟨τ, κ, env, r, l, q⟩ => by
  refine sbind_at (A := []) (Y := []) rfl r l q fun d env1 v H1 h1 r1 => ?_
  cases e1 : ownOAt env1 i with
  | none => rw [e1] at h1; exact h1.elim
  | some z =>
    obtain ⟨c, ns, ds⟩ := z
    rw [e1] at h1
    simp only at h1
    split at h1
    · rename_i ok
      simp only [Bool.and_eq_true, decide_eq_true_eq] at ok
      obtain ⟨⟨⟨⟨ow, ln⟩, l1⟩, okd⟩, okf⟩ := ok
      obtain ⟨u, e2, r2⟩ := slot_out (A := [some d]) (Y := [some v]) r1 rfl l (ownOAt_eq e1)
      have r3 : Rel X.K cl H1 (List.map some [d, .obj true c ns ds] ++ (κ ++ env1.set i none)) (List.map some [v, u] ++ (τ ++ σ)) := Rel.swap3 (A := [some (.obj true c ns ds)]) (X := [some u]) (B := [some d]) (Y := [some v]) r2 rfl rfl
      obtain ⟨fp, g, n, hh, hr⟩ := r3.split rfl
      obtain ⟨f1, f2, ef, hd, hl⟩ := dats2 hh
      obtain ⟨ad, dx, vs, g', eu, t, lv, hds, w⟩ := hl
      subst eu
      have z1 := dat_ok hd okd
      subst z1
      rcases w with ⟨_, hM, e7⟩ | ⟨z, _⟩
      · subst e7
        have e8 : fp = ad :: g' := ef
        subst e8
        obtain ⟨ws, q1, q2, q3⟩ := put_zip f d v hds ln hd okf
        refine ⟨.ref ad, e2, ad, cl c, dx, _, rfl, t, (ho.ok c ow).1.c, (ho.ok c ow).2, ?_, ?_⟩
        · rw [List.length_zip]; omega
        · rw [q1]
          have n2 := List.nodup_append.mp n
          have np : ad ∉ g := fun z => n2.2.2 ad List.mem_cons_self ad z rfl
          have np2 : ad ∉ g' := (List.nodup_cons.mp n2.1).1
          have tr : ∀ {f0 : List Addr} {ob : HO}, ad ∉ f0 → ∀ a o, H1 a = some o → (a ∈ ad :: g' ++ g → a ∈ f0) → upd H1 ad ob a = some o := fun {f0 ob} np a o e hf => by
            rw [upd_ne fun z => np (by rw [← z]; exact hf (by rw [z]; exact hM))]
            exact e
          have r6 : Rel X.K cl (upd H1 ad (.ins (cl c) dx ((putN f ns).zip ws))) (some (.obj true c (putN f ns) (putD f d ns ds)) :: (κ ++ env1.set i none)) (some (.ref ad) :: (τ ++ σ)) := by
            refine ⟨ad :: g' ++ g, n, .ref ad, _, ad :: g', g, rfl, rfl, ⟨ad, dx, ws, g', rfl, upd_same, q2, ?_, .inl ⟨rfl, hM, rfl⟩⟩, ?_⟩
            · exact dats_tr q3 (fun a z => .inl z) (fun a z => List.mem_append_left _ (List.mem_cons_of_mem _ z)) (tr np2)
            · exact slots_tr hr (fun a z => .inl z) (fun a z => List.mem_append_right _ z) (tr np)
          have r7 := slot_in (A := []) (Y := []) r6 rfl l e2
          rw [List.set_set] at r7
          exact h1 σ _ .refl r7
      · cases z
    · exact h1.elim
/-- C(..): a new instance, then its __init__ -/
def fMake (n : Nat) (h : List D → Rf) (fs : List Ev) : Ev := fun env => (evs (vals fs) env).bind fun ds env1 => match h (.obj true n [] [] :: ds) with
  | .ret .non [z] => .ok z env1
  | .exc c ns es _ => .exc c ns es env1
  | _ => .stuck
/-- the new instance stands in front -/
theorem Rel.newO {as : List D} {vs : List V} {κ : Tw.Env} {τ : S} {q dx : Addr} {n : Nat} (r : Rel K cl H (as.map some ++ κ) (vs.map some ++ τ)) (hq : H q = none) (hd : H dx = none) (ne : dx ≠ q) :
    Rel K cl (upd (upd H dx (.own q)) q (.ins (cl n) dx [])) (List.map some (.obj true n [] [] :: as) ++ κ) (List.map some (.ref q :: vs) ++ τ) := by
  have hq1 : upd H dx (.own q) q = none := by rw [upd_ne (Ne.symm ne)]; exact hq
  have r1 := (r.same (same_upd (o := .own q) hd)).same (same_upd (o := .ins (cl n) dx []) hq1)
  obtain ⟨f, nd, h⟩ := r
  have np : q ∉ f := fun z => by
    obtain ⟨_, o, e⟩ := slots_in h q z
    rw [hq] at e; cases e
  refine ⟨q :: f, List.nodup_cons.mpr ⟨np, nd⟩, .ref q, _, [q], f, rfl, rfl, ⟨q, dx, [], [], rfl, upd_same, rfl, ⟨rfl, rfl⟩, .inl ⟨rfl, List.mem_cons_self, rfl⟩⟩, ?_⟩
  refine slots_tr h (fun a z => (List.mem_cons.mp z).elim (fun e => .inr (by rw [e]; exact hq)) .inl) (fun a z => List.mem_cons_of_mem _ z) fun a o e _ => ?_
  exact same_upd hq1 a o (same_upd hd a o e)
theorem j_make {n k m ar : Nat} {h : List D → Rf} {fs : List Ev} {name : Str} (hm : X.mg name = some (.ref (cl n)) ∧ ∃ f, Mk X.K (cl n) f ∧ ∃ fd ps, Binds X.K fd ps [] ∧ FnOk X.prog X.w X.K X.mg X.base (L2.CX X.prog X.w) k f fd ps (spD X.K cl ar [0] h)) (tk : Takes X W) (hr : Room m X.A) (hkm : k + 1 ≤ m) (hn : fs.length + 1 = ar)
    (hW : ∀ cls dd σ σ' H, W cls dd σ H → W cls dd σ' H) (ha : PA X (e :: es) (tOs X.K cl W (vals fs))) (hg : Gl X name := by rfl) (hdb : (name == ("__debug__" : Str)) = false := by decide) (he : starEach (e :: es) X.env = (false, eval e X.env) :: starEach es X.env := by rfl) (hpl : (backTo pos (starEach es X.env)).any (·.1) = false := by rfl) :
    PE X (.Call (.Name name p) (e :: es) [] pos) (tE X.K cl W (fMake n h fs)) := by
  obtain ⟨hm, f, M, fd, ps, hb, F⟩ := hm
  refine PE.imp (pe_make (dvs := []) (E := fun cls dd H' => ∀ σ, W cls dd σ H') M F (hr.mono hkm) hg hm hb .nil (passes_call tk fun cls dd σ H z => z σ) ha hdb he hpl) fun σ H Q ⟨τ, κ, env, r, l, q⟩ => ?_
  refine tA_os (os := vals fs) ⟨τ, κ, env, r, l, ?_⟩
  unfold fMake at q
  cases e1 : evs (vals fs) env with
  | exc _ _ _ _ => rw [e1] at q; exact q
  | stuck => rw [e1] at q; exact q
  | ok ds env1 =>
    rw [e1, Rs.bind_ok] at q
    intro us vs H' l2 r2 fu
    obtain ⟨rfl, l3⟩ := full_vals fu
    intro xa dx hx hd ne
    rw [List.append_nil]
    have ls : (τ ++ σ).length = (κ ++ env1).length := by
      have z := r2.len
      simp only [List.length_append, List.length_map] at z ⊢
      omega
    refine ⟨by simp [l3, hn], τ ++ σ, κ ++ env1, .obj true n [] [] :: ds, by simp [l2], ls, Rel.newO r2 hx hd ne, ?_⟩
    cases e2 : h (.obj true n [] [] :: ds) with
    | ret d ios =>
      rw [e2] at q
      cases d with
      | non =>
        match ios, q with
        | [z], q =>
          intro v H2 ws ew r3
          cases ws with
          | nil => simp at ew
          | cons w ws =>
            simp only [List.map_cons, List.map_nil, List.cons.injEq] at ew
            obtain ⟨ew, ew2⟩ := ew
            cases ew
            cases ws with
            | cons _ _ => simp at ew2
            | nil =>
              obtain ⟨M, f, hv⟩ := Rel.head r3
              exact ⟨hv.1, q _ H2 (Rel.pop r3)⟩
        | [], q => exact q.elim
        | _ :: _ :: _, q => exact q.elim
      | _ => exact q.elim
    | exc c ns es ios =>
      rw [e2] at q
      intro cls dd H2 xs ws ex lx ew r3 σ'
      refine hW cls dd σ σ' H2 (q cls dd H2 xs ex ?_ lx.symm)
      have r4 := Rel.swap3 (A := es.map some) (X := xs.map some) (B := ios.map some) (Y := ws.map some) r3 (by simp [lx]) (by
        have z := r3.len
        simp only [List.length_append, List.length_map] at z ls ⊢
        omega)
      exact Rel.drop r4 (by
        have z := r3.len
        simp only [List.length_append, List.length_map] at z ls ⊢
        omega)
    | stuck => rw [e2] at q; exact q.elim
/-! ### how many unlike numbers -/
def nub : List Int → List Int
  | [] => []
  | n :: ns => if n ∈ ns then nub ns else n :: nub ns
theorem nub_mem : ∀ {ns : List Int} {k : Int}, k ∈ nub ns ↔ k ∈ ns
  | [], k => Iff.rfl
  | n :: ns, k => by
    unfold nub
    by_cases h : n ∈ ns
    · rw [if_pos h, nub_mem, List.mem_cons]
      exact ⟨.inr, fun z => z.elim (fun e => by rw [e]; exact h) id⟩
    · rw [if_neg h, List.mem_cons, List.mem_cons, nub_mem]
theorem nub_nodup : ∀ ns : List Int, (nub ns).Nodup
  | [] => .nil
  | n :: ns => by
    unfold nub
    by_cases h : n ∈ ns
    · rw [if_pos h]; exact nub_nodup ns
    · rw [if_neg h]; exact List.nodup_cons.mpr ⟨fun z => h (nub_mem.mp z), nub_nodup ns⟩
def fLenSet (f : Ev) : Ev := fun env => (f env).bind fun d env1 => match D.seqK d with
  | some (true, xs) => (match D.ints xs with
    | some is => if is.length ≤ 4000 then .ok (.int (nub is).length) env1 else .stuck
    | none => .stuck)
  | _ => .stuck
theorem j_lenSet {p2 q : Pos} (hm : X.mg "len" = none) (hm2 : X.mg "set" = none) (hc : X.calm = true) (ha : PE X a (tE X.K cl W fa)) (hg : Gl X "len" := by rfl) (hg2 : Gl X "set" := by rfl) (na : starEach [a] X.env = (false, eval a X.env) :: starEach [] X.env := by rfl) :
    PE X (.Call (.Name "len" p) [.Call (.Name "set" p2) [a] [] q] [] pos) (tE X.K cl W (fLenSet fa)) := by
  refine ⟨fun pins s σ H Q I ⟨τ, κ, env, r, l, qq⟩ => Call_ (ld_blt I hg hm boot_len (PyProof.Rows.callWith_builtin1 (PyProof.Rows.args_cons (Call_ (ld_blt I hg2 hm2 boot_set (PyProof.Rows.callWith_type1 (PyProof.Rows.args_cons (thn (ha.run pins s σ H _ I (tE_bind r l qq fun d env1 v H1 h1 r1 => (?_ : ∃ (t : Addr) (ns : List Int), v = .ref t ∧ SqT X.K H1 t (ns.map V.int) ∧ ns.length ≤ 4000 ∧ Q (.int (nub ns).length) H1))) fun v s1 ⟨x, H1, I1, r1, q1⟩ => PyProof.Rows.args_nil ?_) na) na rfl))) rfl) rfl rfl))⟩
  · cases e : D.seqK d with
    | none => rw [e] at h1; exact h1.elim
    | some pr =>
      obtain ⟨k, xs⟩ := pr
      rw [e] at h1
      cases k with
      | false => exact h1.elim
      | true =>
        simp only at h1
        cases e2 : D.ints xs with
        | none => rw [e2] at h1; exact h1.elim
        | some is =>
          rw [e2] at h1
          simp only at h1
          by_cases c : is.length ≤ 4000
          · rw [if_pos c] at h1
            obtain ⟨M, f, hd⟩ := r1.head
            obtain ⟨t, vs, ev, _, st, hds⟩ := dat_seqK hd e
            have e3 := dats_intsOf hds e2
            subst e3
            exact ⟨t, is, ev, st rfl, c, h1 _ _ (r1.pop.push fun M => dint)⟩
          · rw [if_neg c] at h1; exact h1.elim
  · obtain ⟨t, ns, rfl, hq, hl, q1⟩ := q1
    cases r1
    obtain ⟨its, rv, pt, hz⟩ := I1.tuple hq
    refine call_set_tupI ns (I1.ok.hd hc) (show s1.heap.IsTuple t its.toArray from pt) (by simpa using intsAre_of rv) (by unfold scanBound; omega) fun h' tk c R1 hcn kk => PyProof.Rows.args_nil ?_
    obtain ⟨ob, es', ep, tt, ho, hex, hdt, g, nd, hm3, hb, hf, hn, hr, hl2⟩ := R1
    have I2 : Inv X pins σ H1 { s1 with heap := h', toks := tk } := I1.kept kk
    have e4 : es'.size = (nub ns).length := by
      have p1 : (es'.toList.map keyOf).Perm (nub ns) := (List.perm_ext_iff_of_nodup nd (nub_nodup ns)).mpr fun k => by rw [nub_mem, ← hm3 k, decide_eq_true_eq]
      have z := p1.length_eq
      simpa using z
    exact call_len_set ho hex hdt hf (by unfold scanBound at hb; omega) ⟨.int (nub ns).length, H1, I2.tok _, ⟨_, by rw [← e4]⟩, q1⟩
end
end Tw
noncomputable section
namespace Tw
open PySem PySem.Spec PyProof.Rows L2
section
variable {prog : Program} {w : World} {A : Around} {E : Value → Shared → Prop} {s : Shared}
theorem revPick (xs : Array Value) : ((List.range xs.size).filterMap fun (m : Nat) => xs[(((xs.size : Int) - 1) + (m : Int) * (-1)).toNat]?) = xs.toList.reverse := by
  have key : ∀ n, n ≤ xs.size → ((List.range n).filterMap fun (m : Nat) => xs[(((xs.size : Int) - 1) + (m : Int) * (-1)).toNat]?) = xs.toList.reverse.take n := fun n => by
    induction n with
    | zero => intro _; rfl
    | succ n ih =>
      intro h
      have h1 : n < xs.toList.reverse.length := by simp; omega
      have e0 : (((xs.size : Int) - 1) + (n : Int) * (-1)).toNat = xs.size - 1 - n := by omega
      have e1 : xs[xs.size - 1 - n]? = some (xs.toList.reverse[n]) := by
        rw [List.getElem_reverse, Array.getElem?_eq_getElem (by omega)]
        simp
      rw [List.range_succ, List.filterMap_append, ih (by omega), List.take_add_one, List.getElem?_eq_getElem h1]
      congr 1
      simp only [List.filterMap_cons, e0, e1, List.filterMap_nil, Option.toList]
  have z := key xs.size (Nat.le_refl _)
  rwa [List.take_of_length_le (by simp)] at z
theorem revItem {t sl : Addr} {items : Array Value} {vs : Value} {Q : Value → Shared → Prop} (ht : IsTup s.heap t items) (hs : s.heap.IsSliceOf sl .none .none vs) (ps : IsPart vs (some (-1))) (hsz : items.size ≤ sizeLine)
    (h : Q (.ref s.heap.objs.size) { s with heap := s.heap.push { cls := .type "tuple", data := .seq items.toList.reverse.toArray } }) : wpAny (model prog w) A (getItem (.ref t) (.ref sl)) Q E s := by
  have hfit : sizeOk (.seq items.toList.reverse.toArray) := show items.toList.reverse.toArray.size ≤ sizeLine by simpa using hsz
  obtain ⟨os, hos, hcs, hds⟩ := id hs
  have hTs : s.TypeIs (.ref sl) "slice" := ⟨os, hos, hcs⟩
  have happ : ∀ {B : Around} {R : Int × Int × Nat → Shared → Prop}, R (((items.size : Int) - 1), -1, items.size) s → wpAny (model prog w) B (Builtin.Slice.sliceApplied (.ref sl) (pure (items.size : Int))) R E s := fun {B R} hR => by
    unfold Builtin.Slice.sliceApplied Builtin.Slice.sliceFields
    refine wpAny_bind (wpAny_bind (wpAny_field hos hds (x := .none) rfl (wpAny_bind (wpAny_field hos hds (x := .none) rfl (wpAny_bind (wpAny_field hos hds (x := vs) rfl (wpAny_pure ?_)))))))
    refine wpAny_bind (HT.slicePart_ ps ?_)
    show wpAny _ _ (if ((-1 : Int) == 0) = true then _ else _) _ _ s
    rw [if_neg (by decide)]
    refine wpAny_bind (slicePart_none (wpAny_bind (slicePart_none (wpAny_bind (wpAny_pure (wpAny_pure ?_))))))
    have e2 : Builtin.Slice.slicePlaces ((items.size : Int) - 1) (-1) (-1) = items.size := by
      unfold Builtin.Slice.slicePlaces
      rw [if_neg (by decide)]
      by_cases c : (items.size : Int) - 1 > -1
      · rw [if_pos c, show (-(-1 : Int)) = 1 from rfl, Int.ediv_one]; omega
      · rw [if_neg c]; omega
    show R (((items.size : Int) - 1), -1, Builtin.Slice.slicePlaces ((items.size : Int) - 1) (-1) (-1)) s
    rw [e2]
    exact hR
  unfold getItem
  try with_reducible refine wpAny_holding ?_
  first | refine wpAny_bind (wpAny_pure ?_) | skip
  refine wpAny_bind (wpAny_sequenceKey ht.typeIs (by decide) (wpAny_bind (wpAny_callSpecial?_slot (name := Str.ofString "__getitem__") ht.typeIs PyProof.Rows.slot_tuple_getitem (wpAny_call_entry PyProof.Rows.slot_tuple_getitem ht.typeIs PyProof.Rows.entry_tuple_getitem ?_ (PyProof.Rows.args_tuple_getitem _ _)))))
  show wpAny _ _ (Builtin.Tuple.tupleItemsOf (.ref t) >>= _) _ _ s
  refine wpAny_bind (PyProof.Rows.tupleItemsOf_ ht (wpAny_bind (wpAny_typeOf hTs ?_)))
  rw [if_pos (by decide)]
  refine wpAny_bind (happ ?_)
  show wpAny _ _ (if ((((items.size : Int) - 1) == 0 && (-1 : Int) == 1 && items.size == items.size) = true) then _ else _) _ _ s
  rw [if_neg (by simp), revPick]
  first
    | exact wpAny_bind (m := Builtin.Tuple.tupleExact _) (wpAny_newObj_type (wpAny_pure ⟨_, rfl, wpAny_pure h⟩) hfit)
    | exact wpAny_bind (m := Builtin.Tuple.tupleExact _) (wpAny_newObj_type (wpAny_bind (wpAny_pure (wpAny_pure ⟨_, rfl, wpAny_pure h⟩))) hfit)
    | exact wpAny_bind (wpAny_bind (m := Builtin.Tuple.tupleExact _) (wpAny_newObj_type (wpAny_pure (wpAny_pure ⟨_, rfl, wpAny_pure h⟩)) hfit))
    | exact wpAny_bind (wpAny_bind (m := Builtin.Tuple.tupleExact _) (wpAny_newObj_type (wpAny_pure ⟨_, rfl, wpAny_pure h⟩) hfit))
end
section
variable {X : Cx} {cl : Nat → Addr} {W : WX} {a b c e : Expr} {es : List Expr} {pos p : Pos} {x : Str} {fa fb fc : Ev} {io : List Nat} {K : PySem.W.Frag} {M : Addr → Prop} {H : Hp}
def tRevT (K : PySem.W.Frag) (ta : TE) : TE := fun σ H Q => ta σ H fun x H1 => ∃ a xs, x = .ref a ∧ SqT K H1 a xs ∧ ∀ p, H1 p = none → Q (.ref p) (upd H1 p (.tup xs.reverse))
theorem pe_revT {te : TE} {k : Nat} {p1 p2 p3 : Pos} (he : PE X e te) : PE X (.Subscript e (.Slice none none (some (.UnaryOp .USub (.Constant (.int 1) k p1) p2)) p3) pos) (tRevT X.K te) := by
  refine ⟨fun pins s σ H Q I h => Subscript_ (thn (he.run pins s σ H _ I h) fun v s1 ⟨x, H1, I1, r1, ad, xs, ex, hx, q⟩ => ?_)⟩
  subst ex
  cases r1
  have hst : PO X (some (.UnaryOp .USub (.Constant (.int 1) k p1) p2)) (tPart (tUn (rU fun i => .int (-i)) (tC (.int 1)))) := po_some (pe_un un_neg pe_int)
  refine wpAny_Slice (thn (po_none.run pins s1 σ H1 (fun o H2 => o = none ∧ H2 = H1) I1 ⟨rfl, rfl⟩) fun vl s2 ⟨l, H2, I2, pl, el, e2⟩ => thn (po_none.run pins s2 σ H2 (fun o H3 => o = none ∧ H3 = H2) I2 ⟨rfl, rfl⟩) fun vu s3 ⟨u, H3, I3, pu, eu, e3⟩ =>
    thn (hst.run pins s3 σ H3 (fun o H4 => o = some (-1) ∧ H4 = H3) I3 ⟨1, rfl, -1, rfl, rfl, rfl⟩) fun vs s4 ⟨o, H4, I4, ps, eo, e4⟩ => ?_)
  subst el; subst e2; subst eu; subst e3; subst eo; subst e4
  have evl : vl = .none := by cases pl; rfl
  have evu : vu = .none := by cases pu; rfl
  subst evl; subst evu
  have I5 : Inv X pins σ H4 { s4 with heap := s4.heap.push { cls := .type "slice", data := .fields #[.none, .none, vs] } } := I4.kept (t' := s4.toks) fun b ob q => Heap.get?_push_of_some _ q
  obtain ⟨its, r, ht, hz⟩ := I5.tuple hx
  have hlen := r.length
  refine tail_any (ops := [.ref ad, .ref s4.heap.objs.size]) ht.typeIs (PyProof.Rows.slot_tuple_getitem.lookup) (revItem ht (Heap.IsSliceOf.new _ .none .none vs) ps (by rw [List.size_toArray]; omega) ?_) (by with_unfolding_all rfl)
  refine ⟨.ref _, _, I5.laid (t' := s4.toks) (o := .tup xs.reverse) (fun b ob q => Heap.get?_push_of_some _ q) (Nat.le_refl _) ⟨by rw [List.length_reverse]; exact hz, _, r.reverse, IsTup.new _ _⟩, rfl, q _ (I5.hok.fresh (Nat.le_refl _))⟩
def gRev : D → Option D
  | .lst _ xs => if D.oks xs then some (.lst true xs.reverse) else none
  | .tup xs => if D.oks xs then some (.tup xs.reverse) else none
  | _ => none
def fRev (f : Ev) : Ev := fun env => (f env).bind fun d env1 => match gRev d with
  | some z => .ok z env1
  | none => .stuck
theorem dats_rev {ds : List D} {vs : List V} (h : Dats K cl M H ds vs []) : Dats K cl M H ds.reverse vs.reverse [] := by
  induction ds generalizing vs with
  | nil => rw [h.1]; exact ⟨rfl, rfl⟩
  | cons d ds ih =>
    obtain ⟨v, vs', f1, f2, rfl, e2, h1, h2⟩ := h
    obtain ⟨rfl, rfl⟩ := List.append_eq_nil_iff.mp e2.symm
    rw [List.reverse_cons, List.reverse_cons]
    exact dats_nil_append (ih h2) ⟨v, [], [], [], rfl, rfl, h1, rfl, rfl⟩
theorem PE.or {e : Expr} {t t' : TE} (h : PE X e t) (h' : PE X e t') : PE X e (fun σ H Q => t σ H Q ∨ t' σ H Q) := ⟨fun pins s σ H Q I z => z.elim (fun z => h.run pins s σ H Q I z) fun z => h'.run pins s σ H Q I z⟩
theorem j_rev {k : Nat} {p1 p2 p3 : Pos} (he : PE X e (tE X.K cl W fa)) : PE X (.Subscript e (.Slice none none (some (.UnaryOp .USub (.Constant (.int 1) k p1) p2)) p3) pos) (tE X.K cl W (fRev fa)) := PE.imp (PE.or (pe_revL he) (pe_revT he)) fun σ H Q ⟨τ, κ, env, r, l, q⟩ => by
  unfold fRev at q
  have fin : ∀ {d d2 : D} {v v2 : V} {env3 : Tw.Env} {H4 : Hp}, Rel X.K cl H4 (some d2 :: (List.map some [d] ++ (κ ++ env3))) (some v2 :: (List.map some [v] ++ (τ ++ σ))) → Rel X.K cl H4 (some d2 :: (κ ++ env3)) (some v2 :: (τ ++ σ)) := fun {d d2 v v2 env3 H4} r5 =>
    Rel.drop (A := [some d]) (X := [some v]) (Rel.swap3 (A := [some d2]) (X := [some v2]) (B := [some d]) (Y := [some v]) r5 rfl rfl) rfl
  cases e1 : fa env with
  | stuck => rw [e1] at q; exact q.elim
  | exc _ _ _ _ => rw [e1] at q; exact .inl ⟨τ, κ, env, r, l, by rw [e1]; exact q⟩
  | ok d env1 =>
    rw [e1, Rs.bind_ok] at q
    cases d with
    | lst m ds =>
      by_cases o : D.oks ds = true
      · simp only [gRev, if_pos o] at q
        refine .inl ⟨τ, κ, env, r, l, ?_⟩
        rw [e1]
        intro v H1 r1
        obtain ⟨f, g, n, hh, hr⟩ := Rel.split (as := [.lst m ds]) (vs := [v]) r1 rfl
        obtain ⟨ad, xs, g1, e2, t1, d1, _⟩ := dats1 hh
        subst e2
        exact ⟨ad, xs, rfl, .of t1, fun p hp => q _ _ (fin (newL n hh hr hp (dats_rev (oks_nil d1 o))))⟩
      · simp only [gRev, if_neg o] at q; exact q.elim
    | tup ds =>
      by_cases o : D.oks ds = true
      · simp only [gRev, if_pos o] at q
        refine .inr ⟨τ, κ, env, r, l, ?_⟩
        rw [e1]
        intro v H1 r1
        obtain ⟨f, g, n, hh, hr⟩ := Rel.split (as := [.tup ds]) (vs := [v]) r1 rfl
        obtain ⟨ad, xs, e2, t1, d1⟩ := dats1 hh
        subst e2
        exact ⟨ad, xs, rfl, t1.sq, fun p hp => q _ _ (fin (newT n hh hr hp (dats_rev (oks_nil d1 o))))⟩
      · simp only [gRev, if_neg o] at q; exact q.elim
    | _ => exact q.elim
/-! ### in, of flat things -/
def D.flat : D → Option V
  | .non => some .non | .bl b => some (.bl b) | .int i => some (.int i) | .str x => some (.str x)
  | _ => none
def D.flats : List D → Option (List V)
  | [] => some []
  | d :: ds => (D.flat d).bind fun v => (D.flats ds).map (v :: ·)
theorem dat_flat {d : D} {u v : V} {f : List Addr} (h : Dat K cl M H d v f) (e : D.flat d = some u) : v = u ∧ flatV u = true := by
  cases d with
  | non => cases e; exact ⟨h.1, rfl⟩
  | bl b => cases e; exact ⟨h.1, rfl⟩
  | int b => cases e; exact ⟨h.1, rfl⟩
  | str b => cases e; exact ⟨h.1, rfl⟩
  | _ => cases e
theorem dats_flat : ∀ {ds : List D} {us vs : List V} {f : List Addr}, Dats K cl M H ds vs f → D.flats ds = some us → vs = us ∧ us.all flatV = true
  | [], _, _, _, h, e => by cases e; exact ⟨h.1, rfl⟩
  | d :: ds, _, _, _, h, e => by
    obtain ⟨v, vs', f1, f2, rfl, _, h1, h2⟩ := h
    simp only [D.flats, Option.bind_eq_some_iff, Option.map_eq_some_iff] at e
    obtain ⟨b, e1, bs, e, rfl⟩ := e
    obtain ⟨rfl, a1⟩ := dat_flat h1 e1
    obtain ⟨rfl, a2⟩ := dats_flat h2 e
    exact ⟨rfl, by simp [a1, a2]⟩
def gIn : List D → Option D
  | [a, b] => (D.flat a).bind fun v => (D.seqK b).bind fun q => (D.flats q.2).map fun vs => .bl (inV v vs)
  | _ => none
def gNotIn : List D → Option D
  | [a, b] => (D.flat a).bind fun v => (D.seqK b).bind fun q => (D.flats q.2).map fun vs => .bl (!inV v vs)
  | _ => none
theorem in_core {as : List D} {d : D} {vs : List V} {κ : Tw.Env} {τ : S} {neg : Bool} {Q : VK} (h : (if neg then gNotIn as else gIn as) = some d) (l : as.length = vs.length) (r : Rel K cl H (as.map some ++ κ) (vs.map some ++ τ))
    (q : ∀ v H', Rel K cl H' (some d :: (as.map some ++ κ)) (some v :: (vs.map some ++ τ)) → Q v H') : rw2 (rIn K neg) vs H Q := by
  have key : ∃ a b v k xs us, as = [a, b] ∧ D.flat a = some v ∧ D.seqK b = some (k, xs) ∧ D.flats xs = some us ∧ d = .bl (if neg then !inV v us else inV v us) := by
    match as, h with
    | [a, b], h =>
      cases neg with
      | true =>
        simp only [if_true, gNotIn, Option.bind_eq_some_iff, Option.map_eq_some_iff] at h
        obtain ⟨v, e1, ⟨k, xs⟩, e2, us, e3, rfl⟩ := h
        exact ⟨a, b, v, k, xs, us, rfl, e1, e2, e3, rfl⟩
      | false =>
        simp only [Bool.false_eq_true, if_false, gIn, Option.bind_eq_some_iff, Option.map_eq_some_iff] at h
        obtain ⟨v, e1, ⟨k, xs⟩, e2, us, e3, rfl⟩ := h
        exact ⟨a, b, v, k, xs, us, rfl, e1, e2, e3, rfl⟩
    | [], h => cases neg <;> simp [gIn, gNotIn] at h
    | [_], h => cases neg <;> simp [gIn, gNotIn] at h
    | _ :: _ :: _ :: _, h => cases neg <;> simp [gIn, gNotIn] at h
  obtain ⟨a, b, v, k, xs, us, rfl, e1, e2, e3, rfl⟩ := key
  obtain ⟨x, y, rfl⟩ := two_of rfl l
  obtain ⟨M, f, hh⟩ := r.heads l
  obtain ⟨f1, f2, _, h1, h2⟩ := dats2 hh
  obtain ⟨rfl, a1⟩ := dat_flat h1 e1
  obtain ⟨ad, ws, rfl, l1, t1, d1⟩ := dat_seqK h2 e2
  obtain ⟨rfl, a2⟩ := dats_flat d1 e3
  refine ⟨ad, ws, rfl, ?_, a1, a2, q _ _ (r.push fun M => dbl)⟩
  cases k with
  | false => exact .inl (.of (l1 rfl))
  | true => exact .inr (t1 rfl)
theorem s_in : OpS K cl (rw2 (rIn K false)) gIn := fun as d vs H κ τ Q h l r q => in_core (neg := false) h l r q
theorem s_notIn : OpS K cl (rw2 (rIn K true)) gNotIn := fun as d vs H κ τ Q h l r q => in_core (neg := true) h l r q
theorem op_inA : OpR X (compareOp .In) (rIn X.K false) := op_in_seq
theorem op_notInA : OpR X (compareOp .NotIn) (rIn X.K true) := op_notIn_seq
theorem in_bl {as : List D} {d : D} (h : gIn as = some d) : ∃ k, d = .bl k := by
  match as, h with
  | [a, b], h =>
    simp only [gIn, Option.bind_eq_some_iff, Option.map_eq_some_iff] at h
    obtain ⟨_, _, _, _, _, _, rfl⟩ := h
    exact ⟨_, rfl⟩
theorem notIn_bl {as : List D} {d : D} (h : gNotIn as = some d) : ∃ k, d = .bl k := by
  match as, h with
  | [a, b], h =>
    simp only [gNotIn, Option.bind_eq_some_iff, Option.map_eq_some_iff] at h
    obtain ⟨_, _, _, _, _, _, rfl⟩ := h
    exact ⟨_, rfl⟩
/-! ### x *= e -/
def gIMul : List D → Option D := gInt2 fun i j => if CMul i j then some (.int (i * j)) else none
theorem s_imul : OpS K cl (rw2 (rI CMul fun i j => .int (i * j))) gIMul := s_int2 fun _ _ _ _ => dint
theorem iop_mulA : OpR X (inplaceOp .Mult) (rI CMul fun i j => .int (i * j)) := iop_mul
def gIAdd : List D → Option D := gInt2 fun i j => some (.int (i + j))
theorem s_iadd : OpS K cl (rw2 (rI0 fun i j => .int (i + j))) gIAdd := s_int20 fun _ _ _ _ => dint
theorem iop_addA : OpR X (inplaceOp .Add) (rI0 fun i j => .int (i + j)) := iop_add
end
end Tw
noncomputable section
namespace Tw
open PySem PySem.Spec PyProof.Rows L2
/-! ### == and != by an own __eq__ -/
theorem ns_some_of {K : PySem.W.Frag} {h : Heap} {N : Addr} {mg : Str → Option Value} {n : Str} {v : Value} (X : K.In h) (G : h.Ns N mg) (e : PySem.W.nsIn K N n = some (some v)) : mg n = some v := by
  obtain ⟨o, es, ep, ho, hd, _, hf⟩ := G
  unfold PySem.W.nsIn at e
  split at e
  · rename_i c d es' n' sl q
    have z := X _ _ q
    rw [ho] at z
    cases z
    cases hd
    split at e
    · rename_i en he
      cases e
      rw [← hf]
      unfold nsFind findBy
      rw [← Array.find?_toList, he]
      rfl
    · split at e <;> cases e
  · cases e
structure EqF (K : PySem.W.Frag) (C f : Addr) : Prop where
  e1 : PySem.W.findIn K (.ref C) "__eq__" = some (some (.ref f))
  fn : PySem.W.isFn K (.ref f) = true
  tf : ∃ of, K.lookup f = some of ∧ of.cls = .type "function"
  ne : ∃ nm q N bs sn sub col dd k0 k1 k2 k3 k5, K.lookup C = some (excClassObj nm q C N bs [.type "object"] true sn sub false col dd k0 k1 k2 k3 k5 "object.__new__") ∧ PySem.W.nsOkIn K N = true ∧ PySem.W.nsIn K N "__eq__" = some (some (.ref f)) ∧ PySem.W.nsIn K N "__ne__" = some none
def rEqO (K : PySem.W.Frag) (C : Addr) (neg : Bool) (sp : Sp) : R2 := fun x y H Q => ∃ a b dx dy fs gs, x = .ref a ∧ y = .ref b ∧ H a = some (.ins C dx fs) ∧ H b = some (.ins C dy gs) ∧ sp [x, y] H (fun v H' => ∃ k, v = .bl k ∧ Q (.bl (if neg then !k else k)) H') E0
section
variable {X : Cx} {cl : Nat → Addr} {W : WX} {a b : Expr} {pos : Pos} {fa fb : Ev}
theorem run_eqO {k : Nat} {f : Addr} {fd : FuncData} {ps : List Str} {sp : Sp} {pins : List (Addr × Obj)} {s : Shared} {σ : S} {H : Hp} {p q : Addr} {R : VK} {A : Around} (F : FnOk X.prog X.w X.K X.mg X.base (L2.CX X.prog X.w) k f fd ps sp) (hb : Binds X.K fd ps []) (hr : Room k A) (hf : A.frames = X.A.frames) (I : Inv X pins σ H s) (h : sp [.ref p, .ref q] H R E0) :
    wpAny (model X.prog X.w) A (call (.ref f) [.ref p, .ref q]) (EP X pins σ R) X.xe s := by
  have e0 : Env0 X.prog X.w X.K X.mg X.base A X.stack s H := by
    have e := I.env0
    exact ⟨by rw [hf]; exact e.frames, e.mod, e.bs, e.bsz, e.funs, e.frf, e.hok, e.bare⟩
  have hl := F.len _ _ _ _ h
  have hb2 := hb s [.ref p, .ref q] I.kIn (by simpa using hl)
  rw [List.append_nil] at hb2
  have r2 : Vals [V.ref p, V.ref q] [Value.ref p, Value.ref q] := .cons rfl (.cons rfl .nil)
  refine wpAny_call (codeAny_mono (F.run A X.stack s H ⟨[.ref p, .ref q], []⟩ [.ref p, .ref q] [.ref p, .ref q] R E0 hr e0 hb2 r2 h) fun r s' hq => ?_)
  cases r with
  | error e => exact passL pins σ H s e s' I hq
  | ok fl =>
    cases fl with
    | ret u => exact I.after hq
    | next => exact False.elim hq
    | brk => exact False.elim hq
    | cont => exact False.elim hq
theorem op_eqO {C f : Addr} {k m : Nat} {fd : FuncData} {ps : List Str} {sp : Sp} (E : EqF X.K C f) (F : FnOk X.prog X.w X.K X.mg X.base (L2.CX X.prog X.w) k f fd ps sp) (hb : Binds X.K fd ps []) (hr : Room m X.A) (hk : k ≤ m) : OpR X (compareOp .Eq) (rEqO X.K C false sp) := by
  intro pins s σ H x y v u Q I rx ry h
  obtain ⟨p, q, dx, dy, fs, gs, rfl, rfl, ha, hbb, hsp⟩ := h
  cases rx
  cases ry
  show wpAny (model X.prog X.w) X.A (richCompare .Eq (.ref p) (.ref q)) (EP X pins σ Q) X.xe s
  obtain ⟨mA, J, _⟩ := ins_get I.hok ha
  obtain ⟨mB, J', _⟩ := ins_get I.hok hbb
  obtain ⟨od, J, _⟩ := J.look
  obtain ⟨od', J', _⟩ := J'.look
  obtain ⟨m', hF⟩ := I.fr
  refine PySem.W.cmp_K (op := .Eq) (tb := .ref C) hr.units0 hF I.ok.mod.kin J J'.type (by simp [PySem.W.notFirst]) E.e1 E.fn ?_
  refine thn (run_eqO F hb (hr.mono hk) rfl I hsp) fun w s' ⟨z, H', I', rz, kk, ez, q⟩ => ?_
  subst ez
  cases rz
  exact ⟨.bl kk, H', I', rfl, q⟩
theorem op_neO {C f : Addr} {k m : Nat} {fd : FuncData} {ps : List Str} {sp : Sp} (E : EqF X.K C f) (F : FnOk X.prog X.w X.K X.mg X.base (L2.CX X.prog X.w) k f fd ps sp) (hb : Binds X.K fd ps []) (hr : Room m X.A) (hk : k + 1 ≤ m) : OpR X (compareOp .NotEq) (rEqO X.K C true sp) := by
  intro pins s σ H x y v u Q I rx ry h
  obtain ⟨p, q, dx, dy, fs, gs, rfl, rfl, ha, hbb, hsp⟩ := h
  cases rx
  cases ry
  obtain ⟨nm, qn, N, bs, sn, sub, col, dd, k0, k1, k2, k3, k5, hC, hN, h1, h2⟩ := E.ne
  obtain ⟨of, hof, hoc⟩ := E.tf
  have hx : ObjOk X.prog X.w H s.heap p (.ins C dx fs) := I.hok p _ ha
  have hy : ObjOk X.prog X.w H s.heap q (.ins C dy gs) := I.hok q _ hbb
  obtain ⟨_, _, _, hpx, _⟩ := hx
  obtain ⟨_, _, _, hpy, _⟩ := hy
  have G := Heap.Ns.of_isNs (PySem.W.isNs_of_in I.kIn hN)
  have Y : s.heap.OwnEqNoNe p C f "object" [.type "object"] := ⟨_, of, nm, qn, N, bs, true, sn, sub, false, col, dd, k0, k1, k2, k3, k5, "object.__new__", _, _, hpx, rfl, I.kIn _ _ hC, G, ns_some_of I.kIn G h1, I.kIn _ _ hof, hoc, PySem.F.mro_object, PySem.F.cmp_object.eq.lookup, PySem.W.ns_none_of I.kIn G h2⟩
  obtain ⟨hh, g, d, t, os⟩ := s
  refine PySem.compareOp_ne_ownEq PySem.F.cmp_object Y hpy rfl (by have := hr.units; omega) ?_
  refine thn (run_eqO F hb (hr.mono hk).in1 rfl I hsp) fun w s' ⟨z, H', I', rz, kk, ez, q⟩ => ?_
  subst ez
  cases rz
  exact ⟨kk, rfl, .bl (!kk), H', I', rfl, q⟩
def fCmpO (neg : Bool) (n : Nat) (h : List D → Rf) (fa fb : Ev) : Ev := fun env => (fa env).bind fun x env1 => (fb env1).bind fun y env2 => match D.tag x, D.tag y, h [x, y] with
  | some (.cl i), some (.cl j), .ret (.bl k) [] => if i = n ∧ j = n then .ok (.bl (if neg then !k else k)) env2 else .stuck
  | _, _, _ => .stuck
theorem tag_cl {K : PySem.W.Frag} {M H} {d : D} {i : Nat} {v : V} {f : List Addr} (h : Dat K cl M H d v f) (e : D.tag d = some (.cl i)) : ∃ a dx fs, v = .ref a ∧ H a = some (.ins (cl i) dx fs) := by
  cases d with
  | obj m c ns ds =>
    cases e
    obtain ⟨a, dx, vs, g, rfl, t, _⟩ := h
    exact ⟨a, dx, _, rfl, t⟩
  | _ => simp [D.tag] at e
theorem rd_cmpO {K : PySem.W.Frag} {neg : Bool} {n : Nat} {h : List D → Rf} {σ : S} {H : Hp} {Q : VK} (q : tE K cl W (fCmpO neg n h fa fb) σ H Q) : tOp (rEqO K (cl n) neg (spD K cl 2 [] h)) (tE K cl W fa) (tE K cl W fb) σ H Q := by
  obtain ⟨τ, κ, env, r, l, q⟩ := q
  refine tE_bind r l q fun x env1 v H1 h1 r1 => tE_bind1 (A := [some x]) (Y := [some v]) rfl r1 l h1 fun y env2 w H2 h2 r2 => ?_
  have r3 : Rel K cl H2 (List.map some [x, y] ++ (κ ++ env2)) (List.map some [v, w] ++ (τ ++ σ)) := Rel.swap3 (A := [some y]) (X := [some w]) (B := [some x]) (Y := [some v]) r2 rfl rfl
  obtain ⟨M, f, hh⟩ := r3.heads rfl
  obtain ⟨f1, f2, _, d1, d2⟩ := dats2 hh
  cases e1 : D.tag x with
  | none => simp only [e1] at h2; exact h2.elim
  | some t1 =>
    cases t1 with
    | ty _ => simp only [e1] at h2; exact h2.elim
    | cl i =>
      cases e2 : D.tag y with
      | none => simp only [e1, e2] at h2; exact h2.elim
      | some t2 =>
        cases t2 with
        | ty _ => simp only [e1, e2] at h2; exact h2.elim
        | cl j =>
          cases e3 : h [x, y] with
          | stuck => simp only [e1, e2, e3] at h2; exact h2.elim
          | exc _ _ _ _ => simp only [e1, e2, e3] at h2; exact h2.elim
          | ret d ios =>
            cases d with
            | bl k =>
              cases ios with
              | cons _ _ => simp only [e1, e2, e3] at h2; exact h2.elim
              | nil =>
                simp only [e1, e2, e3] at h2
                by_cases c : i = n ∧ j = n
                · rw [if_pos c] at h2
                  obtain ⟨rfl, rfl⟩ := c
                  obtain ⟨p, dx, fs, rfl, t1⟩ := tag_cl d1 e1
                  obtain ⟨q', dy, gs, rfl, t2⟩ := tag_cl d2 e2
                  refine ⟨p, q', dx, dy, fs, gs, rfl, rfl, t1, t2, rfl, τ ++ σ, κ ++ env2, [x, y], rfl, ?_, r3, ?_⟩
                  · have z := r3.len
                    simp only [List.length_append, List.length_map, List.length_cons, List.length_nil] at z ⊢
                    omega
                  · rw [e3]
                    intro v H3 us eu r4
                    obtain ⟨M, f, hv⟩ := Rel.head r4
                    cases us with
                    | cons _ _ => simp at eu
                    | nil => exact ⟨k, hv.1, h2 _ _ ((Rel.pop r4).push fun M => dbl)⟩
                · rw [if_neg c] at h2; exact h2.elim
            | _ => simp only [e1, e2, e3] at h2; exact h2.elim
/-- a method of a class -/
def FnM (P : Program) (w : World) (K : PySem.W.Frag) (mg : Str → Option Value) (base : Heap) (cl : Nat → Addr) (f : Addr) (k n : Nat) (io : List Nat) (h : List D → Rf) : Prop :=
  ∃ fd ps, Binds K fd ps [] ∧ FnOk P w K mg base (L2.CX P w) k f fd ps (spD K cl n io h)
theorem j_eqO {n k m : Nat} {h : List D → Rf} (hE : ∃ f, EqF X.K (cl n) f ∧ FnM X.prog X.w X.K X.mg X.base cl f k 2 [] h) (hr : Room m X.A) (hk : k ≤ m) (ha : PE X a (tE X.K cl W fa)) (hb : PE X b (tE X.K cl W fb)) : PE X (.Compare a [.Eq] [b] pos) (tE X.K cl W (fCmpO false n h fa fb)) := by
  obtain ⟨f, E, fd, ps, bd, F⟩ := hE
  exact PE.imp (pe_cmpR (op_eqO E F bd hr hk) ha hb (nomark _)) fun σ H Q q => rd_cmpO q
theorem j_neO {n k m : Nat} {h : List D → Rf} (hE : ∃ f, EqF X.K (cl n) f ∧ FnM X.prog X.w X.K X.mg X.base cl f k 2 [] h) (hr : Room m X.A) (hk : k + 1 ≤ m) (ha : PE X a (tE X.K cl W fa)) (hb : PE X b (tE X.K cl W fb)) : PE X (.Compare a [.NotEq] [b] pos) (tE X.K cl W (fCmpO true n h fa fb)) := by
  obtain ⟨f, E, fd, ps, bd, F⟩ := hE
  exact PE.imp (pe_cmpR (op_neO E F bd hr hk) ha hb (nomark _)) fun σ H Q q => rd_cmpO q
theorem cmpO_bl {neg : Bool} {n : Nat} {h : List D → Rf} {env env' : Tw.Env} {d : D} (e : fCmpO neg n h fa fb env = .ok d env') : ∃ k, d = .bl k := by
  unfold fCmpO at e
  cases e1 : fa env with
  | stuck => rw [e1] at e; cases e
  | exc _ _ _ _ => rw [e1] at e; cases e
  | ok x env1 =>
    rw [e1, Rs.bind_ok] at e
    cases e2 : fb env1 with
    | stuck => rw [e2] at e; cases e
    | exc _ _ _ _ => rw [e2] at e; cases e
    | ok y env2 =>
      rw [e2, Rs.bind_ok] at e
      split at e
      · split at e
        · cases e; exact ⟨_, rfl⟩
        · cases e
      · cases e
theorem t_of {e : Expr} {f : Ev} {t : TE} (hp : PT X e (tTest t)) (hr : ∀ σ H Q, tE X.K cl W f σ H Q → t σ H Q) (hbl : ∀ env env' d, f env = .ok d env' → ∃ k, d = .bl k) : PT X e (tT X.K cl W (bE f)) := PT.imp hp fun σ H Q ⟨τ, κ, env, r, l, q⟩ => by
  refine hr _ _ _ ⟨τ, κ, env, r, l, ?_⟩
  unfold bE at q
  cases e1 : f env with
  | ok d env1 =>
    rw [e1] at q
    obtain ⟨k, rfl⟩ := hbl _ _ _ e1
    intro v H' r2
    obtain ⟨M, f', hd⟩ := r2.head
    exact ⟨k, hd.1, q H' r2.pop⟩
  | exc _ _ _ _ => rw [e1] at q; exact q
  | stuck => rw [e1] at q; exact q
theorem t_eqO {n k m : Nat} {h : List D → Rf} (hE : ∃ f, EqF X.K (cl n) f ∧ FnM X.prog X.w X.K X.mg X.base cl f k 2 [] h) (hr : Room m X.A) (hk : k ≤ m) (ha : PE X a (tE X.K cl W fa)) (hb : PE X b (tE X.K cl W fb)) : PT X (.Compare a [.Eq] [b] pos) (tT X.K cl W (bE (fCmpO false n h fa fb))) := by
  obtain ⟨f, E, fd, ps, bd, F⟩ := hE
  exact t_of (pt_cmpR (op_eqO E F bd hr hk) ha hb (nomark _)) (fun σ H Q q => rd_cmpO q) fun _ _ _ z => cmpO_bl z
theorem t_neO {n k m : Nat} {h : List D → Rf} (hE : ∃ f, EqF X.K (cl n) f ∧ FnM X.prog X.w X.K X.mg X.base cl f k 2 [] h) (hr : Room m X.A) (hk : k + 1 ≤ m) (ha : PE X a (tE X.K cl W fa)) (hb : PE X b (tE X.K cl W fb)) : PT X (.Compare a [.NotEq] [b] pos) (tT X.K cl W (bE (fCmpO true n h fa fb))) := by
  obtain ⟨f, E, fd, ps, bd, F⟩ := hE
  exact t_of (pt_cmpR (op_neO E F bd hr hk) ha hb (nomark _)) (fun σ H Q q => rd_cmpO q) fun _ _ _ z => cmpO_bl z
end
section
variable {P : Program} {w : World} {K : PySem.W.Frag} {mg : Str → Option Value} {base : Heap} {cl : Nat → Addr}
/-- as def_ok, for a method -/
theorem meth_ok {x qual : Str} {st : Stmt} {f : Addr} {fd : FuncData} {N ps : List Str} {k : Nat} {io : List Nat} {g : Sv} (F : Fun K x qual st f fd) (Sc : FnScope N ps (defScope st)) (hb : Binds K fd ps []) (hnd : io.Nodup) (hio : ∀ i ∈ io, i < ps.length) (hps : ps.length ≤ N.length)
    (hbody : ∀ (cdv : Value) (A : Around) (outer : List PySem.Env) (s : Shared) (H : Hp) (E : XK), Room k (A.deeper (envOfC qual (defScope st) s.heap.objs.size f cdv)) →
      Takes (cxOf (L2.CX P w) P w K mg base N qual (defScope st) f cdv A outer s H E) (fun cls dd _ H' => E cls dd H') → PassesOwn (model P w) (A.deeper (envOfC qual (defScope st) s.heap.objs.size f cdv)) (envOfC qual (defScope st) s.heap.objs.size f cdv) (cxOf (L2.CX P w) P w K mg base N qual (defScope st) f cdv A outer s H E).xe →
      PSs (cxOf (L2.CX P w) P w K mg base N qual (defScope st) f cdv A outer s H E) (defBody st) (tS K cl (fun cls dd _ H' => E cls dd H') io g)) :
    FnM P w K mg base cl f (k + 1) ps.length io (runB N.length io g) := by
  have key := def_okF (cl := cl) (mg := mg) (base := base) (P := P) (w := w) F Sc hnd hio hps hbody
  exact ⟨fd, ps, hb, key⟩
end
end Tw
noncomputable section
namespace Tw
open PySem PySem.Spec PyProof.Rows L2
/-! ### what is told of the text -/
def Tg.same : Tg → Tg → Bool
  | .ty a, .ty b => decide (a = b)
  | .cl a, .cl b => decide (a = b)
  | _, _ => false
theorem Tg.same_eq {a b : Tg} (h : Tg.same a b = true) : a = b := by
  cases a <;> cases b <;> simp [Tg.same] at h <;> simp [h]
def isaBy (l : List (Tg × Tg × Bool)) (t u : Tg) : Option Bool := (l.find? fun z => Tg.same z.1 t && Tg.same z.2.1 u).map (·.2.2)
theorem isaBy_mem {l : List (Tg × Tg × Bool)} {t u : Tg} {b : Bool} (h : isaBy l t u = some b) : (t, u, b) ∈ l := by
  unfold isaBy at h
  rw [Option.map_eq_some_iff] at h
  obtain ⟨z, h1, rfl⟩ := h
  have h2 := List.find?_some h1
  have h3 := List.mem_of_find?_eq_some h1
  rw [Bool.and_eq_true] at h2
  rw [← Tg.same_eq h2.1, ← Tg.same_eq h2.2]
  exact h3
theorem isaOk_of {K : PySem.W.Frag} {cl : Nat → Addr} {l : List (Tg × Tg × Bool)} (h : ∀ z ∈ l, PySem.W.kitOne K (tgV cl z.1) (tgV cl z.2.1) = some z.2.2) (h2 : ∀ c u b, (Tg.cl c, u, b) ∈ l → ClsF K (cl c)) : IsaOk K cl (isaBy l) :=
  ⟨fun t u b e => h _ (isaBy_mem e), fun c u b e => h2 c u b (isaBy_mem e)⟩
/-- where the own classes lie -/
def clOf (K : PySem.W.Frag) (ns : List Str) (i : Nat) : Addr := match ns[i]? with
  | some x => match PySem.W.nsIn K mainGlobals x with
    | some (some (.ref a)) => a
    | _ => 0
  | none => 0
theorem clOf_eq {K : PySem.W.Frag} {ns : List Str} {i : Nat} {x : Str} {a : Addr} (e : ns[i]? = some x) (h : PySem.W.nsIn K mainGlobals x = some (some (.ref a))) : clOf K ns i = a := by
  unfold clOf
  rw [e]
  simp only [h]
/-- a def of the top -/
def IsFn (K : PySem.W.Frag) (mg : Str → Option Value) (x qual : Str) (st : Stmt) (ps : List Str) : Prop := ∃ f fd, mg x = some (.ref f) ∧ Fun K x qual st f fd ∧ Binds K fd ps []
/-- a method -/
def IsM (K : PySem.W.Frag) (f : Addr) (x qual : Str) (st : Stmt) (ps : List Str) : Prop := ∃ fd, Fun K x qual st f fd ∧ Binds K fd ps []
/-- what the law's script is -/
theorem scr_rel {K : PySem.W.Frag} {cl : Nat → Addr} {H : Hp} {a : Addr} {ns : List Int} (h : SqL K H a (ns.map V.int)) : Rel K cl H [some (.scr ns)] [some (.ref a)] :=
  ⟨[], .nil, .ref a, [], [], [], rfl, rfl, ⟨rfl, a, rfl, h.elim (fun z => .inl ⟨z, by simp⟩) .inr⟩, rfl, rfl⟩
theorem law_sp {K : PySem.W.Frag} {cl : Nat → Addr} {h : List D → Rf} {H : Hp} {a : Addr} {ns : List Int} (e : h [.scr ns] = .ret (.bl true) []) (hS : SqL K H a (ns.map V.int)) : spD K cl 1 [] h [.ref a] H (fun v _ => v = .bl true) fun _ _ _ => False := by
  refine ⟨rfl, [], [], [.scr ns], rfl, rfl, scr_rel hS, ?_⟩
  rw [e]
  intro v H' us _ r
  obtain ⟨M, f, hd⟩ := Rel.head r
  exact hd.1
end Tw
noncomputable section
namespace Tw
open PySem PySem.Spec PyProof.Rows L2
/-! ### reckoning with what a text computes: each word at an environment -/
def varR (i : Nat) (env : Tw.Env) : Option (Option D) → Rs D
  | some (some d) => .ok (D.frz d) (env.set i (some (D.frz d)))
  | _ => .stuck
theorem e_var (i : Nat) (env : Tw.Env) : fVar i env = varR i env env[i]? := by unfold fVar varR; split <;> simp_all
theorem e_varR (i : Nat) (env : Tw.Env) (d : D) : varR i env (some (some d)) = .ok (D.frz d) (env.set i (some (D.frz d))) := (rfl)
def moveR (i : Nat) (env : Tw.Env) : Option (Option D) → Rs D
  | some (some d) => .ok d (env.set i none)
  | _ => .stuck
theorem e_move (i : Nat) (env : Tw.Env) : fMove i env = moveR i env env[i]? := by unfold fMove moveR; split <;> simp_all
theorem e_moveR (i : Nat) (env : Tw.Env) (d : D) : moveR i env (some (some d)) = .ok d (env.set i none) := (rfl)
theorem e_K (d : D) (env : Tw.Env) : fK d env = .ok d env := (rfl)
theorem e_nil (env : Tw.Env) : evs [] env = .ok [] env := (rfl)
def k_val2 (d : D) : List D → Tw.Env → Rs (List D) := fun ds env2 => .ok (d :: ds) env2
theorem e_kval2 (d : D) (ds : List D) (env2 : Tw.Env) : k_val2 d ds env2 = .ok (d :: ds) env2 := (rfl)
def k_val (os : List Opd) : D → Tw.Env → Rs (List D) := fun d env1 => (evs os env1).bind (k_val2 d)
theorem e_kval (os : List Opd) (d : D) (env1 : Tw.Env) : k_val os d env1 = (evs os env1).bind (k_val2 d) := (rfl)
theorem e_val (f : Ev) (os : List Opd) (env : Tw.Env) : evs (.val f :: os) env = (f env).bind (k_val os) := (rfl)
def slotR (os : List Opd) (env : Tw.Env) : Option (Option D) → Rs (List D)
  | some (some _) => evs os env
  | _ => .stuck
theorem e_slot (i : Nat) (os : List Opd) (env : Tw.Env) : evs (.slot i :: os) env = slotR os env env[i]? := by
  unfold evs slotR
  split <;> simp_all
theorem e_slotR (os : List Opd) (env : Tw.Env) (d : D) : slotR os env (some (some d)) = evs os env := (rfl)
theorem e_gnil (env : Tw.Env) : gat [] [] env = some ([], env) := (rfl)
def gvR (d : D) : Option (List D × Tw.Env) → Option (List D × Tw.Env)
  | some p => some (d :: p.1, p.2)
  | none => none
theorem e_gval (f : Ev) (os : List Opd) (d : D) (ds : List D) (env : Tw.Env) : gat (.val f :: os) (d :: ds) env = gvR d (gat os ds env) := by
  show Option.map _ _ = _
  cases gat os ds env <;> rfl
theorem e_gvR (d : D) (p : List D × Tw.Env) : gvR d (some p) = some (d :: p.1, p.2) := (rfl)
def gsR (i : Nat) (os : List Opd) (ds : List D) (env : Tw.Env) : Option (Option D) → Option (List D × Tw.Env)
  | some (some d) => gvR d (gat os ds (env.set i none))
  | _ => none
theorem e_gslot (i : Nat) (os : List Opd) (ds : List D) (env : Tw.Env) : gat (.slot i :: os) ds env = gsR i os ds env env[i]? := by
  show (match env[i]? with | some (some d) => (gat os ds (env.set i none)).map fun p => (d :: p.1, p.2) | _ => none) = gsR i os ds env env[i]?
  cases env[i]? with
  | none => rfl
  | some o => cases o with
    | none => rfl
    | some d =>
      show Option.map _ _ = gvR d (gat os ds (env.set i none))
      cases gat os ds (env.set i none) <;> rfl
theorem e_gsR (i : Nat) (os : List Opd) (ds : List D) (env : Tw.Env) (d : D) : gsR i os ds env (some (some d)) = gvR d (gat os ds (env.set i none)) := (rfl)
def gR (env : Tw.Env) : Option D → Rs D
  | some d => .ok d env
  | none => .stuck
theorem e_gR (env : Tw.Env) (d : D) : gR env (some d) = .ok d env := (rfl)
def gpR (g : List D → Option D) (env : Tw.Env) : Option (List D × Tw.Env) → Rs D
  | some p => gR env (g p.1)
  | none => .stuck
theorem e_gpR (g : List D → Option D) (env : Tw.Env) (p : List D × Tw.Env) : gpR g env (some p) = gR env (g p.1) := (rfl)
def k_N (g : List D → Option D) (os : List Opd) : List D → Tw.Env → Rs D := fun ds env1 => gpR g env1 (gat os ds env1)
theorem e_kN (g : List D → Option D) (os : List Opd) (ds : List D) (env1 : Tw.Env) : k_N g os ds env1 = gpR g env1 (gat os ds env1) := (rfl)
theorem e_N (g : List D → Option D) (os : List Opd) (env : Tw.Env) : fN g os env = (evs os env).bind (k_N g os) := by
  unfold fN
  refine congrArg _ (funext fun ds => funext fun env1 => ?_)
  show _ = gpR g env1 (gat os ds env1)
  cases gat os ds env1 with
  | none => rfl
  | some p => show (match g p.1 with | some d => Rs.ok d env1 | none => .stuck) = gR env1 (g p.1); cases g p.1 <;> rfl
theorem e_vals0 : vals [] = [] := (rfl)
theorem e_vals1 (f : Ev) (fs : List Ev) : vals (f :: fs) = .val f :: vals fs := (rfl)
def k_tup  : List D → Tw.Env → Rs D := fun ds env1 => .ok (.tup ds) env1
theorem e_ktup  (ds : List D) (env1 : Tw.Env) : k_tup  ds env1 = .ok (.tup ds) env1 := (rfl)
theorem e_tup (fs : List Ev) (env : Tw.Env) : fTup fs env = (evs (vals fs) env).bind k_tup := (rfl)
def k_lst  : List D → Tw.Env → Rs D := fun ds env1 => .ok (.lst true ds) env1
theorem e_klst  (ds : List D) (env1 : Tw.Env) : k_lst  ds env1 = .ok (.lst true ds) env1 := (rfl)
theorem e_lst (fs : List Ev) (env : Tw.Env) : fLst fs env = (evs (vals fs) env).bind k_lst := (rfl)
def andR (g : Ev) (d : D) (env : Tw.Env) : Option Bool → Rs D
  | some true => g env
  | some false => .ok d env
  | none => .stuck
def k_and (g : Ev) : D → Tw.Env → Rs D := fun d env1 => andR g d env1 (D.tru d)
theorem e_kand (g : Ev) (d : D) (env1 : Tw.Env) : k_and g d env1 = andR g d env1 (D.tru d) := (rfl)
theorem e_and (f g : Ev) (env : Tw.Env) : fAnd f g env = (f env).bind (k_and g) := (rfl)
theorem e_andT (g : Ev) (d : D) (env : Tw.Env) : andR g d env (some true) = g env := (rfl)
theorem e_andF (g : Ev) (d : D) (env : Tw.Env) : andR g d env (some false) = .ok d env := (rfl)
def orR (g : Ev) (d : D) (env : Tw.Env) : Option Bool → Rs D
  | some false => g env
  | some true => .ok d env
  | none => .stuck
def k_or (g : Ev) : D → Tw.Env → Rs D := fun d env1 => orR g d env1 (D.tru d)
theorem e_kor (g : Ev) (d : D) (env1 : Tw.Env) : k_or g d env1 = orR g d env1 (D.tru d) := (rfl)
theorem e_or (f g : Ev) (env : Tw.Env) : fOr f g env = (f env).bind (k_or g) := (rfl)
theorem e_orT (g : Ev) (d : D) (env : Tw.Env) : orR g d env (some true) = .ok d env := (rfl)
theorem e_orF (g : Ev) (d : D) (env : Tw.Env) : orR g d env (some false) = g env := (rfl)
def notR (env : Tw.Env) : Option Bool → Rs D
  | some k => .ok (.bl (!k)) env
  | none => .stuck
def k_not  : D → Tw.Env → Rs D := fun d env1 => notR env1 (D.tru d)
theorem e_knot  (d : D) (env1 : Tw.Env) : k_not  d env1 = notR env1 (D.tru d) := (rfl)
theorem e_not (f : Ev) (env : Tw.Env) : fNot f env = (f env).bind k_not := (rfl)
theorem e_notR (env : Tw.Env) (k : Bool) : notR env (some k) = .ok (.bl (!k)) env := (rfl)
def bR (env : Tw.Env) : Option Bool → Rs Bool
  | some k => .ok k env
  | none => .stuck
def k_bE  : D → Tw.Env → Rs Bool := fun d env1 => bR env1 (D.tru d)
theorem e_kbE  (d : D) (env1 : Tw.Env) : k_bE  d env1 = bR env1 (D.tru d) := (rfl)
theorem e_bE (f : Ev) (env : Tw.Env) : bE f env = (f env).bind k_bE := (rfl)
theorem e_bR (env : Tw.Env) (k : Bool) : bR env (some k) = .ok k env := (rfl)
def k_bAnd (g : EvB) : Bool → Tw.Env → Rs Bool := fun k env1 => if k = true then g env1 else .ok false env1
theorem e_kbAnd (g : EvB) (k : Bool) (env1 : Tw.Env) : k_bAnd g k env1 = if k = true then g env1 else .ok false env1 := (rfl)
theorem e_bAnd (f g : EvB) (env : Tw.Env) : bAnd f g env = (f env).bind (k_bAnd g) := (rfl)
def k_bOr (g : EvB) : Bool → Tw.Env → Rs Bool := fun k env1 => if k = true then .ok true env1 else g env1
theorem e_kbOr (g : EvB) (k : Bool) (env1 : Tw.Env) : k_bOr g k env1 = if k = true then .ok true env1 else g env1 := (rfl)
theorem e_bOr (f g : EvB) (env : Tw.Env) : bOr f g env = (f env).bind (k_bOr g) := (rfl)
def k_bNot  : Bool → Tw.Env → Rs Bool := fun k env1 => .ok (!k) env1
theorem e_kbNot  (k : Bool) (env1 : Tw.Env) : k_bNot  k env1 = .ok (!k) env1 := (rfl)
theorem e_bNot (f : EvB) (env : Tw.Env) : bNot f env = (f env).bind k_bNot := (rfl)
theorem e_bTrue (env : Tw.Env) : bTrue env = .ok true env := (rfl)
def k_if (f g : Ev) : Bool → Tw.Env → Rs D := fun k env1 => if k = true then f env1 else g env1
theorem e_kif (f g : Ev) (k : Bool) (env1 : Tw.Env) : k_if f g k env1 = if k = true then f env1 else g env1 := (rfl)
theorem e_if (t : EvB) (f g : Ev) (env : Tw.Env) : fIf t f g env = (t env).bind (k_if f g) := (rfl)
def chR2 (env : Tw.Env) : Option D → Rs D
  | some d => .ok d env
  | none => .stuck
theorem e_chR2 (env : Tw.Env) (d : D) : chR2 env (some d) = .ok d env := (rfl)
def chR (g' : List D → Option D) (fc : Ev) (y : D) (env : Tw.Env) : Option D → Rs D
  | some (.bl true) => (fc env).bind fun z env3 => chR2 env3 (g' [y, z])
  | some (.bl false) => .ok (.bl false) env
  | _ => .stuck
def k_chRT (g' : List D → Option D) (y : D) : D → Tw.Env → Rs D := fun z env3 => chR2 env3 (g' [y, z])
theorem e_kchRT (g' : List D → Option D) (y z : D) (env3 : Tw.Env) : k_chRT g' y z env3 = chR2 env3 (g' [y, z]) := (rfl)
theorem e_chRT (g' : List D → Option D) (fc : Ev) (y : D) (env : Tw.Env) : chR g' fc y env (some (.bl true)) = (fc env).bind (k_chRT g' y) := (rfl)
theorem e_chRF (g' : List D → Option D) (fc : Ev) (y : D) (env : Tw.Env) : chR g' fc y env (some (.bl false)) = .ok (.bl false) env := (rfl)
def k_chain2 (g g' : List D → Option D) (fc : Ev) (x : D) : D → Tw.Env → Rs D := fun y env2 => chR g' fc y env2 (g [x, y])
theorem e_kchain2 (g g' : List D → Option D) (fc : Ev) (x y : D) (env2 : Tw.Env) : k_chain2 g g' fc x y env2 = chR g' fc y env2 (g [x, y]) := (rfl)
def k_chain (g g' : List D → Option D) (fb fc : Ev) : D → Tw.Env → Rs D := fun x env1 => (fb env1).bind (k_chain2 g g' fc x)
theorem e_kchain (g g' : List D → Option D) (fb fc : Ev) (x : D) (env1 : Tw.Env) : k_chain g g' fb fc x env1 = (fb env1).bind (k_chain2 g g' fc x) := (rfl)
theorem e_chain (g g' : List D → Option D) (fa fb fc : Ev) (env : Tw.Env) : fChain g g' fa fb fc env = (fa env).bind (k_chain g g' fb fc) := by
  unfold fChain
  refine congrArg _ (funext fun x => funext fun env1 => ?_)
  show Rs.bind (fb env1) _ = Rs.bind (fb env1) _
  refine congrArg _ (funext fun y => funext fun env2 => ?_)
  show _ = chR g' fc y env2 (g [x, y])
  cases g [x, y] with
  | none => rfl
  | some d => cases d with
    | bl b => cases b with
      | true =>
        show Rs.bind (fc env2) _ = Rs.bind (fc env2) _
        refine congrArg _ (funext fun z => funext fun env3 => ?_)
        show _ = chR2 env3 (g' [y, z])
        cases g' [y, z] <;> rfl
      | false => rfl
    | _ => rfl
theorem e_part0 (env : Tw.Env) : fPart none env = .ok none env := (rfl)
def partR (env : Tw.Env) : Option Int → Rs (Option Int)
  | some i => .ok (some i) env
  | none => .stuck
def k_part  : D → Tw.Env → Rs (Option Int) := fun d env1 => partR env1 (D.asI d)
theorem e_kpart  (d : D) (env1 : Tw.Env) : k_part  d env1 = partR env1 (D.asI d) := (rfl)
theorem e_part (f : Ev) (env : Tw.Env) : fPart (some f) env = (f env).bind k_part := (rfl)
theorem e_partR (env : Tw.Env) (i : Int) : partR env (some i) = .ok (some i) env := (rfl)
def k_sl3 (d : D) (l : Option Int) : Option Int → Tw.Env → Rs D := fun h env3 => gR env3 (gSl d l h)
theorem e_ksl3 (d : D) (l h : Option Int) (env3 : Tw.Env) : k_sl3 d l h env3 = gR env3 (gSl d l h) := (rfl)
def k_sl2 (d : D) (hi : Option Ev) : Option Int → Tw.Env → Rs D := fun l env2 => (fPart hi env2).bind (k_sl3 d l)
theorem e_ksl2 (d : D) (hi : Option Ev) (l : Option Int) (env2 : Tw.Env) : k_sl2 d hi l env2 = (fPart hi env2).bind (k_sl3 d l) := (rfl)
def k_sl (lo hi : Option Ev) : D → Tw.Env → Rs D := fun d env1 => (fPart lo env1).bind (k_sl2 d hi)
theorem e_ksl (lo hi : Option Ev) (d : D) (env1 : Tw.Env) : k_sl lo hi d env1 = (fPart lo env1).bind (k_sl2 d hi) := (rfl)
theorem e_sl (fa : Ev) (lo hi : Option Ev) (env : Tw.Env) : fSl fa lo hi env = (fa env).bind (k_sl lo hi) := by
  unfold fSl
  refine congrArg _ (funext fun d => funext fun env1 => ?_)
  show Rs.bind _ _ = Rs.bind _ _
  refine congrArg _ (funext fun l => funext fun env2 => ?_)
  show Rs.bind _ _ = Rs.bind _ _
  refine congrArg _ (funext fun h => funext fun env3 => ?_)
  show _ = gR env3 (gSl d l h)
  cases gSl d l h <;> rfl
def k_rev  : D → Tw.Env → Rs D := fun d env1 => gR env1 (gRev d)
theorem e_krev  (d : D) (env1 : Tw.Env) : k_rev  d env1 = gR env1 (gRev d) := (rfl)
theorem e_rev (f : Ev) (env : Tw.Env) : fRev f env = (f env).bind k_rev := by
  unfold fRev
  refine congrArg _ (funext fun d => funext fun env1 => ?_)
  show _ = gR env1 (gRev d)
  cases gRev d <;> rfl
/-! calls -/
def ok1 (d : D) : Option Tw.Env → Rs D
  | some env => .ok d env
  | none => .stuck
def ex1 (c : Nat) (ns : List Str) (es : List D) : Option Tw.Env → Rs D
  | some env => .exc c ns es env
  | none => .stuck
def ioR (os : List Opd) (io : List Nat) (env : Tw.Env) : Rf → Rs D
  | .ret d ios => ok1 d (putIo os io ios env)
  | .exc c ns es ios => ex1 c ns es (putIo os io ios env)
  | .stuck => .stuck
def callR (io : List Nat) (h : List D → Rf) (os : List Opd) : Option (List D × Tw.Env) → Rs D
  | some p => ioR os io p.2 (h p.1)
  | none => .stuck
theorem e_callR (io : List Nat) (h : List D → Rf) (os : List Opd) (p : List D × Tw.Env) : callR io h os (some p) = ioR os io p.2 (h p.1) := (rfl)
def k_call (io : List Nat) (h : List D → Rf) (os : List Opd) : List D → Tw.Env → Rs D := fun ds env1 => callR io h os (gat os ds env1)
theorem e_kcall (io : List Nat) (h : List D → Rf) (os : List Opd) (ds : List D) (env1 : Tw.Env) : k_call io h os ds env1 = callR io h os (gat os ds env1) := (rfl)
theorem e_call (io : List Nat) (h : List D → Rf) (os : List Opd) (env : Tw.Env) : fCall io h os env = (evs os env).bind (k_call io h os) := by
  unfold fCall
  refine congrArg _ (funext fun ds => funext fun env1 => ?_)
  show _ = callR io h os (gat os ds env1)
  cases gat os ds env1 with
  | none => rfl
  | some p =>
    show (match h p.1 with | .ret d ios => _ | .exc c ns es ios => _ | .stuck => _) = ioR os io p.2 (h p.1)
    cases h p.1 with
    | ret d ios => show (match putIo os io ios p.2 with | some e => _ | none => _) = ok1 d (putIo os io ios p.2); cases putIo os io ios p.2 <;> rfl
    | exc c ns es ios => show (match putIo os io ios p.2 with | some e => _ | none => _) = ex1 c ns es (putIo os io ios p.2); cases putIo os io ios p.2 <;> rfl
    | stuck => rfl
theorem e_io0 (os : List Opd) (env : Tw.Env) (d : D) : ioR os [] env (.ret d []) = .ok d env := (rfl)
def io1R (i : D) (d : D) (env : Tw.Env) : Option Opd → Rs D
  | some (.slot j) => .ok d (env.set j (some i))
  | _ => .stuck
theorem e_io1 (os : List Opd) (p : Nat) (env : Tw.Env) (d x : D) : ioR os [p] env (.ret d [x]) = io1R x d env os[p]? := by
  show ok1 d (match os[p]? with | some (.slot i) => _ | _ => none) = io1R x d env os[p]?
  cases os[p]? with
  | none => rfl
  | some o => cases o <;> rfl
theorem e_io1R (x d : D) (env : Tw.Env) (j : Nat) : io1R x d env (some (.slot j)) = .ok d (env.set j (some x)) := (rfl)
/-! statements -/
def seqR (h : Sv) : Out → Out
  | .next env1 => h env1
  | o => o
theorem e_seq (g h : Sv) (env : Tw.Env) : sSeq g h env = seqR h (g env) := by unfold sSeq seqR; cases g env <;> rfl
theorem e_seqN (h : Sv) (env : Tw.Env) : seqR h (.next env) = h env := (rfl)
theorem e_seqR (h : Sv) (d : D) (env : Tw.Env) : seqR h (.ret d env) = .ret d env := (rfl)
theorem e_seqB (h : Sv) (env : Tw.Env) : seqR h (.brk env) = .brk env := (rfl)
theorem e_seqC (h : Sv) (env : Tw.Env) : seqR h (.cont env) = .cont env := (rfl)
theorem e_sNil (env : Tw.Env) : sNil env = .next env := (rfl)
theorem e_sBrk (env : Tw.Env) : sBrk env = .brk env := (rfl)
theorem e_sCont (env : Tw.Env) : sCont env = .cont env := (rfl)
def k_sRet  : D → Tw.Env → Out := fun d env1 => .ret d env1
theorem e_ksRet  (d : D) (env1 : Tw.Env) : k_sRet  d env1 = .ret d env1 := (rfl)
theorem e_sRet (f : Ev) (env : Tw.Env) : sRet f env = sBind (f env) k_sRet := (rfl)
def k_sExpr  : D → Tw.Env → Out := fun _ env1 => .next env1
theorem e_ksExpr (d : D) (env1 : Tw.Env) : k_sExpr d env1 = .next env1 := (rfl)
theorem e_sExpr (f : Ev) (env : Tw.Env) : sExpr f env = sBind (f env) k_sExpr := (rfl)
def k_sIf (g h : Sv) : Bool → Tw.Env → Out := fun k env1 => if k = true then g env1 else h env1
theorem e_ksIf (g h : Sv) (k : Bool) (env1 : Tw.Env) : k_sIf g h k env1 = if k = true then g env1 else h env1 := (rfl)
theorem e_sIf (t : EvB) (g h : Sv) (env : Tw.Env) : sIf t g h env = sBind (t env) (k_sIf g h) := (rfl)
def nxR : Option Tw.Env → Out
  | some env => .next env
  | none => .stuck
theorem e_nxR (env : Tw.Env) : nxR (some env) = .next env := (rfl)
def k_sAsg (bd : Bd) : D → Tw.Env → Out := fun d env1 => nxR (bd d env1)
theorem e_ksAsg (bd : Bd) (d : D) (env1 : Tw.Env) : k_sAsg bd d env1 = nxR (bd d env1) := (rfl)
theorem e_sAsg (bd : Bd) (f : Ev) (env : Tw.Env) : sAsg bd f env = sBind (f env) (k_sAsg bd) := by
  unfold sAsg
  refine congrArg _ (funext fun d => funext fun env1 => ?_)
  show _ = nxR (bd d env1)
  cases bd d env1 <;> rfl
theorem e_bNm (i : Nat) (d : D) (env : Tw.Env) : bNm i d env = if i < env.length then some (env.set i (some d)) else none := (rfl)
def k_sPar2 (i j : Nat) (x : D) : D → Tw.Env → Out := fun y env2 => if i < env2.length ∧ j < env2.length then .next ((env2.set i (some x)).set j (some y)) else .stuck
theorem e_ksPar2 (i j : Nat) (x y : D) (env2 : Tw.Env) : k_sPar2 i j x y env2 = if i < env2.length ∧ j < env2.length then .next ((env2.set i (some x)).set j (some y)) else .stuck := (rfl)
def k_sPar (i j : Nat) (g : Ev) : D → Tw.Env → Out := fun x env1 => sBind (g env1) (k_sPar2 i j x)
theorem e_ksPar (i j : Nat) (g : Ev) (x : D) (env1 : Tw.Env) : k_sPar i j g x env1 = sBind (g env1) (k_sPar2 i j x) := (rfl)
theorem e_sPar (i j : Nat) (f g : Ev) (env : Tw.Env) : sPar i j f g env = sBind (f env) (k_sPar i j g) := (rfl)
def k_sFor (bd : Bd) (body : Sv) : List D → Tw.Env → Out := fun items env1 => forGo bd body items env1
theorem e_ksFor (bd : Bd) (body : Sv) (items : List D) (env1 : Tw.Env) : k_sFor bd body items env1 = forGo bd body items env1 := (rfl)
theorem e_sFor (fi : Tw.Env → Rs (List D)) (bd : Bd) (body : Sv) (env : Tw.Env) : sFor fi bd body env = sBind (fi env) (k_sFor bd body) := (rfl)
def augR (i : Nat) (env : Tw.Env) : Option D → Out
  | some z => if i < env.length then .next (env.set i (some z)) else .stuck
  | none => .stuck
theorem e_augR (i : Nat) (env : Tw.Env) (z : D) : augR i env (some z) = if i < env.length then .next (env.set i (some z)) else .stuck := (rfl)
def k_sAug2 (i : Nat) (g : List D → Option D) (u : D) : D → Tw.Env → Out := fun y env2 => augR i env2 (g [u, y])
theorem e_ksAug2 (i : Nat) (g : List D → Option D) (u y : D) (env2 : Tw.Env) : k_sAug2 i g u y env2 = augR i env2 (g [u, y]) := (rfl)
def k_sAug (i : Nat) (g : List D → Option D) (f : Ev) : D → Tw.Env → Out := fun u env1 => sBind (f env1) (k_sAug2 i g u)
theorem e_ksAug (i : Nat) (g : List D → Option D) (f : Ev) (u : D) (env1 : Tw.Env) : k_sAug i g f u env1 = sBind (f env1) (k_sAug2 i g u) := (rfl)
theorem e_sAug (i : Nat) (g : List D → Option D) (f : Ev) (env : Tw.Env) : sAug i g f env = sBind (fVar i env) (k_sAug i g f) := by
  unfold sAug
  refine congrArg _ (funext fun u => funext fun env1 => ?_)
  show sBind _ _ = sBind _ _
  refine congrArg _ (funext fun y => funext fun env2 => ?_)
  show _ = augR i env2 (g [u, y])
  cases g [u, y] <;> rfl
def ownR : Option (Option D) → Option (List D)
  | some (some (.lst true xs)) => some xs
  | _ => none
theorem e_own (env : Tw.Env) (i : Nat) : ownAt env i = ownR env[i]? := by
  unfold ownAt ownR
  cases env[i]? with
  | none => rfl
  | some o => cases o with
    | none => rfl
    | some d => cases d with
      | lst m xs => cases m <;> rfl
      | _ => rfl
theorem e_ownR (xs : List D) : ownR (some (some (.lst true xs))) = some xs := (rfl)
def stR2 (i : Nat) (env : Tw.Env) (xs : List D) (d : D) : Option Nat → Out
  | some j => .next (env.set i (some (.lst true (xs.set j d))))
  | none => .stuck
theorem e_stR2 (i : Nat) (env : Tw.Env) (xs : List D) (d : D) (j : Nat) : stR2 i env xs d (some j) = .next (env.set i (some (.lst true (xs.set j d)))) := (rfl)
def stR3 (i : Nat) (env : Tw.Env) (d : D) (k : Option Int) : Option (List D) → Out
  | some ds => match k with
    | some z => if D.oks ds && D.ok d then stR2 i env ds d (ixN ds.length z) else .stuck
    | none => .stuck
  | none => .stuck
theorem e_stR3 (i : Nat) (env : Tw.Env) (d : D) (z : Int) (ds : List D) : stR3 i env d (some z) (some ds) = if D.oks ds && D.ok d then stR2 i env ds d (ixN ds.length z) else .stuck := (rfl)
def k_stR (i : Nat) (d : D) : D → Tw.Env → Out := fun k env2 => stR3 i env2 d (D.asI k) (ownAt env2 i)
theorem e_kstR (i : Nat) (d k : D) (env2 : Tw.Env) : k_stR i d k env2 = stR3 i env2 d (D.asI k) (ownAt env2 i) := (rfl)
def stR (i : Nat) (fi : Ev) (d : D) (env : Tw.Env) : Option (List D) → Out
  | some _ => sBind (fi env) (k_stR i d)
  | none => .stuck
theorem e_stR (i : Nat) (fi : Ev) (d : D) (env : Tw.Env) (xs : List D) : stR i fi d env (some xs) = sBind (fi env) (k_stR i d) := (rfl)
def k_sStore (i : Nat) (fi : Ev) : D → Tw.Env → Out := fun d env1 => stR i fi d env1 (ownAt env1 i)
theorem e_ksStore (i : Nat) (fi : Ev) (d : D) (env1 : Tw.Env) : k_sStore i fi d env1 = stR i fi d env1 (ownAt env1 i) := (rfl)
theorem e_sStore (i : Nat) (fi f : Ev) (env : Tw.Env) : sStore i fi f env = sBind (f env) (k_sStore i fi) := by
  unfold sStore
  refine congrArg _ (funext fun d => funext fun env1 => ?_)
  show _ = stR i fi d env1 (ownAt env1 i)
  cases ownAt env1 i with
  | none => rfl
  | some _ =>
    show sBind _ _ = sBind _ _
    refine congrArg _ (funext fun k => funext fun env2 => ?_)
    show _ = stR3 i env2 d (D.asI k) (ownAt env2 i)
    cases D.asI k with
    | none => cases ownAt env2 i <;> rfl
    | some z =>
      simp only [Option.bind_some]
      cases ownAt env2 i with
      | none => rfl
      | some ds =>
        simp only [Option.bind_some, stR3]
        by_cases c : (D.oks ds && D.ok d) = true
        · simp only [c, if_true]
          cases ixN ds.length z <;> rfl
        · simp only [c, Bool.false_eq_true, if_false]
def m1R (i : Nat) (env : Tw.Env) : Option (D × List D) → Rs D
  | some q => .ok q.1 (env.set i (some (.lst true q.2)))
  | none => .stuck
theorem e_m1R (i : Nat) (env : Tw.Env) (q : D × List D) : m1R i env (some q) = .ok q.1 (env.set i (some (.lst true q.2))) := (rfl)
def m1S (i : Nat) (gm : List D → D → Option (D × List D)) (y : D) (env : Tw.Env) : Option (List D) → Rs D
  | some ds => m1R i env (gm ds y)
  | none => .stuck
theorem e_m1S (i : Nat) (gm : List D → D → Option (D × List D)) (y : D) (env : Tw.Env) (ds : List D) : m1S i gm y env (some ds) = m1R i env (gm ds y) := (rfl)
def k_m1T (i : Nat) (gm : List D → D → Option (D × List D)) : D → Tw.Env → Rs D := fun y env1 => m1S i gm y env1 (ownAt env1 i)
theorem e_km1T (i : Nat) (gm : List D → D → Option (D × List D)) (y : D) (env1 : Tw.Env) : k_m1T i gm y env1 = m1S i gm y env1 (ownAt env1 i) := (rfl)
def m1T (i : Nat) (gm : List D → D → Option (D × List D)) (f : Ev) (env : Tw.Env) : Option (List D) → Rs D
  | some _ => (f env).bind (k_m1T i gm)
  | none => .stuck
theorem e_m1T (i : Nat) (gm : List D → D → Option (D × List D)) (f : Ev) (env : Tw.Env) (ds : List D) : m1T i gm f env (some ds) = (f env).bind (k_m1T i gm) := (rfl)
theorem e_mt1 (i : Nat) (gm : List D → D → Option (D × List D)) (f : Ev) (env : Tw.Env) : fMt1 i gm f env = m1T i gm f env (ownAt env i) := by
  unfold fMt1 m1T
  cases ownAt env i with
  | none => rfl
  | some _ =>
    show Rs.bind _ _ = Rs.bind _ _
    refine congrArg _ (funext fun y => funext fun env1 => ?_)
    show _ = m1S i gm y env1 (ownAt env1 i)
    cases ownAt env1 i with
    | none => rfl
    | some ds => show _ = m1R i env1 (gm ds y); simp only [Option.bind_some]; cases gm ds y <;> rfl
def m0S (i : Nat) (gm : List D → Option (D × List D)) (env : Tw.Env) : Option (List D) → Rs D
  | some ds => m1R i env (gm ds)
  | none => .stuck
theorem e_m0S (i : Nat) (gm : List D → Option (D × List D)) (env : Tw.Env) (ds : List D) : m0S i gm env (some ds) = m1R i env (gm ds) := (rfl)
theorem e_mt0 (i : Nat) (gm : List D → Option (D × List D)) (env : Tw.Env) : fMt0 i gm env = m0S i gm env (ownAt env i) := by
  unfold fMt0 m0S
  cases ownAt env i with
  | none => rfl
  | some ds => show _ = m1R i env (gm ds); simp only [Option.bind_some]; cases gm ds <;> rfl
/-! whole defs -/
def rtN (d : D) : Option (List D) → Rf
  | some ios => .ret d ios
  | none => .stuck
theorem e_rtN (d : D) (ios : List D) : rtN d (some ios) = .ret d ios := (rfl)
def rtE (c : Nat) (ns : List Str) (es : List D) : Option (List D) → Rf
  | some ios => .exc c ns es ios
  | none => .stuck
def rtR (io : List Nat) : Out → Rf
  | .next env => rtN .non (ioOf io env)
  | .ret d env => rtN d (ioOf io env)
  | .exc c ns es env => rtE c ns es (ioOf io env)
  | _ => .stuck
theorem e_run (n : Nat) (io : List Nat) (g : Sv) (ds : List D) : runB n io g ds = rtR io (g (ds.map some ++ List.replicate (n - ds.length) none)) := by
  unfold runB
  generalize g (ds.map some ++ List.replicate (n - ds.length) none) = o
  cases o with
  | next env => show (match ioOf io env with | some ios => _ | none => _) = rtN .non (ioOf io env); cases ioOf io env <;> rfl
  | ret d env => show (match ioOf io env with | some ios => _ | none => _) = rtN d (ioOf io env); cases ioOf io env <;> rfl
  | exc c ns es env => show (match ioOf io env with | some ios => _ | none => _) = rtE c ns es (ioOf io env); cases ioOf io env <;> rfl
  | _ => rfl
theorem e_rtR (io : List Nat) (d : D) (env : Tw.Env) : rtR io (.ret d env) = rtN d (ioOf io env) := (rfl)
theorem e_rtX (io : List Nat) (env : Tw.Env) : rtR io (.next env) = rtN .non (ioOf io env) := (rfl)
theorem e_io_nil (env : Tw.Env) : ioOf [] env = some [] := (rfl)
def ioR1 : Option (Option D) → Option (List D)
  | some (some d) => some [d]
  | _ => none
theorem e_io_one (i : Nat) (env : Tw.Env) : ioOf [i] env = ioR1 env[i]? := by
  unfold ioOf ioR1
  simp only [List.mapM_cons, List.mapM_nil]
  cases env[i]? with
  | none => rfl
  | some o => cases o <;> rfl
theorem e_ioR1 (d : D) : ioR1 (some (some d)) = some [d] := (rfl)
def coR2 (neg : Bool) (n i j : Nat) (env : Tw.Env) : Rf → Rs D
  | .ret (.bl k) [] => if i = n ∧ j = n then .ok (.bl (if neg then !k else k)) env else .stuck
  | _ => .stuck
theorem e_coR2 (neg : Bool) (n i j : Nat) (env : Tw.Env) (k : Bool) : coR2 neg n i j env (.ret (.bl k) []) = if i = n ∧ j = n then .ok (.bl (if neg then !k else k)) env else .stuck := (rfl)
/-! walks -/
def itR (env : Tw.Env) : Option (List D) → Rs (List D)
  | some xs => .ok xs env
  | none => .stuck
theorem e_itR (env : Tw.Env) (xs : List D) : itR env (some xs) = .ok xs env := (rfl)
def k_iSeq  : D → Tw.Env → Rs (List D) := fun d env1 => itR env1 (D.items d)
theorem e_kiSeq  (d : D) (env1 : Tw.Env) : k_iSeq  d env1 = itR env1 (D.items d) := (rfl)
theorem e_iSeq (f : Ev) (env : Tw.Env) : iSeq f env = (f env).bind k_iSeq := by
  unfold iSeq
  refine congrArg _ (funext fun d => funext fun env1 => ?_)
  show _ = itR env1 (D.items d)
  cases D.items d <;> rfl
def rgR (env : Tw.Env) : Option (Int × Nat) → Rs (List D)
  | some q => .ok (rngD q.1 q.2) env
  | none => .stuck
theorem e_rgR (env : Tw.Env) (q : Int × Nat) : rgR env (some q) = .ok (rngD q.1 q.2) env := (rfl)
def k_iRng  : List D → Tw.Env → Rs (List D) := fun ds env1 => rgR env1 ((D.ints ds).bind rngOf)
theorem e_kiRng  (ds : List D) (env1 : Tw.Env) : k_iRng  ds env1 = rgR env1 ((D.ints ds).bind rngOf) := (rfl)
theorem e_iRng (os : List Ev) (env : Tw.Env) : iRng os env = (evs (vals os) env).bind k_iRng := by
  unfold iRng
  refine congrArg _ (funext fun d => funext fun env1 => ?_)
  show _ = rgR env1 ((D.ints d).bind rngOf)
  cases (D.ints d).bind rngOf <;> rfl
def zpR (env : Tw.Env) : Option (Bool × List D × List D) → Rs (List D)
  | some q => .ok (zipD q.2.1 q.2.2) env
  | none => .stuck
theorem e_zpR (env : Tw.Env) (q : Bool × List D × List D) : zpR env (some q) = .ok (zipD q.2.1 q.2.2) env := (rfl)
def k_iZip  : List D → Tw.Env → Rs (List D) := fun ds env1 => zpR env1 (zipOf ds)
theorem e_kiZip  (ds : List D) (env1 : Tw.Env) : k_iZip  ds env1 = zpR env1 (zipOf ds) := (rfl)
theorem e_iZip (os : List Ev) (env : Tw.Env) : iZip os env = (evs (vals os) env).bind k_iZip := by
  unfold iZip
  refine congrArg _ (funext fun d => funext fun env1 => ?_)
  show _ = zpR env1 (zipOf d)
  cases zipOf d <;> rfl
def k_cp3 : List D → Tw.Env → Rs D := fun ds env2 => .ok (.lst true ds) env2
theorem e_kcp3 (ds : List D) (env2 : Tw.Env) : k_cp3 ds env2 = .ok (.lst true ds) env2 := (rfl)
def k_comp (vs : List Nat) (b : Bd) (t : EvB) (f : Ev) : List D → Tw.Env → Rs D := fun items env1 => if lenOk items.length then (compGo vs b t f items [] (wipeE env1 vs)).bind k_cp3 else .stuck
theorem e_kcomp (vs : List Nat) (b : Bd) (t : EvB) (f : Ev) (items : List D) (env1 : Tw.Env) : k_comp vs b t f items env1 = if lenOk items.length then (compGo vs b t f items [] (wipeE env1 vs)).bind k_cp3 else .stuck := (rfl)
theorem e_comp (vs : List Nat) (fi : Tw.Env → Rs (List D)) (b : Bd) (t : EvB) (f : Ev) (env : Tw.Env) : fComp vs fi b t f env = (fi env).bind (k_comp vs b t f) := (rfl)
def k_comp2 (vs vs1 : List Nat) (b : Bd) (t : EvB) (fi1 : Tw.Env → Rs (List D)) (b1 : Bd) (t1 : EvB) (f : Ev) : List D → Tw.Env → Rs D := fun items env1 => (comp2Go vs vs1 b t fi1 b1 t1 f items [] (wipeE env1 vs)).bind k_cp3
theorem e_kcomp2 (vs vs1 : List Nat) (b : Bd) (t : EvB) (fi1 : Tw.Env → Rs (List D)) (b1 : Bd) (t1 : EvB) (f : Ev) (items : List D) (env1 : Tw.Env) : k_comp2 vs vs1 b t fi1 b1 t1 f items env1 = (comp2Go vs vs1 b t fi1 b1 t1 f items [] (wipeE env1 vs)).bind k_cp3 := (rfl)
theorem e_comp2 (vs vs1 : List Nat) (fi : Tw.Env → Rs (List D)) (b : Bd) (t : EvB) (fi1 : Tw.Env → Rs (List D)) (b1 : Bd) (t1 : EvB) (f : Ev) (env : Tw.Env) : fComp2 vs vs1 fi b t fi1 b1 t1 f env = (fi env).bind (k_comp2 vs vs1 b t fi1 b1 t1 f) := (rfl)
/-- comparison by an own __eq__ -/
def coR (neg : Bool) (n : Nat) (env : Tw.Env) (r : Rf) : Option Tg → Option Tg → Rs D
  | some (.cl i), some (.cl j) => coR2 neg n i j env r
  | _, _ => .stuck
theorem e_coR (neg : Bool) (n : Nat) (env : Tw.Env) (r : Rf) (i j : Nat) : coR neg n env r (some (.cl i)) (some (.cl j)) = coR2 neg n i j env r := (rfl)
def k_co2 (neg : Bool) (n : Nat) (h : List D → Rf) (x : D) : D → Tw.Env → Rs D := fun y env2 => coR neg n env2 (h [x, y]) (D.tag x) (D.tag y)
theorem e_kco2 (neg : Bool) (n : Nat) (h : List D → Rf) (x y : D) (env2 : Tw.Env) : k_co2 neg n h x y env2 = coR neg n env2 (h [x, y]) (D.tag x) (D.tag y) := (rfl)
def k_co (neg : Bool) (n : Nat) (h : List D → Rf) (fb : Ev) : D → Tw.Env → Rs D := fun x env1 => (fb env1).bind (k_co2 neg n h x)
theorem e_kco (neg : Bool) (n : Nat) (h : List D → Rf) (fb : Ev) (x : D) (env1 : Tw.Env) : k_co neg n h fb x env1 = (fb env1).bind (k_co2 neg n h x) := (rfl)
theorem e_co (neg : Bool) (n : Nat) (h : List D → Rf) (fa fb : Ev) (env : Tw.Env) : fCmpO neg n h fa fb env = (fa env).bind (k_co neg n h fb) := by
  unfold fCmpO
  refine congrArg _ (funext fun x => funext fun env1 => ?_)
  show Rs.bind _ _ = Rs.bind _ _
  refine congrArg _ (funext fun y => funext fun env2 => ?_)
  show _ = coR neg n env2 (h [x, y]) (D.tag x) (D.tag y)
  cases D.tag x with
  | none => rfl
  | some t => cases t with
    | ty _ => rfl
    | cl i => cases D.tag y with
      | none => rfl
      | some u => cases u with
        | ty _ => rfl
        | cl j =>
          show _ = coR2 neg n i j env2 (h [x, y])
          cases h [x, y] with
          | ret d ios => cases d with
            | bl k => cases ios <;> rfl
            | _ => rfl
          | _ => rfl
theorem e_wipe0 (env : Tw.Env) : wipeE env [] = env := (rfl)
theorem e_wipe1 (env : Tw.Env) (v : Nat) (vs : List Nat) : wipeE env (v :: vs) = (wipeE env vs).set v none := (rfl)
theorem e_bTp (r : List D → Tw.Env → Option Tw.Env) (ds : List D) (env : Tw.Env) : bTp r (.tup ds) env = if D.oks ds then r ds env else none := (rfl)
theorem e_bNil (env : Tw.Env) : bNil [] env = some env := (rfl)
theorem e_bCons (b : Bd) (r : List D → Tw.Env → Option Tw.Env) (d : D) (ds : List D) (env : Tw.Env) : bCons b r (d :: ds) env = (b d env).bind fun env1 => r ds env1 := (rfl)
/-! objects -/
def mkR (env : Tw.Env) : Rf → Rs D
  | .ret .non [z] => .ok z env
  | .exc c ns es _ => .exc c ns es env
  | _ => .stuck
theorem e_mkR (env : Tw.Env) (z : D) : mkR env (.ret .non [z]) = .ok z env := (rfl)
def k_make (n : Nat) (h : List D → Rf) : List D → Tw.Env → Rs D := fun ds env1 => mkR env1 (h (.obj true n [] [] :: ds))
theorem e_kmake (n : Nat) (h : List D → Rf) (ds : List D) (env1 : Tw.Env) : k_make n h ds env1 = mkR env1 (h (.obj true n [] [] :: ds)) := (rfl)
theorem e_make (n : Nat) (h : List D → Rf) (fs : List Ev) (env : Tw.Env) : fMake n h fs env = (evs (vals fs) env).bind (k_make n h) := by
  unfold fMake
  refine congrArg _ (funext fun ds => funext fun env1 => ?_)
  show _ = mkR env1 (h (.obj true n [] [] :: ds))
  cases h (.obj true n [] [] :: ds) with
  | ret d ios => cases d <;> (match ios with | [] => rfl | [_] => rfl | _ :: _ :: _ => rfl)
  | _ => rfl
def fsR (i : Nat) (own : Nat → Bool) (f : Str) (d : D) (env : Tw.Env) : Option (Nat × List Str × List D) → Out
  | some q => if own q.1 && decide (q.2.1.length = q.2.2.length) && decide (q.2.1.length < 1000) && D.ok d && oldOk f q.2.1 q.2.2 then .next (env.set i (some (.obj true q.1 (putN f q.2.1) (putD f d q.2.1 q.2.2)))) else .stuck
  | none => .stuck
def k_fset (i : Nat) (own : Nat → Bool) (f : Str) : D → Tw.Env → Out := fun d env1 => fsR i own f d env1 (ownOAt env1 i)
theorem e_kfset (i : Nat) (own : Nat → Bool) (f : Str) (d : D) (env1 : Tw.Env) : k_fset i own f d env1 = fsR i own f d env1 (ownOAt env1 i) := (rfl)
theorem e_fset (i : Nat) (own : Nat → Bool) (f : Str) (fe : Ev) (env : Tw.Env) : sFSet i own f fe env = sBind (fe env) (k_fset i own f) := by
  unfold sFSet
  refine congrArg _ (funext fun d => funext fun env1 => ?_)
  show _ = fsR i own f d env1 (ownOAt env1 i)
  cases ownOAt env1 i <;> rfl
theorem e_fsR (i : Nat) (own : Nat → Bool) (f : Str) (d : D) (env : Tw.Env) (q : Nat × List Str × List D) : fsR i own f d env (some q) = if own q.1 && decide (q.2.1.length = q.2.2.length) && decide (q.2.1.length < 1000) && D.ok d && oldOk f q.2.1 q.2.2 then .next (env.set i (some (.obj true q.1 (putN f q.2.1) (putD f d q.2.1 q.2.2)))) else .stuck := (rfl)
def ooR : Option (Option D) → Option (Nat × List Str × List D)
  | some (some (.obj true c ns ds)) => some (c, ns, ds)
  | _ => none
theorem e_oo (env : Tw.Env) (i : Nat) : ownOAt env i = ooR env[i]? := by
  unfold ownOAt ooR
  cases env[i]? with
  | none => rfl
  | some o => cases o with
    | none => rfl
    | some d => cases d with
      | obj m c ns xs => cases m <;> rfl
      | _ => rfl
theorem e_ooR (c : Nat) (ns : List Str) (ds : List D) : ooR (some (some (.obj true c ns ds))) = some (c, ns, ds) := (rfl)
/-! values -/
theorem e_i2 (f : Int → Int → Option D) (i j : Int) : gInt2 f [.int i, .int j] = f i j := (rfl)
theorem e_i1 (f : Int → D) (i : Int) : gInt1 f [.int i] = some (f i) := (rfl)
theorem e_bok {α β : Type} (a : α) (e : Tw.Env) (k : α → Tw.Env → Rs β) : Rs.bind (.ok a e) k = k a e := (rfl)
theorem e_sbok {α : Type} (a : α) (e : Tw.Env) (k : α → Tw.Env → Out) : sBind (.ok a e) k = k a e := (rfl)
theorem tru_non : D.tru .non = some false := (rfl)
theorem tru_bl (b : Bool) : D.tru (.bl b) = some b := (rfl)
theorem tru_int (i : Int) : D.tru (.int i) = some (i != 0) := (rfl)
theorem tru_tup (xs : List D) : D.tru (.tup xs) = some (!xs.isEmpty) := (rfl)
theorem tru_lst (m : Bool) (xs : List D) : D.tru (.lst m xs) = some (!xs.isEmpty) := (rfl)
theorem asI_int (i : Int) : D.asI (.int i) = some i := (rfl)
theorem ints_nil : D.ints [] = some [] := (rfl)
theorem ints_cons (d : D) (ds : List D) : D.ints (d :: ds) = (D.asI d).bind fun i => (D.ints ds).map (i :: ·) := (rfl)
theorem items_lst (m : Bool) (xs : List D) : D.items (.lst m xs) = if D.oks xs then some xs else none := (rfl)
theorem items_tup (xs : List D) : D.items (.tup xs) = if D.oks xs then some xs else none := (rfl)
theorem seqK_lst (m : Bool) (xs : List D) : D.seqK (.lst m xs) = if D.oks xs then some (false, xs) else none := (rfl)
theorem seqK_tup (xs : List D) : D.seqK (.tup xs) = if D.oks xs then some (true, xs) else none := (rfl)
theorem isN_int (i : Int) : gIsN [.int i, .non] = some (.bl false) := (rfl)
theorem isN_non : gIsN [.non, .non] = some (.bl true) := (rfl)
theorem isN_tup (xs : List D) : gIsN [.tup xs, .non] = some (.bl false) := (rfl)
theorem notN_int (i : Int) : gNotN [.int i, .non] = some (.bl true) := (rfl)
theorem notN_non : gNotN [.non, .non] = some (.bl false) := (rfl)
theorem notN_tup (xs : List D) : gNotN [.tup xs, .non] = some (.bl true) := (rfl)
theorem mul_int (i j : Int) : gMul [.int i, .int j] = if CMul i j then some (.int (i * j)) else none := (rfl)
theorem add_int (i j : Int) : gAdd [.int i, .int j] = some (.int (i + j)) := (rfl)
theorem sub_int (i j : Int) : Tw.gSub [.int i, .int j] = some (.int (i - j)) := (rfl)
theorem fdiv_int (i j : Int) : gFdiv [.int i, .int j] = if CDivN i j then some (.int (i.fdiv j)) else none := (rfl)
theorem mod_int (i j : Int) : gMod [.int i, .int j] = if j ≠ 0 then some (.int (i.fmod j)) else none := (rfl)
theorem pow_int (i j : Int) : gPow [.int i, .int j] = if CPow i j then some (.int (i ^ j.toNat)) else none := (rfl)
theorem lt_int (i j : Int) : gLt [.int i, .int j] = some (.bl (decide (i < j))) := (rfl)
theorem le_int (i j : Int) : gLe [.int i, .int j] = some (.bl (decide (i ≤ j))) := (rfl)
theorem gt_int (i j : Int) : gGt [.int i, .int j] = some (.bl (decide (j < i))) := (rfl)
theorem ge_int (i j : Int) : gGe [.int i, .int j] = some (.bl (decide (j ≤ i))) := (rfl)
theorem neg_int (i : Int) : gNeg [.int i] = some (.int (-i)) := (rfl)
theorem imul_int (i j : Int) : gIMul [.int i, .int j] = if CMul i j then some (.int (i * j)) else none := (rfl)
theorem iadd_int (i j : Int) : gIAdd [.int i, .int j] = some (.int (i + j)) := (rfl)
theorem len_lst (m : Bool) (xs : List D) : gLen [.lst m xs] = some (.int xs.length) := (rfl)
theorem len_tup (xs : List D) : gLen [.tup xs] = some (.int xs.length) := (rfl)
theorem ix_lst (m : Bool) (xs : List D) (i : Int) : gIx [.lst m xs, .int i] = (atI xs i).bind fun d => if D.oks xs then some d else none := (rfl)
theorem ix_tup (xs : List D) (i : Int) : gIx [.tup xs, .int i] = (atI xs i).bind fun d => if D.oks xs then some d else none := (rfl)
theorem tuple_lst (m : Bool) (xs : List D) : gTuple [.lst m xs] = if D.oks xs then some (.tup xs) else none := (rfl)
theorem tuple_tup (xs : List D) : gTuple [.tup xs] = if D.oks xs then some (.tup xs) else none := (rfl)
theorem list_lst (m : Bool) (xs : List D) : gList [.lst m xs] = if D.oks xs then some (.lst true xs) else none := (rfl)
theorem list_tup (xs : List D) : gList [.tup xs] = if D.oks xs then some (.lst true xs) else none := (rfl)
theorem abs_int (i : Int) : gAbs [.int i] = some (.int (if i < 0 then -i else i)) := (rfl)
theorem intC_int (i : Int) : gIntC [.int i] = some (.int i) := (rfl)
theorem intC_bl (k : Bool) : gIntC [.bl k] = some (.int (if k then 1 else 0)) := (rfl)
theorem all_lst (m : Bool) (xs : List D) : gAll [.lst m xs] = (D.bools xs).map fun bs => .bl (bs.all id) := (rfl)
theorem any_lst (m : Bool) (xs : List D) : gAny [.lst m xs] = (D.bools xs).map fun bs => .bl (bs.any id) := (rfl)
theorem isi_2 (isa : Tg → Tg → Option Bool) (a b : D) : gIsi isa [a, b] = (D.tag a).bind fun t => (D.asT b).bind fun u => (isa t u).map .bl := (rfl)
theorem tag_non : D.tag .non = some (.ty "NoneType") := (rfl)
theorem tag_bl (b : Bool) : D.tag (.bl b) = some (.ty "bool") := (rfl)
theorem tag_int (i : Int) : D.tag (.int i) = some (.ty "int") := (rfl)
theorem tag_str (x : Str) : D.tag (.str x) = some (.ty "str") := (rfl)
theorem tag_tup (xs : List D) : D.tag (.tup xs) = some (.ty "tuple") := (rfl)
theorem tag_lst (m : Bool) (xs : List D) : D.tag (.lst m xs) = some (.ty "list") := (rfl)
theorem tag_obj (m : Bool) (c : Nat) (ns : List Str) (ds : List D) : D.tag (.obj m c ns ds) = some (.cl c) := (rfl)
theorem asT_ty (n : String) : D.asT (.ty n) = some (.ty n) := (rfl)
theorem asT_cl (c : Nat) : D.asT (.cl c) = some (.cl c) := (rfl)
theorem frz_int (i : Int) : D.frz (.int i) = .int i := (rfl)
theorem frz_bl (b : Bool) : D.frz (.bl b) = .bl b := (rfl)
theorem frz_non : D.frz .non = .non := (rfl)
theorem frz_ty (n : String) : D.frz (.ty n) = .ty n := (rfl)
theorem frz_cl (n : Nat) : D.frz (.cl n) = .cl n := (rfl)
theorem frz_scr (ns : List Int) : D.frz (.scr ns) = .scr ns := (rfl)
theorem frz_tup (xs : List D) : D.frz (.tup xs) = .tup (D.frzs xs) := (rfl)
theorem frz_lst (m : Bool) (xs : List D) : D.frz (.lst m xs) = .lst false (D.frzs xs) := (rfl)
theorem frz_obj (m : Bool) (c : Nat) (ns : List Str) (xs : List D) : D.frz (.obj m c ns xs) = .obj false c ns (D.frzs xs) := (rfl)
theorem frzs_nil : D.frzs [] = [] := (rfl)
theorem frzs_cons (d : D) (ds : List D) : D.frzs (d :: ds) = D.frz d :: D.frzs ds := (rfl)
theorem ok_int (i : Int) : D.ok (.int i) = true := (rfl)
theorem ok_bl (b : Bool) : D.ok (.bl b) = true := (rfl)
theorem ok_non : D.ok .non = true := (rfl)
theorem ok_tup (xs : List D) : D.ok (.tup xs) = D.oks xs := (rfl)
theorem ok_lst (xs : List D) : D.ok (.lst false xs) = D.oks xs := by simp [D.ok]
theorem ok_obj (c : Nat) (ns : List Str) (xs : List D) : D.ok (.obj false c ns xs) = D.oks xs := by simp [D.ok]
theorem doks_nil : D.oks [] = true := (rfl)
theorem doks_cons (d : D) (ds : List D) : D.oks (d :: ds) = (D.ok d && D.oks ds) := (rfl)
theorem sl_scr (ns : List Int) (lo hi : Option Int) : gSl (.scr ns) lo hi = some (.lst true ((cutD ns lo hi).map .int)) := (rfl)
theorem sl_lst (m : Bool) (xs : List D) (lo hi : Option Int) : gSl (.lst m xs) lo hi = if D.oks xs then some (.lst true (cutD xs lo hi)) else none := (rfl)
theorem sl_tup (xs : List D) (lo hi : Option Int) : gSl (.tup xs) lo hi = if D.oks xs then some (.tup (cutD xs lo hi)) else none := (rfl)
theorem rev_lst (m : Bool) (xs : List D) : gRev (.lst m xs) = if D.oks xs then some (.lst true xs.reverse) else none := (rfl)
theorem rev_tup (xs : List D) : gRev (.tup xs) = if D.oks xs then some (.tup xs.reverse) else none := (rfl)
theorem eq_2 (a b : D) : gEq [a, b] = (D.py a).bind fun p => (D.py b).bind fun q => if SeqAt.shaped p && SeqAt.shaped q then some (.bl (PyData.eqv p q)) else none := (rfl)
theorem ne_2 (a b : D) : gNe [a, b] = (D.py a).bind fun p => (D.py b).bind fun q => if SeqAt.shaped p && SeqAt.shaped q then some (.bl (!PyData.eqv p q)) else none := (rfl)
theorem eq_int (i j : Int) : gEq [.int i, .int j] = some (.bl (decide (i = j))) := by
  show (if (SeqAt.shaped (.int i) && SeqAt.shaped (.int j)) = true then some (D.bl (PyData.eqv (.int i) (.int j))) else none) = _
  have h : ∀ i, SeqAt.shaped (PyData.int i) = true := fun i => rfl
  rw [h, h, Bool.and_self, if_pos rfl]
  rfl
theorem ne_int (i j : Int) : gNe [.int i, .int j] = some (.bl (!decide (i = j))) := by
  show (if (SeqAt.shaped (.int i) && SeqAt.shaped (.int j)) = true then some (D.bl (!PyData.eqv (.int i) (.int j))) else none) = _
  have h : ∀ i, SeqAt.shaped (PyData.int i) = true := fun i => rfl
  rw [h, h, Bool.and_self, if_pos rfl]
  rfl
/-- a tuple of whole numbers -/
def tII (ns : List Int) : D := .tup (ns.map .int)
theorem oks_int (ns : List Int) : D.oks (ns.map .int) = true := by
  rw [D.oks_iff]; intro d h; obtain ⟨i, _, rfl⟩ := List.mem_map.mp h; rfl
theorem frzs_int (ns : List Int) : D.frzs (ns.map .int) = ns.map .int := D.frzs_ok (oks_int ns)
theorem ok_tI (ns : List Int) : D.ok (D.tup (ns.map .int)) = true := oks_int ns
theorem frz_tI (ns : List Int) : D.frz (.tup (ns.map .int)) = .tup (ns.map .int) := D.frz_ok (ok_tI ns)
theorem oks_tI (ls : List (List Int)) : D.oks (ls.map fun ns => .tup (ns.map .int)) = true := by
  rw [D.oks_iff]; intro d h; obtain ⟨i, _, rfl⟩ := List.mem_map.mp h; exact ok_tI i
end Tw
noncomputable section
namespace Tw
open PySem PySem.Spec PyProof.Rows L2
/-! ### loops and comprehensions, reckoned -/
def fgS (bd : Bd) (body : Sv) (ds : List D) : Out → Out
  | .next env2 => forGo bd body ds env2
  | .cont env2 => forGo bd body ds env2
  | .brk env2 => .next env2
  | o => o
theorem e_fgN (bd : Bd) (body : Sv) (ds : List D) (env : Tw.Env) : fgS bd body ds (.next env) = forGo bd body ds env := (rfl)
theorem e_fgC (bd : Bd) (body : Sv) (ds : List D) (env : Tw.Env) : fgS bd body ds (.cont env) = forGo bd body ds env := (rfl)
theorem e_fgB (bd : Bd) (body : Sv) (ds : List D) (env : Tw.Env) : fgS bd body ds (.brk env) = .next env := (rfl)
theorem e_fgRt (bd : Bd) (body : Sv) (ds : List D) (d : D) (env : Tw.Env) : fgS bd body ds (.ret d env) = .ret d env := (rfl)
def fgR (bd : Bd) (body : Sv) (ds : List D) : Option Tw.Env → Out
  | some env1 => fgS bd body ds (body env1)
  | none => .stuck
theorem e_fgR (bd : Bd) (body : Sv) (ds : List D) (env : Tw.Env) : fgR bd body ds (some env) = fgS bd body ds (body env) := (rfl)
theorem e_for0 (bd : Bd) (body : Sv) (env : Tw.Env) : forGo bd body [] env = .next env := (rfl)
theorem e_for1 (bd : Bd) (body : Sv) (d : D) (ds : List D) (env : Tw.Env) : forGo bd body (d :: ds) env = fgR bd body ds (bd d env) := by
  show (match bd d env with | none => _ | some env1 => _) = _
  cases bd d env with
  | none => rfl
  | some env1 =>
    show (match body env1 with | .next env2 => _ | .cont env2 => _ | .brk env2 => _ | o => o) = fgS bd body ds (body env1)
    cases body env1 <;> rfl
theorem for_ind {α : Type} {bd : Bd} {body : Sv} {g : α → D} (I : Nat → Tw.Env → Prop) : ∀ (xs : List α) (n : Nat) (env : Tw.Env), I n env →
    (∀ i x env, xs[i]? = some x → I (n + i) env → ∃ env2, I (n + i + 1) env2 ∧ ∀ ds, forGo bd body (g x :: ds) env = forGo bd body ds env2) → ∃ env', I (n + xs.length) env' ∧ forGo bd body (xs.map g) env = .next env'
  | [], n, env, h0, _ => ⟨env, h0, rfl⟩
  | x :: xs, n, env, h0, h => by
    obtain ⟨env2, h1, e⟩ := h 0 x env rfl h0
    obtain ⟨env', h2, e2⟩ := for_ind I xs (n + 1) env2 h1 fun i y env3 hi hI => by
      obtain ⟨env4, h5, e5⟩ := h (i + 1) y env3 hi (by rw [show n + (i + 1) = n + 1 + i by omega]; exact hI)
      exact ⟨env4, by rw [show n + 1 + i + 1 = n + (i + 1) + 1 by omega]; exact h5, e5⟩
    refine ⟨env', by rw [List.length_cons, show n + (xs.length + 1) = n + 1 + xs.length by omega]; exact h2, ?_⟩
    rw [List.map_cons, e, e2]
/-- a loop whose each turn takes a state on -/
theorem for_fold {α β : Type} {bd : Bd} {body : Sv} {g : α → D} (E : β → Tw.Env → Prop) (step : β → α → β) (xs : List α) (b : β) (env : Tw.Env) (h0 : E b env)
    (h : ∀ x ∈ xs, ∀ b env, E b env → ∃ env2, E (step b x) env2 ∧ ∀ ds, forGo bd body (g x :: ds) env = forGo bd body ds env2) : ∃ env', E (xs.foldl step b) env' ∧ forGo bd body (xs.map g) env = .next env' := by
  induction xs generalizing b env with
  | nil => exact ⟨env, h0, rfl⟩
  | cons x xs ih =>
    obtain ⟨env2, h1, e⟩ := h x List.mem_cons_self b env h0
    obtain ⟨env', h2, e2⟩ := ih _ env2 h1 fun y hy => h y (List.mem_cons_of_mem _ hy)
    exact ⟨env', h2, by rw [List.map_cons, e, e2]⟩
/-- a loop that keeps a promise -/
theorem for_keep {α : Type} {bd : Bd} {body : Sv} {g : α → D} (E : Tw.Env → Prop) (xs : List α) (env : Tw.Env) (h0 : E env)
    (h : ∀ x ∈ xs, ∀ env, E env → ∃ env2, E env2 ∧ ∀ ds, forGo bd body (g x :: ds) env = forGo bd body ds env2) : ∃ env', E env' ∧ forGo bd body (xs.map g) env = .next env' := by
  obtain ⟨env', h1, h2⟩ := for_fold (β := Unit) (fun _ => E) (fun _ _ => ()) xs () env h0 fun x hx _ e he => h x hx e he
  exact ⟨env', h1, h2⟩
def cgF (vs : List Nat) (b : Bd) (t : EvB) (f : Ev) (ds acc : List D) : D → Tw.Env → Rs (List D) := fun y env3 => compGo vs b t f ds (acc ++ [y]) (wipeE env3 vs)
theorem e_cgF (vs : List Nat) (b : Bd) (t : EvB) (f : Ev) (ds acc : List D) (y : D) (env3 : Tw.Env) : cgF vs b t f ds acc y env3 = compGo vs b t f ds (acc ++ [y]) (wipeE env3 vs) := (rfl)
def cgT (vs : List Nat) (b : Bd) (t : EvB) (f : Ev) (ds acc : List D) : Bool → Tw.Env → Rs (List D) := fun k env2 => if k = true then (f env2).ne.bind (cgF vs b t f ds acc) else compGo vs b t f ds acc (wipeE env2 vs)
theorem e_cgT (vs : List Nat) (b : Bd) (t : EvB) (f : Ev) (ds acc : List D) (k : Bool) (env2 : Tw.Env) : cgT vs b t f ds acc k env2 = if k = true then (f env2).ne.bind (cgF vs b t f ds acc) else compGo vs b t f ds acc (wipeE env2 vs) := (rfl)
def cgR (vs : List Nat) (b : Bd) (t : EvB) (f : Ev) (ds acc : List D) : Option Tw.Env → Rs (List D)
  | some env1 => (t env1).ne.bind (cgT vs b t f ds acc)
  | none => .stuck
theorem e_cgR (vs : List Nat) (b : Bd) (t : EvB) (f : Ev) (ds acc : List D) (env1 : Tw.Env) : cgR vs b t f ds acc (some env1) = (t env1).ne.bind (cgT vs b t f ds acc) := (rfl)
theorem e_neo {α : Type} (a : α) (env : Tw.Env) : (Rs.ok a env).ne = .ok a env := (rfl)
theorem e_cg0 (vs : List Nat) (b : Bd) (t : EvB) (f : Ev) (acc : List D) (env : Tw.Env) : compGo vs b t f [] acc env = .ok acc env := (rfl)
theorem e_cg1 (vs : List Nat) (b : Bd) (t : EvB) (f : Ev) (d : D) (ds acc : List D) (env : Tw.Env) : compGo vs b t f (d :: ds) acc env = cgR vs b t f ds acc (b d env) := by
  show (match b d env with | none => _ | some env1 => _) = _
  cases b d env <;> rfl
theorem comp_map {α : Type} {vs : List Nat} {b : Bd} {t : EvB} {f : Ev} {g : α → D} {env : Tw.Env} (y : α → List D) : ∀ (xs : List α) (acc : List D), (∀ x ∈ xs, ∀ ds acc, compGo vs b t f (g x :: ds) acc env = compGo vs b t f ds (acc ++ y x) env) → compGo vs b t f (xs.map g) acc env = .ok (acc ++ xs.flatMap y) env
  | [], acc, _ => by simp [compGo]
  | x :: xs, acc, h => by
    rw [List.map_cons, h x List.mem_cons_self, comp_map y xs _ fun z hz => h z (List.mem_cons_of_mem _ hz), List.flatMap_cons, List.append_assoc]
theorem comp_map1 {α : Type} {vs : List Nat} {b : Bd} {t : EvB} {f : Ev} {g : α → D} {env : Tw.Env} (y : α → D) (xs : List α) (h : ∀ x ∈ xs, ∀ ds acc, compGo vs b t f (g x :: ds) acc env = compGo vs b t f ds (acc ++ [y x]) env) : compGo vs b t f (xs.map g) [] env = .ok (xs.map y) env := by
  rw [comp_map (fun x => [y x]) xs [] h, List.nil_append]
  congr 1
  induction xs with
  | nil => rfl
  | cons x xs ih => rw [List.flatMap_cons, ih fun z hz => h z (List.mem_cons_of_mem _ hz)]; rfl
def c2A (vs vs1 : List Nat) (b : Bd) (t : EvB) (fi1 : Tw.Env → Rs (List D)) (b1 : Bd) (t1 : EvB) (f : Ev) (ds : List D) : List D → Tw.Env → Rs (List D) := fun acc2 env4 => comp2Go vs vs1 b t fi1 b1 t1 f ds acc2 (wipeE env4 vs)
theorem e_c2A (vs vs1 : List Nat) (b : Bd) (t : EvB) (fi1 : Tw.Env → Rs (List D)) (b1 : Bd) (t1 : EvB) (f : Ev) (ds acc2 : List D) (env4 : Tw.Env) : c2A vs vs1 b t fi1 b1 t1 f ds acc2 env4 = comp2Go vs vs1 b t fi1 b1 t1 f ds acc2 (wipeE env4 vs) := (rfl)
def c2I (vs vs1 : List Nat) (b : Bd) (t : EvB) (fi1 : Tw.Env → Rs (List D)) (b1 : Bd) (t1 : EvB) (f : Ev) (ds acc : List D) : List D → Tw.Env → Rs (List D) := fun items1 env3 => if lenOk (acc.length + items1.length) then (compGo vs1 b1 t1 f items1 acc (wipeE env3 vs1)).bind (c2A vs vs1 b t fi1 b1 t1 f ds) else .stuck
theorem e_c2I (vs vs1 : List Nat) (b : Bd) (t : EvB) (fi1 : Tw.Env → Rs (List D)) (b1 : Bd) (t1 : EvB) (f : Ev) (ds acc items1 : List D) (env3 : Tw.Env) : c2I vs vs1 b t fi1 b1 t1 f ds acc items1 env3 = if lenOk (acc.length + items1.length) then (compGo vs1 b1 t1 f items1 acc (wipeE env3 vs1)).bind (c2A vs vs1 b t fi1 b1 t1 f ds) else .stuck := (rfl)
def c2T (vs vs1 : List Nat) (b : Bd) (t : EvB) (fi1 : Tw.Env → Rs (List D)) (b1 : Bd) (t1 : EvB) (f : Ev) (ds acc : List D) : Bool → Tw.Env → Rs (List D) := fun k env2 => if k = true then (fi1 env2).ne.bind (c2I vs vs1 b t fi1 b1 t1 f ds acc) else comp2Go vs vs1 b t fi1 b1 t1 f ds acc (wipeE env2 vs)
theorem e_c2T (vs vs1 : List Nat) (b : Bd) (t : EvB) (fi1 : Tw.Env → Rs (List D)) (b1 : Bd) (t1 : EvB) (f : Ev) (ds acc : List D) (k : Bool) (env2 : Tw.Env) : c2T vs vs1 b t fi1 b1 t1 f ds acc k env2 = if k = true then (fi1 env2).ne.bind (c2I vs vs1 b t fi1 b1 t1 f ds acc) else comp2Go vs vs1 b t fi1 b1 t1 f ds acc (wipeE env2 vs) := (rfl)
def c2R (vs vs1 : List Nat) (b : Bd) (t : EvB) (fi1 : Tw.Env → Rs (List D)) (b1 : Bd) (t1 : EvB) (f : Ev) (ds acc : List D) : Option Tw.Env → Rs (List D)
  | some env1 => (t env1).ne.bind (c2T vs vs1 b t fi1 b1 t1 f ds acc)
  | none => .stuck
theorem e_c2R (vs vs1 : List Nat) (b : Bd) (t : EvB) (fi1 : Tw.Env → Rs (List D)) (b1 : Bd) (t1 : EvB) (f : Ev) (ds acc : List D) (env1 : Tw.Env) : c2R vs vs1 b t fi1 b1 t1 f ds acc (some env1) = (t env1).ne.bind (c2T vs vs1 b t fi1 b1 t1 f ds acc) := (rfl)
theorem e_c20 (vs vs1 : List Nat) (b : Bd) (t : EvB) (fi1 : Tw.Env → Rs (List D)) (b1 : Bd) (t1 : EvB) (f : Ev) (acc : List D) (env : Tw.Env) : comp2Go vs vs1 b t fi1 b1 t1 f [] acc env = .ok acc env := (rfl)
theorem e_c21 (vs vs1 : List Nat) (b : Bd) (t : EvB) (fi1 : Tw.Env → Rs (List D)) (b1 : Bd) (t1 : EvB) (f : Ev) (d : D) (ds acc : List D) (env : Tw.Env) : comp2Go vs vs1 b t fi1 b1 t1 f (d :: ds) acc env = c2R vs vs1 b t fi1 b1 t1 f ds acc (b d env) := by
  show (match b d env with | none => _ | some env1 => _) = _
  cases b d env <;> rfl
theorem comp2_map {α : Type} {vs vs1 : List Nat} {b : Bd} {t : EvB} {fi1 : Tw.Env → Rs (List D)} {b1 : Bd} {t1 : EvB} {f : Ev} {g : α → D} {env : Tw.Env} (L : Nat) (y : α → List D) : ∀ (xs : List α) (acc : List D), acc.length + (xs.flatMap y).length ≤ L →
    (∀ x ∈ xs, ∀ ds acc, acc.length + (y x).length ≤ L → comp2Go vs vs1 b t fi1 b1 t1 f (g x :: ds) acc env = comp2Go vs vs1 b t fi1 b1 t1 f ds (acc ++ y x) env) → comp2Go vs vs1 b t fi1 b1 t1 f (xs.map g) acc env = .ok (acc ++ xs.flatMap y) env
  | [], acc, _, _ => by simp [comp2Go]
  | x :: xs, acc, hl, h => by
    rw [List.flatMap_cons, List.length_append] at hl
    rw [List.map_cons, h x List.mem_cons_self _ _ (by omega), comp2_map L y xs _ (by rw [List.length_append]; omega) fun z hz => h z (List.mem_cons_of_mem _ hz), List.flatMap_cons, List.append_assoc]
theorem lenOk_of {n : Nat} (h : n ≤ 16777216) : lenOk n = true := by
  unfold lenOk
  rw [sizeLine_eq]
  exact decide_eq_true h
/-! reckoning -/
theorem cm_lit (i j : Int) (h : -(2 ^ 64) < j ∧ j < 2 ^ 64) : CMul i j := .inr h
theorem cm_left (i j : Int) (h : -(2 ^ 64) < i ∧ i < 2 ^ 64) : CMul i j := .inl h
theorem cm_fm1 (a j : Int) : CMul (a.fmod 2147483647) j := .inl (by
  have h1 := Int.fmod_nonneg_of_pos a (show (0 : Int) < 2147483647 by decide)
  have h2 := Int.fmod_lt_of_pos a (show (0 : Int) < 2147483647 by decide)
  omega)
theorem cd_lit (i j : Int) (h : j ≠ 0 ∧ j.natAbs < 1073741824) : CDivN i j := h
theorem ints_map (ns : List Int) : D.ints (ns.map .int) = some ns := by
  induction ns with
  | nil => rfl
  | cons n ns ih => rw [List.map_cons, Tw.ints_cons, ih]; rfl
theorem atI_map {ns : List Int} {i : Int} (h0 : 0 ≤ i) (h1 : i < ns.length) : atI (ns.map D.int) i = some (.int (ns.getD i.toNat 0)) := by
  have hl : i.toNat < ns.length := by omega
  unfold atI ixN
  rw [List.length_map, if_pos h0, if_pos h1, Option.bind_some, List.getElem?_map, List.getElem?_eq_getElem hl, List.getD_eq_getElem?_getD, List.getElem?_eq_getElem hl]
  rfl
theorem at5_0 (a b c d e : D) : atI [a, b, c, d, e] 0 = some a := (rfl)
theorem at5_1 (a b c d e : D) : atI [a, b, c, d, e] 1 = some b := (rfl)
theorem at5_2 (a b c d e : D) : atI [a, b, c, d, e] 2 = some c := (rfl)
theorem at5_3 (a b c d e : D) : atI [a, b, c, d, e] 3 = some d := (rfl)
theorem at5_4 (a b c d e : D) : atI [a, b, c, d, e] 4 = some e := (rfl)
theorem ix5_1 : ixN 5 1 = some 1 := (rfl)
theorem ix5_2 : ixN 5 2 = some 2 := (rfl)
theorem ix5_3 : ixN 5 3 = some 3 := (rfl)
theorem ix5_4 : ixN 5 4 = some 4 := (rfl)
end Tw
noncomputable section
namespace Tw
open PySem PySem.Spec PyProof.Rows L2
/-! ### what is compared -/
theorem lay_all : ∀ {ps : List PyData}, (∀ p ∈ ps, p.canLay0 = true) → PyData.canLayAll0 ps = true
  | [], _ => by simp [PyData.canLayAll0]
  | p :: ps, h => by
    rw [PyData.canLayAll0, h p List.mem_cons_self, lay_all fun q hq => h q (List.mem_cons_of_mem _ hq)]
    rfl
theorem depth_all {n : Nat} : ∀ {ps : List PyData}, (∀ p ∈ ps, p.depth ≤ n) → PyData.depthAll ps ≤ n
  | [], _ => by simp [PyData.depthAll]
  | p :: ps, h => by
    rw [PyData.depthAll]
    exact Nat.max_le.mpr ⟨h p List.mem_cons_self, depth_all fun q hq => h q (List.mem_cons_of_mem _ hq)⟩
/-- data of depth n at most, all its leaves whole numbers -/
def Num : Nat → D → Prop
  | 0, d => ∃ i, d = .int i
  | n + 1, d => (∃ i, d = .int i) ∨ (∃ xs, d = .tup xs ∧ ∀ x ∈ xs, Num n x) ∨ ∃ m xs, d = .lst m xs ∧ ∀ x ∈ xs, Num n x
theorem num_py : ∀ {n : Nat} {d : D}, Num n d → ∃ p, D.py d = some p ∧ p.canLay0 = true ∧ p.depth ≤ n + 1
  | 0, d, h => by obtain ⟨i, rfl⟩ := h; exact ⟨.int i, rfl, rfl, by simp [PyData.depth]⟩
  | n + 1, d, h => by
    have key : ∀ xs : List D, (∀ x ∈ xs, Num n x) → ∃ ps, D.pys xs = some ps ∧ (∀ p ∈ ps, p.canLay0 = true) ∧ ∀ p ∈ ps, p.depth ≤ n + 1 := by
      intro xs
      induction xs with
      | nil => intro _; exact ⟨[], rfl, by simp, by simp⟩
      | cons x xs ih =>
        intro hx
        obtain ⟨p, e, c, dp⟩ := num_py (hx x List.mem_cons_self)
        obtain ⟨ps, e2, c2, d2⟩ := ih fun y hy => hx y (List.mem_cons_of_mem _ hy)
        refine ⟨p :: ps, by rw [D.pys, e, e2]; rfl, fun q hq => ?_, fun q hq => ?_⟩
        · rcases List.mem_cons.mp hq with rfl | hq
          · exact c
          · exact c2 q hq
        · rcases List.mem_cons.mp hq with rfl | hq
          · exact dp
          · exact d2 q hq
    rcases h with ⟨i, rfl⟩ | ⟨xs, rfl, hx⟩ | ⟨m, xs, rfl, hx⟩
    · exact ⟨.int i, rfl, rfl, by simp [PyData.depth]⟩
    · obtain ⟨ps, e, c, dp⟩ := key xs hx
      refine ⟨.tuple ps, by rw [D.py, e]; rfl, by rw [PyData.canLay0]; exact lay_all c, ?_⟩
      rw [PyData.depth]
      have := depth_all dp
      omega
    · obtain ⟨ps, e, c, dp⟩ := key xs hx
      refine ⟨.list ps, by rw [D.py, e]; rfl, by rw [PyData.canLay0]; exact lay_all c, ?_⟩
      rw [PyData.depth]
      have := depth_all dp
      omega
theorem eq_same {n : Nat} {a b : D} (h : Num n a) (hn : n ≤ 60) (e : D.py b = D.py a) : gEq [a, b] = some (.bl true) ∧ gNe [a, b] = some (.bl false) := by
  obtain ⟨p, e1, c, dp⟩ := num_py h
  have sh : SeqAt.shaped p = true := by
    unfold SeqAt.shaped
    rw [c, Bool.true_and]
    exact decide_eq_true (by omega)
  have r := SeqAt.eqv_refl p c
  constructor
  · rw [Tw.eq_2, e, e1, Option.bind_some, Option.bind_some, sh, Bool.and_self, if_pos rfl, r]
  · rw [Tw.ne_2, e, e1, Option.bind_some, Option.bind_some, sh, Bool.and_self, if_pos rfl, r]; rfl
theorem num_int (n : Nat) (i : Int) : Num n (.int i) := by
  cases n
  · exact ⟨i, rfl⟩
  · exact .inl ⟨i, rfl⟩
theorem num_tup {n : Nat} {xs : List D} (h : ∀ x ∈ xs, Num n x) : Num (n + 1) (.tup xs) := .inr (.inl ⟨xs, rfl, h⟩)
theorem num_lst {n : Nat} {m : Bool} {xs : List D} (h : ∀ x ∈ xs, Num n x) : Num (n + 1) (.lst m xs) := .inr (.inr ⟨m, xs, rfl, h⟩)
theorem num_ints {n : Nat} (ns : List Int) : ∀ x ∈ ns.map D.int, Num n x := fun x hx => by obtain ⟨i, _, rfl⟩ := List.mem_map.mp hx; exact num_int n i
/-- rows of whole numbers -/
def rows (ls : List (List Int)) : List D := ls.map fun ns => .tup (ns.map .int)
theorem rows_len (ls : List (List Int)) : (rows ls).length = ls.length := List.length_map _
theorem oks_rows (ls : List (List Int)) : D.oks (rows ls) = true := oks_tI ls
theorem frzs_rows (ls : List (List Int)) : D.frzs (rows ls) = rows ls := D.frzs_ok (oks_rows ls)
theorem num_rows {n : Nat} (ls : List (List Int)) : ∀ x ∈ rows ls, Num (n + 1) x := fun x hx => by obtain ⟨ns, _, rfl⟩ := List.mem_map.mp hx; exact num_tup (num_ints ns)
theorem py_lst (m m' : Bool) (xs : List D) : D.py (.lst m xs) = D.py (.lst m' xs) := (rfl)
theorem rows_app (a b : List (List Int)) : rows (a ++ b) = rows a ++ rows b := List.map_append
theorem add_tup (xs ys : List D) : gAdd [.tup xs, .tup ys] = if D.oks xs && D.oks ys && lenOk (xs.length + ys.length) then some (.tup (xs ++ ys)) else none := (rfl)
theorem add_lst (m m' : Bool) (xs ys : List D) : gAdd [.lst m xs, .lst m' ys] = if D.oks xs && D.oks ys && lenOk (xs.length + ys.length) then some (.lst true (xs ++ ys)) else none := (rfl)
theorem rng_map (lo : Int) (n : Nat) : rngD lo n = ((List.range n).map fun i : Nat => lo + (i : Int)).map .int := by rw [List.map_map]; rfl
theorem rngOf_1 {j : Int} (h : -(2 ^ 62) ≤ j ∧ j < 2 ^ 62) : rngOf [j] = some (0, j.toNat) := if_pos (rngOk_iff.mpr h)
theorem rngD_0 (n : Nat) : rngD 0 n = (List.range n).map fun i : Nat => .int (i : Int) := by
  unfold rngD
  exact List.map_congr_left fun i _ => by rw [Int.zero_add]
theorem bools_mapP {α : Type} (p : α → Bool) : ∀ xs : List α, D.bools (xs.map fun x => .bl (p x)) = some (xs.map p)
  | [] => rfl
  | x :: xs => by rw [List.map_cons, D.bools, bools_mapP p xs]; rfl
end Tw
noncomputable section
namespace Tw
open PySem PySem.Spec PyProof.Rows L2
/-! ### a comprehension over a list that stays the def's own -/
section
variable {cl : Nat → Addr} {W : WX}
theorem iter_lstM {K : PySem.W.Frag} {m : Bool} {a : Addr} {ds : List D} (o : D.oks ds = true) : IterD K cl (Itl K a) [some (.lst m ds)] [some (.ref a)] ds := by
  have key : ∀ (H : Hp) (κ : Tw.Env) (τ : S), Rel K cl H ([some (.lst m ds)] ++ κ) ([some (.ref a)] ++ τ) → ∃ vs f g, (f ++ g).Nodup ∧ Dats K cl (· ∈ f ++ g) H [.lst m ds] [.ref a] f ∧ Slots K cl (· ∈ f ++ g) H κ τ g ∧ H a = some (.lst vs) ∧ Dats K cl (· ∈ f ++ g) H ds vs [] := fun H κ τ r => by
    obtain ⟨f, g, n, hh, hr⟩ := Rel.split (as := [.lst m ds]) (vs := [.ref a]) r rfl
    obtain ⟨a', vs, g1, e1, t1, d1, _⟩ := dats1 hh
    cases e1
    exact ⟨vs, f, g, n, hh, hr, t1, oks_nil d1 o⟩
  refine ⟨fun i d e H κ τ r => ?_, fun i hi H κ τ r => ?_⟩
  · obtain ⟨vs, f, g, n, hh, hr, t, hd⟩ := key H κ τ r
    obtain ⟨v, e1, hv⟩ := dats_get hd e
    refine ⟨⟨vs, v, .of t, e1⟩, fun x H' y => ?_⟩
    obtain ⟨rfl, y⟩ := y
    have e2 := y vs (.of t)
    rw [e1] at e2
    cases e2
    exact derive n hh hr hv
  · obtain ⟨vs, f, g, n, hh, hr, t, hd⟩ := key H κ τ r
    exact ⟨vs, .of t, by rw [dats_length hd]; exact hi⟩
def fCompB (vs : List Nat) (i : Nat) (b : Bd) (t : EvB) (f : Ev) : Ev := fun env => match ownAt env i with
  | some items => if D.oks items && lenOk items.length then (compGo vs b t f items [] (wipeE (env.set i none) vs)).bind fun ds env2 => .ok (.lst true ds) (env2.set i (some (.lst true items))) else .stuck
  | none => .stuck
/-- the reading of a comprehension over a list that the def still owns -/
theorem rd_compB {K : PySem.W.Frag} {ix : Nat} {vs ts : List Nat} {b : Bd} {t : EvB} {f : Ev} {g : TG} {tt : TT} {te : TE} (hts : ∀ i ∈ ts, i ∈ vs) {σ : S} {H : Hp} {Q : VK} (h : tE K cl W (fCompB vs ix b t f) σ H Q)
    (hg : ∀ v σ H Q, tG K cl ts b v σ H Q → g v σ H Q) (ht : ∀ σ H Q, tT K cl (fun _ _ _ _ => False) t σ H Q → tt σ H Q) (he : ∀ σ H Q, tE K cl (fun _ _ _ _ => False) f σ H Q → te σ H Q) : tLc (iList K (tVar ix)) g tt te vs σ H Q := by
  obtain ⟨τ, κ, env, r, l, q⟩ := h
  unfold fCompB at q
  cases e1 : ownAt env ix with
  | none => rw [e1] at q; exact q.elim
  | some items =>
    rw [e1] at q
    simp only at q
    obtain ⟨v0, e0, r0⟩ := slot_out (A := []) (Y := []) r rfl l (ownAt_eq e1)
    obtain ⟨a0, us0, rfl, t0, _⟩ := own_head r0
    refine ⟨.ref a0, e0, a0, rfl, ⟨us0, .of t0⟩, ?_⟩
    generalize env.set ix none = env1 at q r0
    split at q
    · rename_i hlen
      rw [Bool.and_eq_true] at hlen
      obtain ⟨ho, hlen⟩ := hlen
      have it : IterD K cl (Itl K a0) [some (.lst true items)] [some (.ref a0)] items := iter_lstM ho
      have r1 : Rel K cl H ([some (.lst true items)] ++ (κ ++ env1)) ([some (.ref a0)] ++ (τ ++ σ)) := r0
      obtain ⟨κx, eκ⟩ : ∃ κx : Tw.Env, κx = [some (D.lst true items)] := ⟨_, rfl⟩
      obtain ⟨τx, eτ⟩ : ∃ τx : S, τx = [some (V.ref a0)] := ⟨_, rfl⟩
      rw [← eκ, ← eτ] at it r1
      have lx : τx.length = κx.length := by rw [eκ, eτ]; rfl
      intro p hD
      have hlen := of_decide_eq_true hlen
      let Inv : Nat → Nat → Hp → Prop := fun i m H => i ≤ items.length ∧ m = items.length - i ∧ ∃ (env' : Tw.Env) (acc : List D), acc.length ≤ i ∧ (∀ v ∈ vs, env'.set v none = env') ∧ Rel K cl H (some (.lst true acc) :: (κx ++ (κ ++ env'))) (some (.ref p) :: (τx ++ (τ ++ wipe σ vs))) ∧
        ((compGo vs b t f (items.drop i) acc env').bind fun ds env2 => Rs.ok (Tw.D.lst true ds) (env2.set ix (some (.lst true items)))).P (fun d env' => ∀ v H', Rel K cl H' (some d :: (κ ++ env')) (some v :: (τ ++ σ)) → Q v H') (WP K cl W κ τ σ)
      refine ⟨Inv, ⟨items.length, Nat.zero_le _, rfl, wipeE env1 vs, [], Nat.zero_le _, fun v hv => wipeE_set hv, ?_, q⟩, ?_⟩
      · have r2 : Rel K cl H (κx ++ (κ ++ wipeE env1 vs)) (τx ++ (τ ++ wipe σ vs)) := by
          have z := rel_wipe (κ := κx ++ κ) (τ := τx ++ τ) (env := env1) (σ := σ) (by rw [List.append_assoc, List.append_assoc]; exact r1) (by simp [lx, l]) vs
          rwa [List.append_assoc, List.append_assoc] at z
        exact Rel.packL (as := []) (vs := []) r2 rfl hD
      · rintro i m H ⟨hi, rfl, env', acc, ha, hv, r2, q2⟩
        by_cases hlt : i < items.length
        · right
          have hd : items[i]? = some items[i] := List.getElem?_eq_getElem hlt
          have r3 : Rel K cl H (κx ++ (some (.lst true acc) :: (κ ++ env'))) (τx ++ (some (.ref p) :: (τ ++ wipe σ vs))) := Rel.swap3 (A := [some (.lst true acc)]) (X := [some (.ref p)]) r2 rfl lx
          obtain ⟨go, yl⟩ := it.go i items[i] hd H _ _ r3
          have r4' : ∀ x H', (Itl K a0).yld i H x H' → Rel K cl H' (some items[i] :: (some (.lst true acc) :: (κx ++ (κ ++ env')))) (some x :: (some (.ref p) :: (τx ++ (τ ++ wipe σ vs)))) := fun x H' y => by
            have z := yl x H' y
            have z2 := Rel.swap3 (A := some items[i] :: κx) (X := some x :: τx) (B := [some (.lst true acc)]) (Y := [some (.ref p)]) (C := κ ++ env') (Z := τ ++ wipe σ vs) z (by simp [lx]) rfl
            exact Rel.swap3 (A := [some (.lst true acc)]) (X := [some (.ref p)]) (B := [some items[i]]) (Y := [some x]) z2 rfl rfl
          rw [List.drop_eq_getElem_cons hlt] at q2
          unfold compGo at q2
          refine ⟨go, fun H' => ∃ m', m' < items.length - i ∧ Inv (i + 1) m' H', fun H' z => z, fun x H' y => hg _ _ _ _ ?_⟩
          have r4 := r4' x H' y
          cases e2 : b items[i] env' with
          | none => rw [e2] at q2; exact q2.elim
          | some env2 =>
            rw [e2] at q2
            simp only at q2
            refine ⟨some (.ref p) :: (τx ++ τ), some (.lst true acc) :: (κx ++ κ), env', items[i], by simpa [List.append_assoc] using r4, by simp [lx, l], env2, e2, fun σ2 H2 o2 r5 => ?_⟩
            have ew : wipe σ2 vs = wipe σ vs := by
              have z : wipe σ2 vs = wipe (wipe σ vs) vs := wipe_off o2.1 fun j hj => o2.2 j fun z => hj (hts j z)
              rw [z]
              exact wipe_off (wipe_length _ _) fun j hj => wipe_out hj
            refine ⟨ew, ht _ _ _ ?_⟩
            have back : ∀ {ρ : S} {env3 : Tw.Env} {H3 : Hp} {a : List D}, wipe ρ vs = wipe σ vs → Rel K cl H3 (some (.lst true a) :: (κx ++ (κ ++ env3))) (some (.ref p) :: (τx ++ (τ ++ ρ))) → Rel K cl H3 (some (.lst true a) :: (κx ++ (κ ++ wipeE env3 vs))) (some (.ref p) :: (τx ++ (τ ++ wipe σ vs))) := fun {ρ env3 H3 a} e z => by
              have z2 := rel_wipe (κ := some (.lst true a) :: (κx ++ κ)) (τ := some (.ref p) :: (τx ++ τ)) (env := env3) (σ := ρ) (by simpa [List.append_assoc] using z) (by simp [lx, l]) vs
              rw [e] at z2
              simpa [List.append_assoc] using z2
            refine ⟨some (.ref p) :: (τx ++ τ), some (.lst true acc) :: (κx ++ κ), env2, r5, by simp [lx, l], ?_⟩
            cases e3 : t env2 with
            | ok k env3 =>
              rw [e3] at q2
              simp only [Rs.ne, Rs.bind_ok] at q2
              intro H3 r6
              have r6' : Rel K cl H3 (some (.lst true acc) :: (κx ++ (κ ++ env3))) (some (.ref p) :: (τx ++ (τ ++ σ2))) := by simpa [List.append_assoc] using r6
              cases k with
              | true =>
                rw [if_pos rfl] at q2 ⊢
                refine he _ _ _ ⟨some (.ref p) :: (τx ++ τ), some (.lst true acc) :: (κx ++ κ), env3, r6, by simp [lx, l], ?_⟩
                cases e4 : f env3 with
                | ok y env4 =>
                  rw [e4] at q2
                  simp only [Rs.ne, Rs.bind_ok] at q2
                  intro v H4 r7
                  obtain ⟨us, t1, lu, r8⟩ := Rel.append (d := y) (acc := acc) (y := v) (p := p) (κ := κx ++ (κ ++ env4)) (τ := τx ++ (τ ++ σ2)) (by simpa [List.append_assoc] using r7)
                  exact ⟨us, t1, by omega, items.length - (i + 1), by omega, hlt, rfl, wipeE env4 vs, acc ++ [y], by simp; omega, fun v hv => wipeE_set hv, back ew r8, q2⟩
                | exc _ _ _ _ => rw [e4] at q2; exact q2.elim
                | stuck => rw [e4] at q2; exact q2.elim
              | false =>
                rw [if_neg Bool.false_ne_true] at q2 ⊢
                exact ⟨items.length - (i + 1), by omega, hlt, rfl, wipeE env3 vs, acc, by omega, fun v hv => wipeE_set hv, back ew r6', q2⟩
            | exc _ _ _ _ => rw [e3] at q2; exact q2.elim
            | stuck => rw [e3] at q2; exact q2.elim
        · left
          have e : i = items.length := by omega
          subst e
          have r3 : Rel K cl H (κx ++ (some (.lst true acc) :: (κ ++ env'))) (τx ++ (some (.ref p) :: (τ ++ wipe σ vs))) := Rel.swap3 (A := [some (.lst true acc)]) (X := [some (.ref p)]) r2 rfl lx
          refine ⟨it.stop _ (Nat.le_refl _) H _ _ r3, ?_⟩
          rw [List.drop_length] at q2
          have r4 := rel_unwipe (κ := κx ++ (some (.lst true acc) :: κ)) (τ := τx ++ (some (.ref p) :: τ)) (env := env') (σ := σ) (by simp [l, lx]) hv (by simpa [List.append_assoc] using r3)
          rw [eκ, eτ] at r4
          exact q2 _ _ (slot_in (A := [some (.lst true acc)]) (Y := [some (.ref p)]) (d := .lst true items) (v := .ref a0) r4 rfl l e0)
    · exact q.elim
variable {X : Cx}
theorem j_compB {i : Nat} {elt tg iter : Expr} {ifs : List Expr} {scope : Scope} {pos : Pos} {own : List (Str × Nat)} {bd : Bd} {ts : List Nat} {t : EvB} {f : Ev} (hc : X.calm = true) (hN : X.N.Nodup) (hi : PE X iter (tVar i)) (ok : BlkOk X.N X.env.scope scope own)
    (hg : ∀ (s : Shared) (H : Hp) (C : Addr) (cls : List (Str × Addr)) (fp : List Addr), PG (X.blk s H scope (compEnvC scope cls C X.env) fp) tg (tG X.K cl ts bd)) (ht : ∀ (s : Shared) (H : Hp) (C : Addr) (cls : List (Str × Addr)) (fp : List Addr), PTs (X.blk s H scope (compEnvC scope cls C X.env) fp) ifs (tT X.K cl (fun _ _ _ _ => False) t))
    (he : ∀ (s : Shared) (H : Hp) (C : Addr) (cls : List (Str × Addr)) (fp : List Addr), PE (X.blk s H scope (compEnvC scope cls C X.env) fp) elt (tE X.K cl (fun _ _ _ _ => False) f)) (hts : ∀ i ∈ ts, i ∈ own.map (·.2)) (hs : ∀ x, foldedSetIterable iter X.env x = pure x := by intro _; rfl) :
    PE X (.ListComp elt [⟨tg, iter, ifs, 0⟩] scope pos) (tE X.K cl W (fCompB (own.map (·.2)) i bd t f)) :=
  PE.imp (pe_lc hc hN (pi_list hi) ok hg ht he hs) fun σ H Q h => rd_compB hts h (fun _ _ _ _ z => z) (fun _ _ _ z => z) fun _ _ _ z => z
end
def k_cpB (i : Nat) (items : List D) : List D → Tw.Env → Rs D := fun ds env2 => .ok (.lst true ds) (env2.set i (some (.lst true items)))
theorem e_kcpB (i : Nat) (items ds : List D) (env2 : Tw.Env) : k_cpB i items ds env2 = .ok (.lst true ds) (env2.set i (some (.lst true items))) := (rfl)
def cpB (vs : List Nat) (i : Nat) (b : Bd) (t : EvB) (f : Ev) (env : Tw.Env) : Option (List D) → Rs D
  | some items => if D.oks items && lenOk items.length then (compGo vs b t f items [] (wipeE (env.set i none) vs)).bind (k_cpB i items) else .stuck
  | none => .stuck
theorem e_cpB (vs : List Nat) (i : Nat) (b : Bd) (t : EvB) (f : Ev) (env : Tw.Env) (items : List D) : cpB vs i b t f env (some items) = if D.oks items && lenOk items.length then (compGo vs b t f items [] (wipeE (env.set i none) vs)).bind (k_cpB i items) else .stuck := (rfl)
theorem e_compB (vs : List Nat) (i : Nat) (b : Bd) (t : EvB) (f : Ev) (env : Tw.Env) : fCompB vs i b t f env = cpB vs i b t f env (ownAt env i) := by
  unfold fCompB cpB
  cases ownAt env i <;> rfl
end Tw
noncomputable section
namespace K01
open PySem PySem.Spec PyProof.Rows L2 Tw
def topS (i : Nat) : Stmt := PySem.Challenge.pw_twostandings_k01_whole_contents_and_answ.main.body.getD i (.Pass ⟨0, 0, 0, 0⟩)
def clNs : List Str := ["Question"]
abbrev s_is_integer : Stmt := topS 1
abbrev N_is_integer : List Str := ["thing"]
theorem sc_is_integer : FnScope N_is_integer ["thing"] (defScope s_is_integer) := ⟨rfl, rfl, rfl, by decide +kernel, rfl, by decide +kernel, by decide +kernel⟩
abbrev s_is_within : Stmt := topS 2
abbrev N_is_within : List Str := ["thing", "least", "most"]
theorem sc_is_within : FnScope N_is_within ["thing", "least", "most"] (defScope s_is_within) := ⟨rfl, rfl, rfl, by decide +kernel, rfl, by decide +kernel, by decide +kernel⟩
abbrev s_is_lot : Stmt := topS 3
abbrev N_is_lot : List Str := ["thing", "many", "last", "number"]
theorem sc_is_lot : FnScope N_is_lot ["thing", "many"] (defScope s_is_lot) := ⟨rfl, rfl, rfl, by decide +kernel, rfl, by decide +kernel, by decide +kernel⟩
abbrev s_check_sizes : Stmt := topS 15
abbrev N_check_sizes : List Str := ["thing", "size"]
theorem sc_check_sizes : FnScope N_check_sizes ["thing"] (defScope s_check_sizes) := ⟨rfl, rfl, rfl, by decide +kernel, rfl, by decide +kernel, by decide +kernel⟩
abbrev s_tuples_of : Stmt := topS 16
abbrev N_tuples_of : List Str := ["sizes", "found", "size", "row", "worth"]
theorem sc_tuples_of : FnScope N_tuples_of ["sizes"] (defScope s_tuples_of) := ⟨rfl, rfl, rfl, by decide +kernel, rfl, by decide +kernel, by decide +kernel⟩
abbrev s_contents : Stmt := topS 17
abbrev N_contents : List Str := ["sizes"]
theorem sc_contents : FnScope N_contents ["sizes"] (defScope s_contents) := ⟨rfl, rfl, rfl, by decide +kernel, rfl, by decide +kernel, by decide +kernel⟩
abbrev s_many_contents : Stmt := topS 18
abbrev N_many_contents : List Str := ["sizes", "found", "size"]
theorem sc_many_contents : FnScope N_many_contents ["sizes"] (defScope s_many_contents) := ⟨rfl, rfl, rfl, by decide +kernel, rfl, by decide +kernel, by decide +kernel⟩
abbrev s_is_content : Stmt := topS 19
abbrev N_is_content : List Str := ["sizes", "thing", "size", "worth"]
theorem sc_is_content : FnScope N_is_content ["sizes", "thing"] (defScope s_is_content) := ⟨rfl, rfl, rfl, by decide +kernel, rfl, by decide +kernel, by decide +kernel⟩
abbrev s_check_content : Stmt := topS 20
abbrev N_check_content : List Str := ["sizes", "thing"]
theorem sc_check_content : FnScope N_check_content ["sizes", "thing"] (defScope s_check_content) := ⟨rfl, rfl, rfl, by decide +kernel, rfl, by decide +kernel, by decide +kernel⟩
abbrev s_number_of : Stmt := topS 21
abbrev N_number_of : List Str := ["sizes", "content", "found", "size", "worth"]
theorem sc_number_of : FnScope N_number_of ["sizes", "content"] (defScope s_number_of) := ⟨rfl, rfl, rfl, by decide +kernel, rfl, by decide +kernel, by decide +kernel⟩
abbrev s_answer : Stmt := topS 23
abbrev N_answer : List Str := ["question", "content"]
theorem sc_answer : FnScope N_answer ["question", "content"] (defScope s_answer) := ⟨rfl, rfl, rfl, by decide +kernel, rfl, by decide +kernel, by decide +kernel⟩
abbrev s_many_answers : Stmt := topS 24
abbrev N_many_answers : List Str := ["question"]
theorem sc_many_answers : FnScope N_many_answers ["question"] (defScope s_many_answers) := ⟨rfl, rfl, rfl, by decide +kernel, rfl, by decide +kernel, by decide +kernel⟩
abbrev s_singles : Stmt := topS 25
abbrev N_singles : List Str := ["sizes", "pin"]
theorem sc_singles : FnScope N_singles ["sizes"] (defScope s_singles) := ⟨rfl, rfl, rfl, by decide +kernel, rfl, by decide +kernel, by decide +kernel⟩
abbrev s_sizes_at : Stmt := topS 26
abbrev N_sizes_at : List Str := ["sizes", "lot", "pin"]
theorem sc_sizes_at : FnScope N_sizes_at ["sizes", "lot"] (defScope s_sizes_at) := ⟨rfl, rfl, rfl, by decide +kernel, rfl, by decide +kernel, by decide +kernel⟩
abbrev s_joints_of : Stmt := topS 27
abbrev N_joints_of : List Str := ["sizes", "lot"]
theorem sc_joints_of : FnScope N_joints_of ["sizes", "lot"] (defScope s_joints_of) := ⟨rfl, rfl, rfl, by decide +kernel, rfl, by decide +kernel, by decide +kernel⟩
abbrev s_joints : Stmt := topS 28
abbrev N_joints : List Str := ["sizes", "lot"]
theorem sc_joints : FnScope N_joints ["sizes", "lot"] (defScope s_joints) := ⟨rfl, rfl, rfl, by decide +kernel, rfl, by decide +kernel, by decide +kernel⟩
abbrev s__law_hand : Stmt := topS 30
abbrev N__law_hand : List Str := ["script", "cells", "cell"]
theorem sc__law_hand : FnScope N__law_hand ["script"] (defScope s__law_hand) := ⟨rfl, rfl, rfl, by decide +kernel, rfl, by decide +kernel, by decide +kernel⟩
abbrev s__law_draw : Stmt := topS 31
abbrev N__law_draw : List Str := ["hand", "many", "cell", "digit", "number"]
theorem sc__law_draw : FnScope N__law_draw ["hand", "many"] (defScope s__law_draw) := ⟨rfl, rfl, rfl, by decide +kernel, rfl, by decide +kernel, by decide +kernel⟩
abbrev s__law_any : Stmt := topS 32
abbrev N__law_any : List Str := ["hand", "some"]
theorem sc__law_any : FnScope N__law_any ["hand", "some"] (defScope s__law_any) := ⟨rfl, rfl, rfl, by decide +kernel, rfl, by decide +kernel, by decide +kernel⟩
abbrev s__law_all : Stmt := topS 33
abbrev N__law_all : List Str := ["sizes", "found", "size", "longer", "row", "worth"]
theorem sc__law_all : FnScope N__law_all ["sizes"] (defScope s__law_all) := ⟨rfl, rfl, rfl, by decide +kernel, rfl, by decide +kernel, by decide +kernel⟩
abbrev s__law_sizes : Stmt := topS 34
abbrev N__law_sizes : List Str := ["hand", "most", "bound", "found", "many", "turn", "size"]
theorem sc__law_sizes : FnScope N__law_sizes ["hand", "most", "bound"] (defScope s__law_sizes) := ⟨rfl, rfl, rfl, by decide +kernel, rfl, by decide +kernel, by decide +kernel⟩
abbrev s__law_joints : Stmt := topS 35
abbrev N__law_joints : List Str := ["sizes", "lot", "pin"]
theorem sc__law_joints : FnScope N__law_joints ["sizes", "lot"] (defScope s__law_joints) := ⟨rfl, rfl, rfl, by decide +kernel, rfl, by decide +kernel, by decide +kernel⟩
abbrev s__law_lots : Stmt := topS 36
abbrev N__law_lots : List Str := ["many", "found", "pin", "lot"]
theorem sc__law_lots : FnScope N__law_lots ["many"] (defScope s__law_lots) := ⟨rfl, rfl, rfl, by decide +kernel, rfl, by decide +kernel, by decide +kernel⟩
abbrev s__law_counted : Stmt := topS 37
abbrev N__law_counted : List Str := ["sizes", "number", "found", "size"]
theorem sc__law_counted : FnScope N__law_counted ["sizes", "number"] (defScope s__law_counted) := ⟨rfl, rfl, rfl, by decide +kernel, rfl, by decide +kernel, by decide +kernel⟩
abbrev s__law_listed_right : Stmt := topS 38
abbrev N__law_listed_right : List Str := ["sizes", "many", "size", "due", "number", "told", "pin"]
theorem sc__law_listed_right : FnScope N__law_listed_right ["sizes"] (defScope s__law_listed_right) := ⟨rfl, rfl, rfl, by decide +kernel, rfl, by decide +kernel, by decide +kernel⟩
abbrev s_Question_eq : Stmt := inClass (topS 22) 1
abbrev N_Question_eq : List Str := ["self", "other"]
theorem sc_Question_eq : FnScope N_Question_eq ["self", "other"] (defScope s_Question_eq) := ⟨rfl, rfl, rfl, by decide +kernel, rfl, by decide +kernel, by decide +kernel⟩
abbrev s_Question_init : Stmt := inClass (topS 22) 0
abbrev N_Question_init : List Str := ["self", "sizes", "answers", "one"]
theorem sc_Question_init : FnScope N_Question_init ["self", "sizes", "answers"] (defScope s_Question_init) := ⟨rfl, rfl, rfl, by decide +kernel, rfl, by decide +kernel, by decide +kernel⟩
abbrev s_law : Stmt := topS 39
abbrev N_law : List Str := ["script", "hand", "turn", "sizes", "lot", "every", "top", "some", "asked", "number", "due", "told", "one"]
theorem sc_law : FnScope N_law ["script"] (defScope s_law) := ⟨rfl, rfl, rfl, by decide +kernel, rfl, by decide +kernel, by decide +kernel⟩
def isaT : List (Tg × Tg × Bool) := [(.ty "int", .ty "int", true), (.ty "bool", .ty "int", true), (.ty "str", .ty "int", false), (.ty "NoneType", .ty "int", false), (.ty "tuple", .ty "int", false), (.ty "list", .ty "int", false), (.ty "dict", .ty "int", false), (.cl 0, .ty "int", false), (.ty "int", .ty "bool", false), (.ty "bool", .ty "bool", true), (.ty "str", .ty "bool", false), (.ty "NoneType", .ty "bool", false), (.ty "tuple", .ty "bool", false), (.ty "list", .ty "bool", false), (.ty "dict", .ty "bool", false), (.cl 0, .ty "bool", false), (.ty "int", .ty "tuple", false), (.ty "bool", .ty "tuple", false), (.ty "str", .ty "tuple", false), (.ty "NoneType", .ty "tuple", false), (.ty "tuple", .ty "tuple", true), (.ty "list", .ty "tuple", false), (.ty "dict", .ty "tuple", false), (.cl 0, .ty "tuple", false), (.ty "int", .ty "list", false), (.ty "bool", .ty "list", false), (.ty "str", .ty "list", false), (.ty "NoneType", .ty "list", false), (.ty "tuple", .ty "list", false), (.ty "list", .ty "list", true), (.ty "dict", .ty "list", false), (.cl 0, .ty "list", false), (.ty "int", .cl 0, false), (.ty "bool", .cl 0, false), (.ty "str", .cl 0, false), (.ty "NoneType", .cl 0, false), (.ty "tuple", .cl 0, false), (.ty "list", .cl 0, false), (.ty "dict", .cl 0, false), (.cl 0, .cl 0, true)]
def isa : Tg → Tg → Option Bool := isaBy isaT
@[simp] theorem isa_0 : isa (.ty "int") (.ty "int") = some true := rfl
@[simp] theorem isa_1 : isa (.ty "bool") (.ty "int") = some true := rfl
@[simp] theorem isa_2 : isa (.ty "str") (.ty "int") = some false := rfl
@[simp] theorem isa_3 : isa (.ty "NoneType") (.ty "int") = some false := rfl
@[simp] theorem isa_4 : isa (.ty "tuple") (.ty "int") = some false := rfl
@[simp] theorem isa_5 : isa (.ty "list") (.ty "int") = some false := rfl
@[simp] theorem isa_6 : isa (.ty "dict") (.ty "int") = some false := rfl
@[simp] theorem isa_7 : isa (.cl 0) (.ty "int") = some false := rfl
@[simp] theorem isa_8 : isa (.ty "int") (.ty "bool") = some false := rfl
@[simp] theorem isa_9 : isa (.ty "bool") (.ty "bool") = some true := rfl
@[simp] theorem isa_10 : isa (.ty "str") (.ty "bool") = some false := rfl
@[simp] theorem isa_11 : isa (.ty "NoneType") (.ty "bool") = some false := rfl
@[simp] theorem isa_12 : isa (.ty "tuple") (.ty "bool") = some false := rfl
@[simp] theorem isa_13 : isa (.ty "list") (.ty "bool") = some false := rfl
@[simp] theorem isa_14 : isa (.ty "dict") (.ty "bool") = some false := rfl
@[simp] theorem isa_15 : isa (.cl 0) (.ty "bool") = some false := rfl
@[simp] theorem isa_16 : isa (.ty "int") (.ty "tuple") = some false := rfl
@[simp] theorem isa_17 : isa (.ty "bool") (.ty "tuple") = some false := rfl
@[simp] theorem isa_18 : isa (.ty "str") (.ty "tuple") = some false := rfl
@[simp] theorem isa_19 : isa (.ty "NoneType") (.ty "tuple") = some false := rfl
@[simp] theorem isa_20 : isa (.ty "tuple") (.ty "tuple") = some true := rfl
@[simp] theorem isa_21 : isa (.ty "list") (.ty "tuple") = some false := rfl
@[simp] theorem isa_22 : isa (.ty "dict") (.ty "tuple") = some false := rfl
@[simp] theorem isa_23 : isa (.cl 0) (.ty "tuple") = some false := rfl
@[simp] theorem isa_24 : isa (.ty "int") (.ty "list") = some false := rfl
@[simp] theorem isa_25 : isa (.ty "bool") (.ty "list") = some false := rfl
@[simp] theorem isa_26 : isa (.ty "str") (.ty "list") = some false := rfl
@[simp] theorem isa_27 : isa (.ty "NoneType") (.ty "list") = some false := rfl
@[simp] theorem isa_28 : isa (.ty "tuple") (.ty "list") = some false := rfl
@[simp] theorem isa_29 : isa (.ty "list") (.ty "list") = some true := rfl
@[simp] theorem isa_30 : isa (.ty "dict") (.ty "list") = some false := rfl
@[simp] theorem isa_31 : isa (.cl 0) (.ty "list") = some false := rfl
@[simp] theorem isa_32 : isa (.ty "int") (.cl 0) = some false := rfl
@[simp] theorem isa_33 : isa (.ty "bool") (.cl 0) = some false := rfl
@[simp] theorem isa_34 : isa (.ty "str") (.cl 0) = some false := rfl
@[simp] theorem isa_35 : isa (.ty "NoneType") (.cl 0) = some false := rfl
@[simp] theorem isa_36 : isa (.ty "tuple") (.cl 0) = some false := rfl
@[simp] theorem isa_37 : isa (.ty "list") (.cl 0) = some false := rfl
@[simp] theorem isa_38 : isa (.ty "dict") (.cl 0) = some false := rfl
@[simp] theorem isa_39 : isa (.cl 0) (.cl 0) = some true := rfl
def own_sizes : Nat → Bool := fun c => c == 0
def own_answers : Nat → Bool := fun c => c == 0
structure Txt (K : PySem.W.Frag) (mg : Str → Option Value) (cl : Nat → Addr) : Prop where
  z_abs : mg "abs" = none
  z_all : mg "all" = none
  z_bool : mg "bool" = none
  z_int : mg "int" = none
  z_isinstance : mg "isinstance" = none
  z_len : mg "len" = none
  z_list : mg "list" = none
  z_range : mg "range" = none
  z_set : mg "set" = none
  z_tuple : mg "tuple" = none
  z_zip : mg "zip" = none
  c_LEAST_WORTHS : ∃ t, mg "LEAST_WORTHS" = some (.int 2 t)
  c_MOST_ANSWER : ∃ t, mg "MOST_ANSWER" = some (.int 7 t)
  c_MOST_PINS : ∃ t, mg "MOST_PINS" = some (.int 6 t)
  c_MOST_WORTHS : ∃ t, mg "MOST_WORTHS" = some (.int 4 t)
  k_Question : mg "Question" = some (.ref (cl 0))
  isa : IsaOk K cl isa
  f_sizes : FldOk K cl own_sizes "sizes"
  f_answers : FldOk K cl own_answers "answers"
  F_is_integer : IsFn K mg "is_integer" "is_integer" s_is_integer ["thing"]
  F_is_within : IsFn K mg "is_within" "is_within" s_is_within ["thing", "least", "most"]
  F_is_lot : IsFn K mg "is_lot" "is_lot" s_is_lot ["thing", "many"]
  F_check_sizes : IsFn K mg "check_sizes" "check_sizes" s_check_sizes ["thing"]
  F_tuples_of : IsFn K mg "tuples_of" "tuples_of" s_tuples_of ["sizes"]
  F_contents : IsFn K mg "contents" "contents" s_contents ["sizes"]
  F_many_contents : IsFn K mg "many_contents" "many_contents" s_many_contents ["sizes"]
  F_is_content : IsFn K mg "is_content" "is_content" s_is_content ["sizes", "thing"]
  F_check_content : IsFn K mg "check_content" "check_content" s_check_content ["sizes", "thing"]
  F_number_of : IsFn K mg "number_of" "number_of" s_number_of ["sizes", "content"]
  F_answer : IsFn K mg "answer" "answer" s_answer ["question", "content"]
  F_many_answers : IsFn K mg "many_answers" "many_answers" s_many_answers ["question"]
  F_singles : IsFn K mg "singles" "singles" s_singles ["sizes"]
  F_sizes_at : IsFn K mg "sizes_at" "sizes_at" s_sizes_at ["sizes", "lot"]
  F_joints_of : IsFn K mg "joints_of" "joints_of" s_joints_of ["sizes", "lot"]
  F_joints : IsFn K mg "joints" "joints" s_joints ["sizes", "lot"]
  F__law_hand : IsFn K mg "_law_hand" "_law_hand" s__law_hand ["script"]
  F__law_draw : IsFn K mg "_law_draw" "_law_draw" s__law_draw ["hand", "many"]
  F__law_any : IsFn K mg "_law_any" "_law_any" s__law_any ["hand", "some"]
  F__law_all : IsFn K mg "_law_all" "_law_all" s__law_all ["sizes"]
  F__law_sizes : IsFn K mg "_law_sizes" "_law_sizes" s__law_sizes ["hand", "most", "bound"]
  F__law_joints : IsFn K mg "_law_joints" "_law_joints" s__law_joints ["sizes", "lot"]
  F__law_lots : IsFn K mg "_law_lots" "_law_lots" s__law_lots ["many"]
  F__law_counted : IsFn K mg "_law_counted" "_law_counted" s__law_counted ["sizes", "number"]
  F__law_listed_right : IsFn K mg "_law_listed_right" "_law_listed_right" s__law_listed_right ["sizes"]
  F_Question_eq : ∃ f, EqF K (cl 0) f ∧ IsM K f "__eq__" "Question.__eq__" s_Question_eq ["self", "other"]
  F_Question_init : ∃ f, Mk K (cl 0) f ∧ IsM K f "__init__" "Question.__init__" s_Question_init ["self", "sizes", "answers"]
variable {P : Program} {w : World} {K : PySem.W.Frag} {mg : Str → Option Value} {base : Heap} {cl : Nat → Addr}
def b_is_integer : Sv := (sSeq (sRet (fAnd (fN (gIsi isa) [(.val (fVar 0)), (.val (fK (.ty "int")))]) (fNot (fN (gIsi isa) [(.val (fVar 0)), (.val (fK (.ty "bool")))]))))
    sNil)
def h_is_integer : List D → Rf := runB 1 [] b_is_integer
theorem ok_is_integer (T : Txt K mg cl) : FnD P w K mg base cl "is_integer" 1 1 [] h_is_integer := by
  obtain ⟨f, fd, gm, F, hb⟩ := T.F_is_integer
  refine def_ok (k := 0) F sc_is_integer gm hb (by decide) (by decide) (by decide) fun cdv A outer s H E hr tk hp => ?_
  have nd : N_is_integer.Nodup := by decide +kernel
  exact (ss_cons (s_ret (j_and (j_callB call_isi (s_isi T.isa) T.z_isinstance (by decide +kernel) (ja_cons (j_var (pv 0)) (ja_cons (j_ty T.z_int (by decide +kernel)) ja_nil))) (j_one (j_not (j_callB call_isi (s_isi T.isa) T.z_isinstance (by decide +kernel) (ja_cons (j_var (pv 0)) (ja_cons (j_ty T.z_bool (by decide +kernel)) ja_nil)))))))
      ss_nil)
def b_is_within : Sv := (sSeq (sRet (fAnd (fCall [] h_is_integer [(.val (fVar 0))]) (fChain gLe gLe (fVar 1) (fVar 0) (fVar 2))))
    sNil)
def h_is_within : List D → Rf := runB 3 [] b_is_within
theorem ok_is_within (T : Txt K mg cl) : FnD P w K mg base cl "is_within" 2 3 [] h_is_within := by
  obtain ⟨f, fd, gm, F, hb⟩ := T.F_is_within
  refine def_ok (k := 1) F sc_is_within gm hb (by decide) (by decide) (by decide) fun cdv A outer s H E hr tk hp => ?_
  have nd : N_is_within.Nodup := by decide +kernel
  exact (ss_cons (s_ret (j_and (j_call (ok_is_integer T) tk hr (by decide) rfl (ja_cons (o1 := .val _) (j_var (pv 0)) ja_nil)) (j_one (j_chain op_le s_le op_le s_le (j_var (pv 1)) (j_var (pv 0)) (j_var (pv 2))))))
      ss_nil)
def b_is_lot : Sv := (sSeq (sIf (bNot (bE (fN (gIsi isa) [(.val (fVar 0)), (.val (fK (.ty "tuple")))]))) (sSeq (sRet (fK (.bl false)))
    sNil) sNil)
    (sSeq (sAsg (bNm 2) (fN gNeg [(.val (fK (.int 1)))]))
    (sSeq (sFor (iSeq (fVar 0)) (bNm 3) (sSeq (sIf (bNot (bE (fCall [] h_is_within [(.val (fVar 3)), (.val (fN gAdd [(.val (fVar 2)), (.val (fK (.int 1)))])), (.val (fN gSub [(.val (fVar 1)), (.val (fK (.int 1)))]))]))) (sSeq (sRet (fK (.bl false)))
    sNil) sNil)
    (sSeq (sAsg (bNm 2) (fVar 3))
    sNil)))
    (sSeq (sRet (fK (.bl true)))
    sNil))))
def h_is_lot : List D → Rf := runB 4 [] b_is_lot
theorem ok_is_lot (T : Txt K mg cl) : FnD P w K mg base cl "is_lot" 3 2 [] h_is_lot := by
  obtain ⟨f, fd, gm, F, hb⟩ := T.F_is_lot
  refine def_ok (k := 2) F sc_is_lot gm hb (by decide) (by decide) (by decide) fun cdv A outer s H E hr tk hp => ?_
  have nd : N_is_lot.Nodup := by decide +kernel
  exact (ss_cons (s_if (t_not (t_e (j_callB call_isi (s_isi T.isa) T.z_isinstance (by decide +kernel) (ja_cons (j_var (pv 0)) (ja_cons (j_ty T.z_tuple (by decide +kernel)) ja_nil))))) (ss_cons (s_ret j_bl)
      ss_nil) ss_nil)
      (ss_cons (s_set (i := 2) nd (j_un un_neg s_neg j_int))
      (ss_cons (s_for hp rfl (i_seq (j_var (pv 0))) (g_nm nd (i := 3))
      (ss_cons (s_if (t_not (t_e (j_call (ok_is_within T) tk hr (by decide) rfl (ja_cons (o1 := .val _) (j_var (pv 3)) (ja_cons (o1 := .val _) (j_bin op_addAll s_add (j_var (pv 2)) j_int) (ja_cons (o1 := .val _) (j_bin op_sub s_sub (j_var (pv 1)) j_int) ja_nil)))))) (ss_cons (s_ret j_bl)
      ss_nil) ss_nil)
      (ss_cons (s_set (i := 2) nd (j_var (pv 3)))
      ss_nil)))
      (ss_cons (s_ret j_bl)
      ss_nil))))
def b_check_sizes : Sv := (sSeq (sIf (bOr (bNot (bE (fN (gIsi isa) [(.val (fVar 0)), (.val (fK (.ty "tuple")))]))) (bNot (bE (fChain gLe gLe (fK (.int 1)) (fN gLen [(.val (fVar 0))]) (fK (.int 6)))))) (sSeq sNever
    sNil) sNil)
    (sSeq (sIf (bNot (bE (fN gAll [(.val (fComp [1] (iSeq (fVar 0)) (bNm 1) bTrue (fCall [] h_is_within [(.val (fVar 1)), (.val (fK (.int 2))), (.val (fK (.int 4)))])))]))) (sSeq sNever
    sNil) sNil)
    sNil))
def h_check_sizes : List D → Rf := runB 2 [] b_check_sizes
theorem ok_check_sizes (T : Txt K mg cl) : FnD P w K mg base cl "check_sizes" 3 1 [] h_check_sizes := by
  obtain ⟨f, fd, gm, F, hb⟩ := T.F_check_sizes
  refine def_ok (k := 2) F sc_check_sizes gm hb (by decide) (by decide) (by decide) fun cdv A outer s H E hr tk hp => ?_
  have nd : N_check_sizes.Nodup := by decide +kernel
  exact (ss_cons (s_if (PW.pt (t_or (t_not (t_e (j_callB call_isi (s_isi T.isa) T.z_isinstance (by decide +kernel) (ja_cons (j_var (pv 0)) (ja_cons (j_ty T.z_tuple (by decide +kernel)) ja_nil))))) (t_or1 (t_not (t_chain op_le s_le op_le s_le (fun _ _ z => int2_bl z) j_int (j_callB cr_len s_len T.z_len (by decide +kernel) (ja_cons (j_var (pv 0)) ja_nil)) (j_gint T.c_MOST_PINS.choose_spec)))))) (ss_cons s_never
      ss_nil) ss_nil)
      (ss_cons (s_if (t_not (t_e (j_callB (cr_all rfl) s_all T.z_all (by decide +kernel) (ja_cons (j_comp (own := [("size", 1)]) rfl nd (i_seq (j_var (pv 0))) (blkOk_by (own := [("size", 1)]) (N := N_check_sizes) (sc := defScope s_check_sizes) (by decide +kernel)) (fun _ _ _ _ _ => (g_nm nd (i := 1))) (fun _ _ _ _ _ => c_nil) (fun _ _ _ _ _ => (j_call (ok_is_within T) takes0 hr (by decide) rfl (ja_cons (o1 := .val _) (j_var (pv 1)) (ja_cons (o1 := .val _) (j_gint T.c_LEAST_WORTHS.choose_spec) (ja_cons (o1 := .val _) (j_gint T.c_MOST_WORTHS.choose_spec) ja_nil))))) (by decide)) ja_nil)))) (ss_cons s_never
      ss_nil) ss_nil)
      ss_nil))
def b_tuples_of : Sv := (sSeq (sAsg (bNm 1) (fLst [(fTup [])]))
    (sSeq (sFor (iSeq (fVar 0)) (bNm 2) (sSeq (sAsg (bNm 1) (fComp2 [3, 4] [4] (iSeq (fVar 1)) (bNm 3) bTrue (iRng [(fVar 2)]) (bNm 4) bTrue (fN gAdd [(.val (fVar 3)), (.val (fTup [(fVar 4)]))])))
    sNil))
    (sSeq (sRet (fMove 1))
    sNil)))
def h_tuples_of : List D → Rf := runB 5 [] b_tuples_of
theorem ok_tuples_of (T : Txt K mg cl) : FnD P w K mg base cl "tuples_of" 1 1 [] h_tuples_of := by
  obtain ⟨f, fd, gm, F, hb⟩ := T.F_tuples_of
  refine def_ok (k := 0) F sc_tuples_of gm hb (by decide) (by decide) (by decide) fun cdv A outer s H E hr tk hp => ?_
  have nd : N_tuples_of.Nodup := by decide +kernel
  exact (ss_cons (s_set (i := 1) nd (j_lst (fs := [(fTup [])]) (ja_cons (o1 := .val _) (j_tup (fs := []) ja_nil) ja_nil)))
      (ss_cons (s_for hp rfl (i_seq (j_var (pv 0))) (g_nm nd (i := 2))
      (ss_cons (s_setLc2 (i := 1) (own := [("row", 3), ("worth", 4)]) (vs1 := [4]) rfl nd rfl rfl (sw_true rfl rfl rfl rfl) (i_seq (j_var (pv 1))) (blkOk_by (own := [("row", 3), ("worth", 4)]) (N := N_tuples_of) (sc := defScope s_tuples_of) (by decide +kernel)) (by decide) (fun _ _ _ _ _ => (g_nm nd (i := 3))) (fun _ _ _ _ _ => c_nil) (fun _ _ _ _ _ => (i_rng1 T.z_range (ja_cons (o1 := .val _) (j_var (pv 2)) ja_nil))) (fun _ _ _ _ _ => (g_nm nd (i := 4))) (fun _ _ _ _ _ => c_nil) (fun _ _ _ _ _ => (j_bin op_addAll s_add (j_var (pv 3)) (j_tup (fs := [(fVar 4)]) (ja_cons (o1 := .val _) (j_var (pv 4)) ja_nil)))) (by decide))
      ss_nil))
      (ss_cons (s_ret (j_move (pv 1)))
      ss_nil)))
def b_contents : Sv := (sSeq (sExpr (fCall [] h_check_sizes [(.val (fVar 0))]))
    (sSeq (sRet (fCall [] h_tuples_of [(.val (fVar 0))]))
    sNil))
def h_contents : List D → Rf := runB 1 [] b_contents
theorem ok_contents (T : Txt K mg cl) : FnD P w K mg base cl "contents" 4 1 [] h_contents := by
  obtain ⟨f, fd, gm, F, hb⟩ := T.F_contents
  refine def_ok (k := 3) F sc_contents gm hb (by decide) (by decide) (by decide) fun cdv A outer s H E hr tk hp => ?_
  have nd : N_contents.Nodup := by decide +kernel
  exact (ss_cons (s_expr (j_call (ok_check_sizes T) tk hr (by decide) rfl (ja_cons (o1 := .val _) (j_var (pv 0)) ja_nil)))
      (ss_cons (s_ret (j_call (ok_tuples_of T) tk hr (by decide) rfl (ja_cons (o1 := .val _) (j_var (pv 0)) ja_nil)))
      ss_nil))
def b_many_contents : Sv := (sSeq (sAsg (bNm 1) (fK (.int 1)))
    (sSeq (sFor (iSeq (fVar 0)) (bNm 2) (sSeq (sAug 1 gIMul (fVar 2))
    sNil))
    (sSeq (sRet (fMove 1))
    sNil)))
def h_many_contents : List D → Rf := runB 3 [] b_many_contents
theorem ok_many_contents (T : Txt K mg cl) : FnD P w K mg base cl "many_contents" 1 1 [] h_many_contents := by
  obtain ⟨f, fd, gm, F, hb⟩ := T.F_many_contents
  refine def_ok (k := 0) F sc_many_contents gm hb (by decide) (by decide) (by decide) fun cdv A outer s H E hr tk hp => ?_
  have nd : N_many_contents.Nodup := by decide +kernel
  exact (ss_cons (s_set (i := 1) nd j_int)
      (ss_cons (s_for hp rfl (i_seq (j_var (pv 0))) (g_nm nd (i := 2))
      (ss_cons (s_aug (i := 1) nd iop_mulA s_imul (j_var (pv 2)))
      ss_nil))
      (ss_cons (s_ret (j_move (pv 1)))
      ss_nil)))
def b_is_content : Sv := (sSeq (sIf (bOr (bNot (bE (fN (gIsi isa) [(.val (fVar 1)), (.val (fK (.ty "tuple")))]))) (bE (fN gNe [(.val (fN gLen [(.val (fVar 1))])), (.val (fN gLen [(.val (fVar 0))]))]))) (sSeq (sRet (fK (.bl false)))
    sNil) sNil)
    (sSeq (sRet (fN gAll [(.val (fComp [2, 3] (iZip [(fVar 0), (fVar 1)]) (bTp (bCons (bNm 2) (bCons (bNm 3) bNil))) bTrue (fCall [] h_is_within [(.val (fVar 3)), (.val (fK (.int 0))), (.val (fN gSub [(.val (fVar 2)), (.val (fK (.int 1)))]))])))]))
    sNil))
def h_is_content : List D → Rf := runB 4 [] b_is_content
theorem ok_is_content (T : Txt K mg cl) : FnD P w K mg base cl "is_content" 3 2 [] h_is_content := by
  obtain ⟨f, fd, gm, F, hb⟩ := T.F_is_content
  refine def_ok (k := 2) F sc_is_content gm hb (by decide) (by decide) (by decide) fun cdv A outer s H E hr tk hp => ?_
  have nd : N_is_content.Nodup := by decide +kernel
  exact (ss_cons (s_if (PW.pt (t_or (t_not (t_e (j_callB call_isi (s_isi T.isa) T.z_isinstance (by decide +kernel) (ja_cons (j_var (pv 1)) (ja_cons (j_ty T.z_tuple (by decide +kernel)) ja_nil))))) (t_or1 (t_cmp (op_neD hr.units) s_ne (fun _ _ z => ne_bl z) (nomark _) (j_callB cr_len s_len T.z_len (by decide +kernel) (ja_cons (j_var (pv 1)) ja_nil)) (j_callB cr_len s_len T.z_len (by decide +kernel) (ja_cons (j_var (pv 0)) ja_nil)))))) (ss_cons (s_ret j_bl)
      ss_nil) ss_nil)
      (ss_cons (s_ret (j_callB (cr_all rfl) s_all T.z_all (by decide +kernel) (ja_cons (j_comp (own := [("size", 2), ("worth", 3)]) rfl nd (i_zip T.z_zip (ja_cons (o1 := .val _) (j_var (pv 0)) (ja_cons (o1 := .val _) (j_var (pv 1)) ja_nil))) (blkOk_by (own := [("size", 2), ("worth", 3)]) (N := N_is_content) (sc := defScope s_is_content) (by decide +kernel)) (fun _ _ _ _ _ => (g_tp (n := 2) rfl (gs_cons (g_nm nd (i := 2)) (gs_cons (g_nm nd (i := 3)) gs_nil)) (fun _ _ _ z => bCons_len (fun _ _ _ z => bCons_len (fun _ _ _ z => bNil_len z) z) z))) (fun _ _ _ _ _ => c_nil) (fun _ _ _ _ _ => (j_call (ok_is_within T) takes0 hr (by decide) rfl (ja_cons (o1 := .val _) (j_var (pv 3)) (ja_cons (o1 := .val _) j_int (ja_cons (o1 := .val _) (j_bin op_sub s_sub (j_var (pv 2)) j_int) ja_nil))))) (by decide)) ja_nil)))
      ss_nil))
def b_check_content : Sv := (sSeq (sIf (bNot (bE (fCall [] h_is_content [(.val (fVar 0)), (.val (fVar 1))]))) (sSeq sNever
    sNil) sNil)
    sNil)
def h_check_content : List D → Rf := runB 2 [] b_check_content
theorem ok_check_content (T : Txt K mg cl) : FnD P w K mg base cl "check_content" 4 2 [] h_check_content := by
  obtain ⟨f, fd, gm, F, hb⟩ := T.F_check_content
  refine def_ok (k := 3) F sc_check_content gm hb (by decide) (by decide) (by decide) fun cdv A outer s H E hr tk hp => ?_
  have nd : N_check_content.Nodup := by decide +kernel
  exact (ss_cons (s_if (t_not (t_e (j_call (ok_is_content T) tk hr (by decide) rfl (ja_cons (o1 := .val _) (j_var (pv 0)) (ja_cons (o1 := .val _) (j_var (pv 1)) ja_nil))))) (ss_cons s_never
      ss_nil) ss_nil)
      ss_nil)
def b_number_of : Sv := (sSeq (sAsg (bNm 2) (fK (.int 0)))
    (sSeq (sFor (iZip [(fVar 0), (fVar 1)]) (bTp (bCons (bNm 3) (bCons (bNm 4) bNil))) (sSeq (sAsg (bNm 2) (fN gAdd [(.val (fN gMul [(.val (fVar 2)), (.val (fVar 3))])), (.val (fVar 4))]))
    sNil))
    (sSeq (sRet (fMove 2))
    sNil)))
def h_number_of : List D → Rf := runB 5 [] b_number_of
theorem ok_number_of (T : Txt K mg cl) : FnD P w K mg base cl "number_of" 1 2 [] h_number_of := by
  obtain ⟨f, fd, gm, F, hb⟩ := T.F_number_of
  refine def_ok (k := 0) F sc_number_of gm hb (by decide) (by decide) (by decide) fun cdv A outer s H E hr tk hp => ?_
  have nd : N_number_of.Nodup := by decide +kernel
  exact (ss_cons (s_set (i := 2) nd j_int)
      (ss_cons (s_for hp rfl (i_zip T.z_zip (ja_cons (o1 := .val _) (j_var (pv 0)) (ja_cons (o1 := .val _) (j_var (pv 1)) ja_nil))) (g_tp (n := 2) rfl (gs_cons (g_nm nd (i := 3)) (gs_cons (g_nm nd (i := 4)) gs_nil)) (fun _ _ _ z => bCons_len (fun _ _ _ z => bCons_len (fun _ _ _ z => bNil_len z) z) z))
      (ss_cons (s_set (i := 2) nd (j_bin op_addAll s_add (j_bin op_mulAll s_mul (j_var (pv 2)) (j_var (pv 3))) (j_var (pv 4))))
      ss_nil))
      (ss_cons (s_ret (j_move (pv 2)))
      ss_nil)))
def b_answer : Sv := (sSeq (sExpr (fCall [] h_check_content [(.val (fN (gFld own_sizes "sizes") [(.val (fVar 0))])), (.val (fVar 1))]))
    (sSeq (sRet (fN gIx [(.val (fN (gFld own_answers "answers") [(.val (fVar 0))])), (.val (fCall [] h_number_of [(.val (fN (gFld own_sizes "sizes") [(.val (fVar 0))])), (.val (fVar 1))]))]))
    sNil))
def h_answer : List D → Rf := runB 2 [] b_answer
theorem ok_answer (T : Txt K mg cl) : FnD P w K mg base cl "answer" 5 2 [] h_answer := by
  obtain ⟨f, fd, gm, F, hb⟩ := T.F_answer
  refine def_ok (k := 4) F sc_answer gm hb (by decide) (by decide) (by decide) fun cdv A outer s H E hr tk hp => ?_
  have nd : N_answer.Nodup := by decide +kernel
  exact (ss_cons (s_expr (j_call (ok_check_content T) tk hr (by decide) rfl (ja_cons (o1 := .val _) (j_fld T.f_sizes (j_var (pv 0))) (ja_cons (o1 := .val _) (j_var (pv 1)) ja_nil))))
      (ss_cons (s_ret (j_ix ix_seq s_ix (fun _ _ => rfl) (j_fld T.f_answers (j_var (pv 0))) (j_call (ok_number_of T) tk hr (by decide) rfl (ja_cons (o1 := .val _) (j_fld T.f_sizes (j_var (pv 0))) (ja_cons (o1 := .val _) (j_var (pv 1)) ja_nil)))))
      ss_nil))
def b_many_answers : Sv := (sSeq (sRet (fLenSet (fN (gFld own_answers "answers") [(.val (fVar 0))])))
    sNil)
def h_many_answers : List D → Rf := runB 1 [] b_many_answers
theorem ok_many_answers (T : Txt K mg cl) : FnD P w K mg base cl "many_answers" 1 1 [] h_many_answers := by
  obtain ⟨f, fd, gm, F, hb⟩ := T.F_many_answers
  refine def_ok (k := 0) F sc_many_answers gm hb (by decide) (by decide) (by decide) fun cdv A outer s H E hr tk hp => ?_
  have nd : N_many_answers.Nodup := by decide +kernel
  exact (ss_cons (s_ret (j_lenSet T.z_len T.z_set rfl (j_fld T.f_answers (j_var (pv 0)))))
      ss_nil)
def b_singles : Sv := (sSeq (sExpr (fCall [] h_check_sizes [(.val (fVar 0))]))
    (sSeq (sRet (fN gTuple [(.val (fComp [1] (iRng [(fN gLen [(.val (fVar 0))])]) (bNm 1) bTrue (fTup [(fVar 1)])))]))
    sNil))
def h_singles : List D → Rf := runB 2 [] b_singles
theorem ok_singles (T : Txt K mg cl) : FnD P w K mg base cl "singles" 4 1 [] h_singles := by
  obtain ⟨f, fd, gm, F, hb⟩ := T.F_singles
  refine def_ok (k := 3) F sc_singles gm hb (by decide) (by decide) (by decide) fun cdv A outer s H E hr tk hp => ?_
  have nd : N_singles.Nodup := by decide +kernel
  exact (ss_cons (s_expr (j_call (ok_check_sizes T) tk hr (by decide) rfl (ja_cons (o1 := .val _) (j_var (pv 0)) ja_nil)))
      (ss_cons (s_ret (j_callTy call_tuple_of s_tuple T.z_tuple (by decide +kernel) (ja_cons (j_comp (own := [("pin", 1)]) rfl nd (i_rng1 T.z_range (ja_cons (o1 := .val _) (j_callB cr_len s_len T.z_len (by decide +kernel) (ja_cons (j_var (pv 0)) ja_nil)) ja_nil)) (blkOk_by (own := [("pin", 1)]) (N := N_singles) (sc := defScope s_singles) (by decide +kernel)) (fun _ _ _ _ _ => (g_nm nd (i := 1))) (fun _ _ _ _ _ => c_nil) (fun _ _ _ _ _ => (j_tup (fs := [(fVar 1)]) (ja_cons (o1 := .val _) (j_var (pv 1)) ja_nil))) (by decide)) ja_nil)))
      ss_nil))
def b_sizes_at : Sv := (sSeq (sRet (fN gTuple [(.val (fComp [2] (iSeq (fVar 1)) (bNm 2) bTrue (fN gIx [(.val (fVar 0)), (.val (fVar 2))])))]))
    sNil)
def h_sizes_at : List D → Rf := runB 3 [] b_sizes_at
theorem ok_sizes_at (T : Txt K mg cl) : FnD P w K mg base cl "sizes_at" 1 2 [] h_sizes_at := by
  obtain ⟨f, fd, gm, F, hb⟩ := T.F_sizes_at
  refine def_ok (k := 0) F sc_sizes_at gm hb (by decide) (by decide) (by decide) fun cdv A outer s H E hr tk hp => ?_
  have nd : N_sizes_at.Nodup := by decide +kernel
  exact (ss_cons (s_ret (j_callTy call_tuple_of s_tuple T.z_tuple (by decide +kernel) (ja_cons (j_comp (own := [("pin", 2)]) rfl nd (i_seq (j_var (pv 1))) (blkOk_by (own := [("pin", 2)]) (N := N_sizes_at) (sc := defScope s_sizes_at) (by decide +kernel)) (fun _ _ _ _ _ => (g_nm nd (i := 2))) (fun _ _ _ _ _ => c_nil) (fun _ _ _ _ _ => (j_ix ix_seq s_ix (fun _ _ => rfl) (j_var (pv 0)) (j_var (pv 2)))) (by decide)) ja_nil)))
      ss_nil)
def b_joints_of : Sv := (sSeq (sRet (fCall [] h_tuples_of [(.val (fCall [] h_sizes_at [(.val (fVar 0)), (.val (fVar 1))]))]))
    sNil)
def h_joints_of : List D → Rf := runB 2 [] b_joints_of
theorem ok_joints_of (T : Txt K mg cl) : FnD P w K mg base cl "joints_of" 2 2 [] h_joints_of := by
  obtain ⟨f, fd, gm, F, hb⟩ := T.F_joints_of
  refine def_ok (k := 1) F sc_joints_of gm hb (by decide) (by decide) (by decide) fun cdv A outer s H E hr tk hp => ?_
  have nd : N_joints_of.Nodup := by decide +kernel
  exact (ss_cons (s_ret (j_call (ok_tuples_of T) tk hr (by decide) rfl (ja_cons (o1 := .val _) (j_call (ok_sizes_at T) tk hr (by decide) rfl (ja_cons (o1 := .val _) (j_var (pv 0)) (ja_cons (o1 := .val _) (j_var (pv 1)) ja_nil))) ja_nil)))
      ss_nil)
def b_joints : Sv := (sSeq (sExpr (fCall [] h_check_sizes [(.val (fVar 0))]))
    (sSeq (sIf (bNot (bE (fCall [] h_is_lot [(.val (fVar 1)), (.val (fN gLen [(.val (fVar 0))]))]))) (sSeq sNever
    sNil) sNil)
    (sSeq (sRet (fCall [] h_joints_of [(.val (fVar 0)), (.val (fVar 1))]))
    sNil)))
def h_joints : List D → Rf := runB 2 [] b_joints
theorem ok_joints (T : Txt K mg cl) : FnD P w K mg base cl "joints" 4 2 [] h_joints := by
  obtain ⟨f, fd, gm, F, hb⟩ := T.F_joints
  refine def_ok (k := 3) F sc_joints gm hb (by decide) (by decide) (by decide) fun cdv A outer s H E hr tk hp => ?_
  have nd : N_joints.Nodup := by decide +kernel
  exact (ss_cons (s_expr (j_call (ok_check_sizes T) tk hr (by decide) rfl (ja_cons (o1 := .val _) (j_var (pv 0)) ja_nil)))
      (ss_cons (s_if (t_not (t_e (j_call (ok_is_lot T) tk hr (by decide) rfl (ja_cons (o1 := .val _) (j_var (pv 1)) (ja_cons (o1 := .val _) (j_callB cr_len s_len T.z_len (by decide +kernel) (ja_cons (j_var (pv 0)) ja_nil)) ja_nil))))) (ss_cons s_never
      ss_nil) ss_nil)
      (ss_cons (s_ret (j_call (ok_joints_of T) tk hr (by decide) rfl (ja_cons (o1 := .val _) (j_var (pv 0)) (ja_cons (o1 := .val _) (j_var (pv 1)) ja_nil))))
      ss_nil)))
def b__law_hand : Sv := (sSeq (sAsg (bNm 1) (fComp [2] (iSeq (fSl (fVar 0) none (some (fK (.int 63))))) (bNm 2) bTrue (fN gAbs [(.val (fN gIntC [(.val (fVar 2))]))])))
    (sSeq (sRet (fLst [(fVar 1), (fK (.int 0)), (fK (.int 0)), (fN gAdd [(.val (fK (.int 1))), (.val (fN gLen [(.val (fVar 1))]))]), (fK (.int 0))]))
    sNil))
def h__law_hand : List D → Rf := runB 3 [] b__law_hand
theorem ok__law_hand (T : Txt K mg cl) : FnD P w K mg base cl "_law_hand" 1 1 [] h__law_hand := by
  obtain ⟨f, fd, gm, F, hb⟩ := T.F__law_hand
  refine def_ok (k := 0) F sc__law_hand gm hb (by decide) (by decide) (by decide) fun cdv A outer s H E hr tk hp => ?_
  have nd : N__law_hand.Nodup := by decide +kernel
  exact (ss_cons (s_setLc (i := 1) (own := [("cell", 2)]) rfl nd rfl rfl (sw_true rfl rfl rfl rfl) (i_seq (j_sl (j_var (pv 0)) part_none (part_some j_int))) (blkOk_by (own := [("cell", 2)]) (N := N__law_hand) (sc := defScope s__law_hand) (by decide +kernel)) (fun _ _ _ _ _ => (g_nm nd (i := 2))) (fun _ _ _ _ _ => c_nil) (fun _ _ _ _ _ => (j_callB call_abs s_abs T.z_abs (by decide +kernel) (ja_cons (j_callTy call_int1 s_intC T.z_int (by decide +kernel) (ja_cons (j_var (pv 2)) ja_nil)) ja_nil))) (by decide))
      (ss_cons (s_ret (j_lst (fs := [(fVar 1), (fK (.int 0)), (fK (.int 0)), (fN gAdd [(.val (fK (.int 1))), (.val (fN gLen [(.val (fVar 1))]))]), (fK (.int 0))]) (ja_cons (o1 := .val _) (j_var (pv 1)) (ja_cons (o1 := .val _) j_int (ja_cons (o1 := .val _) j_int (ja_cons (o1 := .val _) (j_bin op_addAll s_add j_int (j_callB cr_len s_len T.z_len (by decide +kernel) (ja_cons (j_var (pv 1)) ja_nil))) (ja_cons (o1 := .val _) j_int ja_nil)))))))
      ss_nil))
def b__law_draw : Sv := (sSeq (sIf (bAnd (bE (fN gEq [(.val (fN gIx [(.slot 0), (.val (fK (.int 2)))])), (.val (fK (.int 0)))])) (bE (fN gLt [(.val (fN gIx [(.slot 0), (.val (fK (.int 1)))])), (.val (fN gLen [(.val (fN gIx [(.slot 0), (.val (fK (.int 0)))]))]))]))) (sSeq (sAsg (bNm 2) (fN gIx [(.val (fN gIx [(.slot 0), (.val (fK (.int 0)))])), (.val (fN gIx [(.slot 0), (.val (fK (.int 1)))]))]))
    (sSeq (sStore 0 (fK (.int 1)) (fN gAdd [(.val (fN gIx [(.slot 0), (.val (fK (.int 1)))])), (.val (fK (.int 1)))]))
    (sSeq (sStore 0 (fK (.int 3)) (fN gMod [(.val (fN gIntC [(.val (fN gAdd [(.val (fN gAdd [(.val (fN gMul [(.val (fN gIx [(.slot 0), (.val (fK (.int 3)))])), (.val (fK (.int 69621)))])), (.val (fVar 2))])), (.val (fK (.int 11)))]))])), (.val (fK (.int 2147483629)))]))
    (sSeq (sIf (bE (fN gGe [(.val (fVar 2)), (.val (fN gPow [(.val (fK (.int 10))), (.val (fK (.int 18)))]))])) (sSeq (sStore 0 (fK (.int 2)) (fVar 2))
    sNil) sNil)
    sNil)))) sNil)
    (sSeq (sIf (bE (fN gGt [(.val (fN gIx [(.slot 0), (.val (fK (.int 2)))])), (.val (fK (.int 0)))])) (sSeq (sAsg (bNm 3) (fN gMod [(.val (fN gIntC [(.val (fN gIx [(.slot 0), (.val (fK (.int 2)))]))])), (.val (fVar 1))]))
    (sSeq (sStore 0 (fK (.int 2)) (fN gFdiv [(.val (fN gIx [(.slot 0), (.val (fK (.int 2)))])), (.val (fVar 1))]))
    (sSeq (sRet (fMove 3))
    sNil))) sNil)
    (sSeq (sStore 0 (fK (.int 4)) (fN gAdd [(.val (fN gIx [(.slot 0), (.val (fK (.int 4)))])), (.val (fK (.int 1)))]))
    (sSeq (sAsg (bNm 4) (fN gMod [(.val (fN gIntC [(.val (fN gMul [(.val (fN gIntC [(.val (fN gAdd [(.val (fN gIx [(.slot 0), (.val (fK (.int 3)))])), (.val (fN gMul [(.val (fK (.int 7919))), (.val (fN gIx [(.slot 0), (.val (fK (.int 4)))]))]))]))])), (.val (fK (.int 48271)))]))])), (.val (fK (.int 2147483647)))]))
    (sSeq (sAsg (bNm 4) (fN gMod [(.val (fN gIntC [(.val (fN gMul [(.val (fVar 4)), (.val (fN gAdd [(.val (fN gFdiv [(.val (fVar 4)), (.val (fK (.int 1009)))])), (.val (fK (.int 69621)))]))]))])), (.val (fK (.int 2147483647)))]))
    (sSeq (sAsg (bNm 4) (fN gMod [(.val (fN gIntC [(.val (fN gMul [(.val (fVar 4)), (.val (fN gAdd [(.val (fN gFdiv [(.val (fVar 4)), (.val (fK (.int 2003)))])), (.val (fK (.int 40692)))]))]))])), (.val (fK (.int 2147483399)))]))
    (sSeq (sRet (fN gMod [(.val (fN gIntC [(.val (fN gFdiv [(.val (fVar 4)), (.val (fK (.int 16)))]))])), (.val (fVar 1))]))
    sNil)))))))
def h__law_draw : List D → Rf := runB 5 [0] b__law_draw
theorem ok__law_draw (T : Txt K mg cl) : FnD P w K mg base cl "_law_draw" 1 2 [0] h__law_draw := by
  obtain ⟨f, fd, gm, F, hb⟩ := T.F__law_draw
  refine def_ok (k := 0) F sc__law_draw gm hb (by decide) (by decide) (by decide) fun cdv A outer s H E hr tk hp => ?_
  have nd : N__law_draw.Nodup := by decide +kernel
  exact (ss_cons (s_if (PW.pt (t_and (t_cmp (op_eqD hr.units) s_eq (fun _ _ z => eq_bl z) (nomark _) (j_ix ix_seq s_ix (fun _ _ => rfl) (pv 0) j_int) j_int) (t_and1 (t_cmp op_lt s_lt (fun _ _ z => int2_bl z) (nomark _) (j_ix ix_seq s_ix (fun _ _ => rfl) (pv 0) j_int) (j_callB cr_len s_len T.z_len (by decide +kernel) (ja_cons (j_ix ix_seq s_ix (fun _ _ => rfl) (pv 0) j_int) ja_nil)))))) (ss_cons (s_set (i := 2) nd (j_ix ix_seq s_ix (fun _ _ => rfl) (j_ix ix_seq s_ix (fun _ _ => rfl) (pv 0) j_int) (j_ix ix_seq s_ix (fun _ _ => rfl) (pv 0) j_int)))
      (ss_cons (s_store (i := 0) (pg_sub (pv 0) j_int set_list) (j_bin op_addAll s_add (j_ix ix_seq s_ix (fun _ _ => rfl) (pv 0) j_int) j_int))
      (ss_cons (s_store (i := 0) (pg_sub (pv 0) j_int set_list) (j_bin op_modN s_mod (j_callTy call_int1 s_intC T.z_int (by decide +kernel) (ja_cons (j_bin op_addAll s_add (j_bin op_addAll s_add (j_bin op_mulAll s_mul (j_ix ix_seq s_ix (fun _ _ => rfl) (pv 0) j_int) j_int) (j_var (pv 2))) j_int) ja_nil)) j_int))
      (ss_cons (s_if (t_cmp op_ge s_ge (fun _ _ z => int2_bl z) (nomark _) (j_var (pv 2)) (j_bin op_pow s_pow j_int j_int)) (ss_cons (s_store (i := 0) (pg_sub (pv 0) j_int set_list) (j_var (pv 2)))
      ss_nil) ss_nil)
      ss_nil)))) ss_nil)
      (ss_cons (s_if (t_cmp op_gt s_gt (fun _ _ z => int2_bl z) (nomark _) (j_ix ix_seq s_ix (fun _ _ => rfl) (pv 0) j_int) j_int) (ss_cons (s_set (i := 3) nd (j_bin op_modN s_mod (j_callTy call_int1 s_intC T.z_int (by decide +kernel) (ja_cons (j_ix ix_seq s_ix (fun _ _ => rfl) (pv 0) j_int) ja_nil)) (j_var (pv 1))))
      (ss_cons (s_store (i := 0) (pg_sub (pv 0) j_int set_list) (j_bin op_fdivN s_fdiv (j_ix ix_seq s_ix (fun _ _ => rfl) (pv 0) j_int) (j_var (pv 1))))
      (ss_cons (s_ret (j_move (pv 3)))
      ss_nil))) ss_nil)
      (ss_cons (s_store (i := 0) (pg_sub (pv 0) j_int set_list) (j_bin op_addAll s_add (j_ix ix_seq s_ix (fun _ _ => rfl) (pv 0) j_int) j_int))
      (ss_cons (s_set (i := 4) nd (j_bin op_modN s_mod (j_callTy call_int1 s_intC T.z_int (by decide +kernel) (ja_cons (j_bin op_mulAll s_mul (j_callTy call_int1 s_intC T.z_int (by decide +kernel) (ja_cons (j_bin op_addAll s_add (j_ix ix_seq s_ix (fun _ _ => rfl) (pv 0) j_int) (j_bin op_mulAll s_mul j_int (j_ix ix_seq s_ix (fun _ _ => rfl) (pv 0) j_int))) ja_nil)) j_int) ja_nil)) j_int))
      (ss_cons (s_set (i := 4) nd (j_bin op_modN s_mod (j_callTy call_int1 s_intC T.z_int (by decide +kernel) (ja_cons (j_bin op_mulAll s_mul (j_var (pv 4)) (j_bin op_addAll s_add (j_bin op_fdivN s_fdiv (j_var (pv 4)) j_int) j_int)) ja_nil)) j_int))
      (ss_cons (s_set (i := 4) nd (j_bin op_modN s_mod (j_callTy call_int1 s_intC T.z_int (by decide +kernel) (ja_cons (j_bin op_mulAll s_mul (j_var (pv 4)) (j_bin op_addAll s_add (j_bin op_fdivN s_fdiv (j_var (pv 4)) j_int) j_int)) ja_nil)) j_int))
      (ss_cons (s_ret (j_bin op_modN s_mod (j_callTy call_int1 s_intC T.z_int (by decide +kernel) (ja_cons (j_bin op_fdivN s_fdiv (j_var (pv 4)) j_int) ja_nil)) (j_var (pv 1))))
      ss_nil)))))))
def b__law_any : Sv := (sSeq (sRet (fN gIx [(.val (fVar 1)), (.val (fCall [0] h__law_draw [(.slot 0), (.val (fN gLen [(.val (fVar 1))]))]))]))
    sNil)
def h__law_any : List D → Rf := runB 2 [0] b__law_any
theorem ok__law_any (T : Txt K mg cl) : FnD P w K mg base cl "_law_any" 2 2 [0] h__law_any := by
  obtain ⟨f, fd, gm, F, hb⟩ := T.F__law_any
  refine def_ok (k := 1) F sc__law_any gm hb (by decide) (by decide) (by decide) fun cdv A outer s H E hr tk hp => ?_
  have nd : N__law_any.Nodup := by decide +kernel
  exact (ss_cons (s_ret (j_ix ix_seq s_ix (fun _ _ => rfl) (j_var (pv 1)) (j_call (ok__law_draw T) tk hr (by decide) rfl (ja_cons (o1 := .slot _) (pv 0) (ja_cons (o1 := .val _) (j_callB cr_len s_len T.z_len (by decide +kernel) (ja_cons (j_var (pv 1)) ja_nil)) ja_nil)))))
      ss_nil)
def b__law_all : Sv := (sSeq (sAsg (bNm 1) (fLst [(fTup [])]))
    (sSeq (sFor (iSeq (fVar 0)) (bNm 2) (sSeq (sAsg (bNm 3) (fLst []))
    (sSeq (sFor (iSeq (fVar 1)) (bNm 4) (sSeq (sExpr (fMt1 3 gExtend (fComp [5] (iRng [(fVar 2)]) (bNm 5) bTrue (fN gAdd [(.val (fVar 4)), (.val (fTup [(fVar 5)]))]))))
    sNil))
    (sSeq (sAsg (bNm 1) (fVar 3))
    sNil))))
    (sSeq (sRet (fMove 1))
    sNil)))
def h__law_all : List D → Rf := runB 6 [] b__law_all
theorem ok__law_all (T : Txt K mg cl) : FnD P w K mg base cl "_law_all" 1 1 [] h__law_all := by
  obtain ⟨f, fd, gm, F, hb⟩ := T.F__law_all
  refine def_ok (k := 0) F sc__law_all gm hb (by decide) (by decide) (by decide) fun cdv A outer s H E hr tk hp => ?_
  have nd : N__law_all.Nodup := by decide +kernel
  exact (ss_cons (s_set (i := 1) nd (j_lst (fs := [(fTup [])]) (ja_cons (o1 := .val _) (j_tup (fs := []) ja_nil) ja_nil)))
      (ss_cons (s_for hp rfl (i_seq (j_var (pv 0))) (g_nm nd (i := 2))
      (ss_cons (s_set (i := 3) nd (j_lst (fs := []) ja_nil))
      (ss_cons (s_for hp rfl (i_seq (j_var (pv 1))) (g_nm nd (i := 4))
      (ss_cons (s_expr (j_extend (pv 3) (ja_cons (o1 := .val _) (j_comp (own := [("worth", 5)]) rfl nd (i_rng1 T.z_range (ja_cons (o1 := .val _) (j_var (pv 2)) ja_nil)) (blkOk_by (own := [("worth", 5)]) (N := N__law_all) (sc := defScope s__law_all) (by decide +kernel)) (fun _ _ _ _ _ => (g_nm nd (i := 5))) (fun _ _ _ _ _ => c_nil) (fun _ _ _ _ _ => (j_bin op_addAll s_add (j_var (pv 4)) (j_tup (fs := [(fVar 5)]) (ja_cons (o1 := .val _) (j_var (pv 5)) ja_nil)))) (by decide)) ja_nil)))
      ss_nil))
      (ss_cons (s_set (i := 1) nd (j_var (pv 3)))
      ss_nil))))
      (ss_cons (s_ret (j_move (pv 1)))
      ss_nil)))
def b__law_sizes : Sv := (sSeq (sAsg (bTp (bCons (bNm 3) (bCons (bNm 4) bNil))) (fTup [(fTup []), (fK (.int 1))]))
    (sSeq (sFor (iRng [(fN gAdd [(.val (fK (.int 1))), (.val (fCall [0] h__law_draw [(.slot 0), (.val (fVar 1))]))])]) (bNm 5) (sSeq (sAsg (bNm 6) (fN gAdd [(.val (fK (.int 2))), (.val (fCall [0] h__law_any [(.slot 0), (.val (fLst [(fK (.int 0)), (fK (.int 0)), (fK (.int 1)), (fK (.int 2))]))]))]))
    (sSeq (sIf (bE (fN gLe [(.val (fN gMul [(.val (fVar 4)), (.val (fVar 6))])), (.val (fVar 2))])) (sSeq (sPar 3 4 (fN gAdd [(.val (fVar 3)), (.val (fTup [(fVar 6)]))]) (fN gMul [(.val (fVar 4)), (.val (fVar 6))]))
    sNil) sNil)
    sNil)))
    (sSeq (sRet (fMove 3))
    sNil)))
def h__law_sizes : List D → Rf := runB 7 [0] b__law_sizes
theorem ok__law_sizes (T : Txt K mg cl) : FnD P w K mg base cl "_law_sizes" 3 3 [0] h__law_sizes := by
  obtain ⟨f, fd, gm, F, hb⟩ := T.F__law_sizes
  refine def_ok (k := 2) F sc__law_sizes gm hb (by decide) (by decide) (by decide) fun cdv A outer s H E hr tk hp => ?_
  have nd : N__law_sizes.Nodup := by decide +kernel
  exact (ss_cons (s_asg (j_tup (fs := [(fTup []), (fK (.int 1))]) (ja_cons (o1 := .val _) (j_tup (fs := []) ja_nil) (ja_cons (o1 := .val _) j_int ja_nil))) (g_tp (n := 2) rfl (gs_cons (g_nm nd (i := 3)) (gs_cons (g_nm nd (i := 4)) gs_nil)) (fun _ _ _ z => bCons_len (fun _ _ _ z => bCons_len (fun _ _ _ z => bNil_len z) z) z)))
      (ss_cons (s_for hp rfl (i_rng1 T.z_range (ja_cons (o1 := .val _) (j_bin op_addAll s_add j_int (j_call (ok__law_draw T) tk hr (by decide) rfl (ja_cons (o1 := .slot _) (pv 0) (ja_cons (o1 := .val _) (j_var (pv 1)) ja_nil)))) ja_nil)) (g_nm nd (i := 5))
      (ss_cons (s_set (i := 6) nd (j_bin op_addAll s_add j_int (j_call (ok__law_any T) tk hr (by decide) rfl (ja_cons (o1 := .slot _) (pv 0) (ja_cons (o1 := .val _) (j_lst (fs := [(fK (.int 0)), (fK (.int 0)), (fK (.int 1)), (fK (.int 2))]) (ja_cons (o1 := .val _) j_int (ja_cons (o1 := .val _) j_int (ja_cons (o1 := .val _) j_int (ja_cons (o1 := .val _) j_int ja_nil))))) ja_nil)))))
      (ss_cons (s_if (t_cmp op_le s_le (fun _ _ z => int2_bl z) (nomark _) (j_bin op_mulAll s_mul (j_var (pv 4)) (j_var (pv 6))) (j_var (pv 2))) (ss_cons (s_par (i := 3) (j := 4) rfl nd (j_bin op_addAll s_add (j_var (pv 3)) (j_tup (fs := [(fVar 6)]) (ja_cons (o1 := .val _) (j_var (pv 6)) ja_nil))) (j_bin op_mulAll s_mul (j_var (pv 4)) (j_var (pv 6))))
      ss_nil) ss_nil)
      ss_nil)))
      (ss_cons (s_ret (j_move (pv 3)))
      ss_nil)))
def b__law_joints : Sv := (sSeq (sRet (fCall [] h__law_all [(.val (fComp [2] (iSeq (fVar 1)) (bNm 2) bTrue (fN gIx [(.val (fVar 0)), (.val (fVar 2))])))]))
    sNil)
def h__law_joints : List D → Rf := runB 3 [] b__law_joints
theorem ok__law_joints (T : Txt K mg cl) : FnD P w K mg base cl "_law_joints" 2 2 [] h__law_joints := by
  obtain ⟨f, fd, gm, F, hb⟩ := T.F__law_joints
  refine def_ok (k := 1) F sc__law_joints gm hb (by decide) (by decide) (by decide) fun cdv A outer s H E hr tk hp => ?_
  have nd : N__law_joints.Nodup := by decide +kernel
  exact (ss_cons (s_ret (j_call (ok__law_all T) tk hr (by decide) rfl (ja_cons (o1 := .val _) (j_comp (own := [("pin", 2)]) rfl nd (i_seq (j_var (pv 1))) (blkOk_by (own := [("pin", 2)]) (N := N__law_joints) (sc := defScope s__law_joints) (by decide +kernel)) (fun _ _ _ _ _ => (g_nm nd (i := 2))) (fun _ _ _ _ _ => c_nil) (fun _ _ _ _ _ => (j_ix ix_seq s_ix (fun _ _ => rfl) (j_var (pv 0)) (j_var (pv 2)))) (by decide)) ja_nil)))
      ss_nil)
def b__law_lots : Sv := (sSeq (sAsg (bNm 1) (fLst [(fTup [])]))
    (sSeq (sFor (iRng [(fVar 0)]) (bNm 2) (sSeq (sAsg (bNm 1) (fN gAdd [(.val (fVar 1)), (.val (fComp [3] (iSeq (fVar 1)) (bNm 3) bTrue (fN gAdd [(.val (fVar 3)), (.val (fTup [(fVar 2)]))])))]))
    sNil))
    (sSeq (sRet (fMove 1))
    sNil)))
def h__law_lots : List D → Rf := runB 4 [] b__law_lots
theorem ok__law_lots (T : Txt K mg cl) : FnD P w K mg base cl "_law_lots" 1 1 [] h__law_lots := by
  obtain ⟨f, fd, gm, F, hb⟩ := T.F__law_lots
  refine def_ok (k := 0) F sc__law_lots gm hb (by decide) (by decide) (by decide) fun cdv A outer s H E hr tk hp => ?_
  have nd : N__law_lots.Nodup := by decide +kernel
  exact (ss_cons (s_set (i := 1) nd (j_lst (fs := [(fTup [])]) (ja_cons (o1 := .val _) (j_tup (fs := []) ja_nil) ja_nil)))
      (ss_cons (s_for hp rfl (i_rng1 T.z_range (ja_cons (o1 := .val _) (j_var (pv 0)) ja_nil)) (g_nm nd (i := 2))
      (ss_cons (s_set (i := 1) nd (j_bin op_addAll s_add (j_var (pv 1)) (j_comp (own := [("lot", 3)]) rfl nd (i_seq (j_var (pv 1))) (blkOk_by (own := [("lot", 3)]) (N := N__law_lots) (sc := defScope s__law_lots) (by decide +kernel)) (fun _ _ _ _ _ => (g_nm nd (i := 3))) (fun _ _ _ _ _ => c_nil) (fun _ _ _ _ _ => (j_bin op_addAll s_add (j_var (pv 3)) (j_tup (fs := [(fVar 2)]) (ja_cons (o1 := .val _) (j_var (pv 2)) ja_nil)))) (by decide))))
      ss_nil))
      (ss_cons (s_ret (j_move (pv 1)))
      ss_nil)))
def b__law_counted : Sv := (sSeq (sAsg (bNm 2) (fLst []))
    (sSeq (sFor (iSeq (fRev (fVar 0))) (bNm 3) (sSeq (sExpr (fMt1 2 gAppend (fN gMod [(.val (fN gIntC [(.val (fVar 1))])), (.val (fVar 3))])))
    (sSeq (sAsg (bNm 1) (fN gFdiv [(.val (fN gIntC [(.val (fVar 1))])), (.val (fVar 3))]))
    sNil)))
    (sSeq (sRet (fN gTuple [(.val (fRev (fVar 2)))]))
    sNil)))
def h__law_counted : List D → Rf := runB 4 [] b__law_counted
theorem ok__law_counted (T : Txt K mg cl) : FnD P w K mg base cl "_law_counted" 1 2 [] h__law_counted := by
  obtain ⟨f, fd, gm, F, hb⟩ := T.F__law_counted
  refine def_ok (k := 0) F sc__law_counted gm hb (by decide) (by decide) (by decide) fun cdv A outer s H E hr tk hp => ?_
  have nd : N__law_counted.Nodup := by decide +kernel
  exact (ss_cons (s_set (i := 2) nd (j_lst (fs := []) ja_nil))
      (ss_cons (s_for hp rfl (i_seq (j_rev (j_var (pv 0)))) (g_nm nd (i := 3))
      (ss_cons (s_expr (j_append (pv 2) (ja_cons (o1 := .val _) (j_bin op_modN s_mod (j_callTy call_int1 s_intC T.z_int (by decide +kernel) (ja_cons (j_var (pv 1)) ja_nil)) (j_var (pv 3))) ja_nil)))
      (ss_cons (s_set (i := 1) nd (j_bin op_fdivN s_fdiv (j_callTy call_int1 s_intC T.z_int (by decide +kernel) (ja_cons (j_var (pv 1)) ja_nil)) (j_var (pv 3))))
      ss_nil)))
      (ss_cons (s_ret (j_callTy call_tuple_of s_tuple T.z_tuple (by decide +kernel) (ja_cons (j_rev (j_var (pv 2))) ja_nil)))
      ss_nil)))
def b__law_listed_right : Sv := (sSeq (sAsg (bNm 1) (fK (.int 1)))
    (sSeq (sFor (iSeq (fVar 0)) (bNm 2) (sSeq (sAsg (bNm 1) (fN gMul [(.val (fVar 1)), (.val (fVar 2))]))
    sNil))
    (sSeq (sAsg (bNm 3) (fComp [4] (iRng [(fVar 1)]) (bNm 4) bTrue (fCall [] h__law_counted [(.val (fVar 0)), (.val (fVar 4))])))
    (sSeq (sAsg (bNm 5) (fCall [] h_contents [(.val (fVar 0))]))
    (sSeq (sIf (bOr (bNot (bE (fN (gIsi isa) [(.slot 5), (.val (fK (.ty "list")))]))) (bOr (bE (fN gNe [(.slot 5), (.val (fVar 3))])) (bE (fN gNe [(.val (fCall [] h_singles [(.val (fVar 0))])), (.val (fN gTuple [(.val (fComp [6] (iRng [(fN gLen [(.val (fVar 0))])]) (bNm 6) bTrue (fTup [(fVar 6)])))]))])))) (sSeq (sRet (fK (.bl false)))
    sNil) sNil)
    (sSeq (sExpr (fMt1 5 gAppend (fK .non)))
    (sSeq (sRet (fN gEq [(.val (fCall [] h_contents [(.val (fVar 0))])), (.val (fVar 3))]))
    sNil)))))))
def h__law_listed_right : List D → Rf := runB 7 [] b__law_listed_right
theorem ok__law_listed_right (T : Txt K mg cl) : FnD P w K mg base cl "_law_listed_right" 5 1 [] h__law_listed_right := by
  obtain ⟨f, fd, gm, F, hb⟩ := T.F__law_listed_right
  refine def_ok (k := 4) F sc__law_listed_right gm hb (by decide) (by decide) (by decide) fun cdv A outer s H E hr tk hp => ?_
  have nd : N__law_listed_right.Nodup := by decide +kernel
  exact (ss_cons (s_set (i := 1) nd j_int)
      (ss_cons (s_for hp rfl (i_seq (j_var (pv 0))) (g_nm nd (i := 2))
      (ss_cons (s_set (i := 1) nd (j_bin op_mulAll s_mul (j_var (pv 1)) (j_var (pv 2))))
      ss_nil))
      (ss_cons (s_setLc (i := 3) (own := [("number", 4)]) rfl nd rfl rfl (sw_true rfl rfl rfl rfl) (i_rng1 T.z_range (ja_cons (o1 := .val _) (j_var (pv 1)) ja_nil)) (blkOk_by (own := [("number", 4)]) (N := N__law_listed_right) (sc := defScope s__law_listed_right) (by decide +kernel)) (fun _ _ _ _ _ => (g_nm nd (i := 4))) (fun _ _ _ _ _ => c_nil) (fun _ _ _ _ _ => (j_call (ok__law_counted T) takes0 hr (by decide) rfl (ja_cons (o1 := .val _) (j_var (pv 0)) (ja_cons (o1 := .val _) (j_var (pv 4)) ja_nil)))) (by decide))
      (ss_cons (s_set (i := 5) nd (j_call (ok_contents T) tk hr (by decide) rfl (ja_cons (o1 := .val _) (j_var (pv 0)) ja_nil)))
      (ss_cons (s_if (PW.pt (t_or (t_not (t_e (j_callB call_isi (s_isi T.isa) T.z_isinstance (by decide +kernel) (ja_cons (pv 5) (ja_cons (j_ty T.z_list (by decide +kernel)) ja_nil))))) (t_or (t_cmp (op_neD hr.units) s_ne (fun _ _ z => ne_bl z) (nomark _) (pv 5) (j_var (pv 3))) (t_or1 (t_cmp (op_neD hr.units) s_ne (fun _ _ z => ne_bl z) (nomark _) (j_call (ok_singles T) tk hr (by decide) rfl (ja_cons (o1 := .val _) (j_var (pv 0)) ja_nil)) (j_callTy call_tuple_of s_tuple T.z_tuple (by decide +kernel) (ja_cons (j_comp (own := [("pin", 6)]) rfl nd (i_rng1 T.z_range (ja_cons (o1 := .val _) (j_callB cr_len s_len T.z_len (by decide +kernel) (ja_cons (j_var (pv 0)) ja_nil)) ja_nil)) (blkOk_by (own := [("pin", 6)]) (N := N__law_listed_right) (sc := defScope s__law_listed_right) (by decide +kernel)) (fun _ _ _ _ _ => (g_nm nd (i := 6))) (fun _ _ _ _ _ => c_nil) (fun _ _ _ _ _ => (j_tup (fs := [(fVar 6)]) (ja_cons (o1 := .val _) (j_var (pv 6)) ja_nil))) (by decide)) ja_nil))))))) (ss_cons (s_ret j_bl)
      ss_nil) ss_nil)
      (ss_cons (s_expr (j_append (pv 5) (ja_cons (o1 := .val _) j_non ja_nil)))
      (ss_cons (s_ret (j_cmp (op_eqD hr.units) s_eq (nomark _) (j_call (ok_contents T) tk hr (by decide) rfl (ja_cons (o1 := .val _) (j_var (pv 0)) ja_nil)) (j_var (pv 3))))
      ss_nil)))))))
def b_Question_eq : Sv := (sSeq (sRet (fAnd (fN (gIsi isa) [(.val (fVar 1)), (.val (fK (.cl 0)))]) (fN gEq [(.val (fTup [(fN (gFld own_sizes "sizes") [(.val (fVar 0))]), (fN (gFld own_answers "answers") [(.val (fVar 0))])])), (.val (fTup [(fN (gFld own_sizes "sizes") [(.val (fVar 1))]), (fN (gFld own_answers "answers") [(.val (fVar 1))])]))])))
    sNil)
def h_Question_eq : List D → Rf := runB 2 [] b_Question_eq
theorem ok_Question_eq (T : Txt K mg cl) {f : Addr} (M : IsM K f "__eq__" "Question.__eq__" s_Question_eq ["self", "other"]) : FnM P w K mg base cl f 1 2 [] h_Question_eq := by
  obtain ⟨fd, F, hb⟩ := M
  refine meth_ok (k := 0) F sc_Question_eq hb (by decide) (by decide) (by decide) fun cdv A outer s H E hr tk hp => ?_
  have nd : N_Question_eq.Nodup := by decide +kernel
  exact (ss_cons (s_ret (j_and (j_callB call_isi (s_isi T.isa) T.z_isinstance (by decide +kernel) (ja_cons (j_var (pv 1)) (ja_cons (j_cl (n := 0) T.k_Question) ja_nil))) (j_one (j_cmp (op_eqD hr.units) s_eq (nomark _) (j_tup (fs := [(fN (gFld own_sizes "sizes") [(.val (fVar 0))]), (fN (gFld own_answers "answers") [(.val (fVar 0))])]) (ja_cons (o1 := .val _) (j_fld T.f_sizes (j_var (pv 0))) (ja_cons (o1 := .val _) (j_fld T.f_answers (j_var (pv 0))) ja_nil))) (j_tup (fs := [(fN (gFld own_sizes "sizes") [(.val (fVar 1))]), (fN (gFld own_answers "answers") [(.val (fVar 1))])]) (ja_cons (o1 := .val _) (j_fld T.f_sizes (j_var (pv 1))) (ja_cons (o1 := .val _) (j_fld T.f_answers (j_var (pv 1))) ja_nil)))))))
      ss_nil)
theorem eq_Question (T : Txt K mg cl) : ∃ f, EqF K (cl 0) f ∧ FnM P w K mg base cl f 1 2 [] h_Question_eq := by
  obtain ⟨f, M, I⟩ := T.F_Question_eq
  exact ⟨f, M, ok_Question_eq T I⟩
def b_Question_init : Sv := (sSeq (sExpr (fCall [] h_check_sizes [(.val (fVar 1))]))
    (sSeq (sIf (bOr (bNot (bE (fN (gIsi isa) [(.val (fVar 2)), (.val (fK (.ty "tuple")))]))) (bE (fN gNe [(.val (fN gLen [(.val (fVar 2))])), (.val (fCall [] h_many_contents [(.val (fVar 1))]))]))) (sSeq sNever
    sNil) sNil)
    (sSeq (sIf (bNot (bE (fN gAll [(.val (fComp [3] (iSeq (fVar 2)) (bNm 3) bTrue (fCall [] h_is_within [(.val (fVar 3)), (.val (fK (.int 0))), (.val (fK (.int 7)))])))]))) (sSeq sNever
    sNil) sNil)
    (sSeq (sFSet 0 own_sizes "sizes" (fVar 1))
    (sSeq (sFSet 0 own_answers "answers" (fVar 2))
    sNil)))))
def h_Question_init : List D → Rf := runB 4 [0] b_Question_init
theorem ok_Question_init (T : Txt K mg cl) {f : Addr} (M : IsM K f "__init__" "Question.__init__" s_Question_init ["self", "sizes", "answers"]) : FnM P w K mg base cl f 4 3 [0] h_Question_init := by
  obtain ⟨fd, F, hb⟩ := M
  refine meth_ok (k := 3) F sc_Question_init hb (by decide) (by decide) (by decide) fun cdv A outer s H E hr tk hp => ?_
  have nd : N_Question_init.Nodup := by decide +kernel
  exact (ss_cons (s_expr (j_call (ok_check_sizes T) tk hr (by decide) rfl (ja_cons (o1 := .val _) (j_var (pv 1)) ja_nil)))
      (ss_cons (s_if (PW.pt (t_or (t_not (t_e (j_callB call_isi (s_isi T.isa) T.z_isinstance (by decide +kernel) (ja_cons (j_var (pv 2)) (ja_cons (j_ty T.z_tuple (by decide +kernel)) ja_nil))))) (t_or1 (t_cmp (op_neD hr.units) s_ne (fun _ _ z => ne_bl z) (nomark _) (j_callB cr_len s_len T.z_len (by decide +kernel) (ja_cons (j_var (pv 2)) ja_nil)) (j_call (ok_many_contents T) tk hr (by decide) rfl (ja_cons (o1 := .val _) (j_var (pv 1)) ja_nil)))))) (ss_cons s_never
      ss_nil) ss_nil)
      (ss_cons (s_if (t_not (t_e (j_callB (cr_all rfl) s_all T.z_all (by decide +kernel) (ja_cons (j_comp (own := [("one", 3)]) rfl nd (i_seq (j_var (pv 2))) (blkOk_by (own := [("one", 3)]) (N := N_Question_init) (sc := defScope s_Question_init) (by decide +kernel)) (fun _ _ _ _ _ => (g_nm nd (i := 3))) (fun _ _ _ _ _ => c_nil) (fun _ _ _ _ _ => (j_call (ok_is_within T) takes0 hr (by decide) rfl (ja_cons (o1 := .val _) (j_var (pv 3)) (ja_cons (o1 := .val _) j_int (ja_cons (o1 := .val _) (j_gint T.c_MOST_ANSWER.choose_spec) ja_nil))))) (by decide)) ja_nil)))) (ss_cons s_never
      ss_nil) ss_nil)
      (ss_cons (s_fset (i := 0) T.f_sizes (pv 0) (j_var (pv 1)))
      (ss_cons (s_fset (i := 0) T.f_answers (pv 0) (j_var (pv 2)))
      ss_nil)))))
theorem mk_Question (T : Txt K mg cl) : mg "Question" = some (.ref (cl 0)) ∧ ∃ f, Mk K (cl 0) f ∧ ∃ fd ps, Binds K fd ps [] ∧ FnOk P w K mg base (L2.CX P w) 4 f fd ps (spD K cl 3 [0] h_Question_init) := by
  obtain ⟨f, M, I⟩ := T.F_Question_init
  obtain ⟨fd, ps, hb, F⟩ := ok_Question_init (P := P) (w := w) (base := base) T I
  exact ⟨T.k_Question, f, M, fd, ps, hb, F⟩
def b_law : Sv := (sSeq (sAsg (bNm 1) (fCall [] h__law_hand [(.val (fVar 0))]))
    (sSeq (sIf (bAnd (bE (fN gEq [(.val (fCall [0] h__law_draw [(.slot 1), (.val (fK (.int 8)))])), (.val (fK (.int 0)))])) (bNot (bE (fCall [] h__law_listed_right [(.val (fN gMul [(.val (fTup [(fK (.int 4))])), (.val (fK (.int 6)))]))])))) (sSeq (sRet (fK (.bl false)))
    sNil) sNil)
    (sSeq (sFor (iRng [(fK (.int 3))]) (bNm 2) (sSeq (sAsg (bNm 3) (fCall [0] h__law_sizes [(.slot 1), (.val (fK (.int 6))), (.val (fK (.int 300)))]))
    (sSeq (sIf (bNot (bE (fCall [] h__law_listed_right [(.val (fVar 3))]))) (sSeq (sRet (fK (.bl false)))
    sNil) sNil)
    (sSeq (sFor (iSeq (fCall [] h__law_lots [(.val (fN gLen [(.val (fVar 3))]))])) (bNm 4) (sSeq (sAsg (bNm 10) (fCall [] h__law_joints [(.val (fVar 3)), (.val (fVar 4))]))
    (sSeq (sAsg (bNm 11) (fCall [] h_joints [(.val (fVar 3)), (.val (fVar 4))]))
    (sSeq (sIf (bOr (bNot (bE (fN (gIsi isa) [(.slot 11), (.val (fK (.ty "list")))]))) (bOr (bE (fN gNe [(.slot 11), (.val (fVar 10))])) (bNot (bE (fN gAll [(.val (fCompB [12] 11 (bNm 12) bTrue (fN (gIsi isa) [(.val (fVar 12)), (.val (fK (.ty "tuple")))])))]))))) (sSeq (sRet (fK (.bl false)))
    sNil) sNil)
    (sSeq (sExpr (fMt0 11 gPop))
    (sSeq (sIf (bE (fN gNe [(.val (fCall [] h_joints [(.val (fVar 3)), (.val (fVar 4))])), (.val (fVar 10))])) (sSeq (sRet (fK (.bl false)))
    sNil) sNil)
    sNil))))))
    (sSeq (sAsg (bNm 5) (fCall [] h__law_all [(.val (fVar 3))]))
    (sSeq (sAsg (bNm 6) (fCall [0] h__law_any [(.slot 1), (.val (fLst [(fK (.int 1)), (fK (.int 2)), (fK (.int 3)), (fK (.int 8))]))]))
    (sSeq (sAsg (bNm 7) (fN gTuple [(.val (fComp [12] (iSeq (fVar 5)) (bNm 12) bTrue (fCall [0] h__law_draw [(.slot 1), (.val (fVar 6))])))]))
    (sSeq (sAsg (bNm 8) (fMake 0 h_Question_init [(fVar 3), (fVar 7)]))
    (sSeq (sIf (bOr (bE (fN gNe [(.val (fN (gFld own_sizes "sizes") [(.val (fVar 8))])), (.val (fVar 3))])) (bOr (bE (fN gNe [(.val (fN (gFld own_answers "answers") [(.val (fVar 8))])), (.val (fVar 7))])) (bE (fCmpO true 0 h_Question_eq (fVar 8) (fMake 0 h_Question_init [(fVar 3), (fVar 7)]))))) (sSeq (sRet (fK (.bl false)))
    sNil) sNil)
    (sSeq (sFor (iRng [(fN gLen [(.val (fVar 5))])]) (bNm 9) (sSeq (sIf (bE (fN gNe [(.val (fCall [] h_answer [(.val (fVar 8)), (.val (fN gIx [(.val (fVar 5)), (.val (fVar 9))]))])), (.val (fN gIx [(.val (fVar 7)), (.val (fVar 9))]))])) (sSeq (sRet (fK (.bl false)))
    sNil) sNil)
    sNil))
    (sSeq (sIf (bE (fN gNe [(.val (fCall [] h_many_answers [(.val (fVar 8))])), (.val (fN gLen [(.val (fComp [12] (iRng [(fK (.int 8))]) (bNm 12) (bE (fN gIn [(.val (fVar 12)), (.val (fVar 7))])) (fVar 12)))]))])) (sSeq (sRet (fK (.bl false)))
    sNil) sNil)
    sNil)))))))))))
    (sSeq (sRet (fK (.bl true)))
    sNil))))
def h_law : List D → Rf := runB 13 [] b_law
theorem ok_law (T : Txt K mg cl) {f : Addr} {fd : FuncData} (F : Fun K "law" "law" s_law f fd) : FnOk P w K mg base (L2.CX P w) 6 f fd ["script"] (spD K cl 1 [] h_law) := by
  refine def_okF (k := 5) F sc_law (by decide) (by decide) (by decide) fun cdv A outer s H E hr tk hp => ?_
  have nd : N_law.Nodup := by decide +kernel
  exact (ss_cons (s_set (i := 1) nd (j_call (ok__law_hand T) tk hr (by decide) rfl (ja_cons (o1 := .val _) (j_var (pv 0)) ja_nil)))
      (ss_cons (s_if (PW.pt (t_and (t_cmp (op_eqD hr.units) s_eq (fun _ _ z => eq_bl z) (nomark _) (j_call (ok__law_draw T) tk hr (by decide) rfl (ja_cons (o1 := .slot _) (pv 1) (ja_cons (o1 := .val _) j_int ja_nil))) j_int) (t_and1 (t_not (t_e (j_call (ok__law_listed_right T) tk hr (by decide) rfl (ja_cons (o1 := .val _) (j_bin op_mulAll s_mul (j_tup (fs := [(fK (.int 4))]) (ja_cons (o1 := .val _) j_int ja_nil)) j_int) ja_nil))))))) (ss_cons (s_ret j_bl)
      ss_nil) ss_nil)
      (ss_cons (s_for hp rfl (i_rng1 T.z_range (ja_cons (o1 := .val _) j_int ja_nil)) (g_nm nd (i := 2))
      (ss_cons (s_set (i := 3) nd (j_call (ok__law_sizes T) tk hr (by decide) rfl (ja_cons (o1 := .slot _) (pv 1) (ja_cons (o1 := .val _) j_int (ja_cons (o1 := .val _) j_int ja_nil)))))
      (ss_cons (s_if (t_not (t_e (j_call (ok__law_listed_right T) tk hr (by decide) rfl (ja_cons (o1 := .val _) (j_var (pv 3)) ja_nil)))) (ss_cons (s_ret j_bl)
      ss_nil) ss_nil)
      (ss_cons (s_for hp rfl (i_seq (j_call (ok__law_lots T) tk hr (by decide) rfl (ja_cons (o1 := .val _) (j_callB cr_len s_len T.z_len (by decide +kernel) (ja_cons (j_var (pv 3)) ja_nil)) ja_nil))) (g_nm nd (i := 4))
      (ss_cons (s_set (i := 10) nd (j_call (ok__law_joints T) tk hr (by decide) rfl (ja_cons (o1 := .val _) (j_var (pv 3)) (ja_cons (o1 := .val _) (j_var (pv 4)) ja_nil))))
      (ss_cons (s_set (i := 11) nd (j_call (ok_joints T) tk hr (by decide) rfl (ja_cons (o1 := .val _) (j_var (pv 3)) (ja_cons (o1 := .val _) (j_var (pv 4)) ja_nil))))
      (ss_cons (s_if (PW.pt (t_or (t_not (t_e (j_callB call_isi (s_isi T.isa) T.z_isinstance (by decide +kernel) (ja_cons (pv 11) (ja_cons (j_ty T.z_list (by decide +kernel)) ja_nil))))) (t_or (t_cmp (op_neD hr.units) s_ne (fun _ _ z => ne_bl z) (nomark _) (pv 11) (j_var (pv 10))) (t_or1 (t_not (t_e (j_callB (cr_all rfl) s_all T.z_all (by decide +kernel) (ja_cons (j_compB (own := [("one", 12)]) rfl nd (pv 11) (blkOk_by (own := [("one", 12)]) (N := N_law) (sc := defScope s_law) (by decide +kernel)) (fun _ _ _ _ _ => (g_nm nd (i := 12))) (fun _ _ _ _ _ => c_nil) (fun _ _ _ _ _ => (j_callB call_isi (s_isi T.isa) T.z_isinstance (by decide +kernel) (ja_cons (j_var (pv 12)) (ja_cons (j_ty T.z_tuple (by decide +kernel)) ja_nil)))) (by decide)) ja_nil)))))))) (ss_cons (s_ret j_bl)
      ss_nil) ss_nil)
      (ss_cons (s_expr (j_pop (pv 11)))
      (ss_cons (s_if (t_cmp (op_neD hr.units) s_ne (fun _ _ z => ne_bl z) (nomark _) (j_call (ok_joints T) tk hr (by decide) rfl (ja_cons (o1 := .val _) (j_var (pv 3)) (ja_cons (o1 := .val _) (j_var (pv 4)) ja_nil))) (j_var (pv 10))) (ss_cons (s_ret j_bl)
      ss_nil) ss_nil)
      ss_nil))))))
      (ss_cons (s_set (i := 5) nd (j_call (ok__law_all T) tk hr (by decide) rfl (ja_cons (o1 := .val _) (j_var (pv 3)) ja_nil)))
      (ss_cons (s_set (i := 6) nd (j_call (ok__law_any T) tk hr (by decide) rfl (ja_cons (o1 := .slot _) (pv 1) (ja_cons (o1 := .val _) (j_lst (fs := [(fK (.int 1)), (fK (.int 2)), (fK (.int 3)), (fK (.int 8))]) (ja_cons (o1 := .val _) j_int (ja_cons (o1 := .val _) j_int (ja_cons (o1 := .val _) j_int (ja_cons (o1 := .val _) j_int ja_nil))))) ja_nil))))
      (ss_cons (s_set (i := 7) nd (j_callTy call_tuple_of s_tuple T.z_tuple (by decide +kernel) (ja_cons (j_comp (own := [("one", 12)]) rfl nd (i_seq (j_var (pv 5))) (blkOk_by (own := [("one", 12)]) (N := N_law) (sc := defScope s_law) (by decide +kernel)) (fun _ _ _ _ _ => (g_nm nd (i := 12))) (fun _ _ _ _ _ => c_nil) (fun _ _ _ _ _ => (j_call (ok__law_draw T) takes0 hr (by decide) rfl (ja_cons (o1 := .slot _) (pv 1) (ja_cons (o1 := .val _) (j_var (pv 6)) ja_nil)))) (by decide)) ja_nil)))
      (ss_cons (s_set (i := 8) nd (j_make (n := 0) (mk_Question T) tk hr (by decide) rfl (fun _ _ _ _ _ z => z) (ja_cons (o1 := .val _) (j_var (pv 3)) (ja_cons (o1 := .val _) (j_var (pv 7)) ja_nil))))
      (ss_cons (s_if (PW.pt (t_or (t_cmp (op_neD hr.units) s_ne (fun _ _ z => ne_bl z) (nomark _) (j_fld T.f_sizes (j_var (pv 8))) (j_var (pv 3))) (t_or (t_cmp (op_neD hr.units) s_ne (fun _ _ z => ne_bl z) (nomark _) (j_fld T.f_answers (j_var (pv 8))) (j_var (pv 7))) (t_or1 (t_neO (eq_Question T) hr (by decide) (j_var (pv 8)) (j_make (n := 0) (mk_Question T) tk hr (by decide) rfl (fun _ _ _ _ _ z => z) (ja_cons (o1 := .val _) (j_var (pv 3)) (ja_cons (o1 := .val _) (j_var (pv 7)) ja_nil)))))))) (ss_cons (s_ret j_bl)
      ss_nil) ss_nil)
      (ss_cons (s_for hp rfl (i_rng1 T.z_range (ja_cons (o1 := .val _) (j_callB cr_len s_len T.z_len (by decide +kernel) (ja_cons (j_var (pv 5)) ja_nil)) ja_nil)) (g_nm nd (i := 9))
      (ss_cons (s_if (t_cmp (op_neD hr.units) s_ne (fun _ _ z => ne_bl z) (nomark _) (j_call (ok_answer T) tk hr (by decide) rfl (ja_cons (o1 := .val _) (j_var (pv 8)) (ja_cons (o1 := .val _) (j_ix ix_seq s_ix (fun _ _ => rfl) (j_var (pv 5)) (j_var (pv 9))) ja_nil))) (j_ix ix_seq s_ix (fun _ _ => rfl) (j_var (pv 7)) (j_var (pv 9)))) (ss_cons (s_ret j_bl)
      ss_nil) ss_nil)
      ss_nil))
      (ss_cons (s_if (t_cmp (op_neD hr.units) s_ne (fun _ _ z => ne_bl z) (nomark _) (j_call (ok_many_answers T) tk hr (by decide) rfl (ja_cons (o1 := .val _) (j_var (pv 8)) ja_nil)) (j_callB cr_len s_len T.z_len (by decide +kernel) (ja_cons (j_comp (own := [("one", 12)]) rfl nd (i_rng1 T.z_range (ja_cons (o1 := .val _) j_int ja_nil)) (blkOk_by (own := [("one", 12)]) (N := N_law) (sc := defScope s_law) (by decide +kernel)) (fun _ _ _ _ _ => (g_nm nd (i := 12))) (fun _ _ _ _ _ => (c_one (t_cmp op_inA s_in (fun _ _ z => in_bl z) (by rfl) (j_var (pv 12)) (j_var (pv 7))))) (fun _ _ _ _ _ => (j_var (pv 12))) (by decide)) ja_nil))) (ss_cons (s_ret j_bl)
      ss_nil) ss_nil)
      ss_nil)))))))))))
      (ss_cons (s_ret j_bl)
      ss_nil))))
end K01
namespace K01
open PySem PySem.Spec PyProof.Rows L2 Tw
theorem int_ok (a : Int) : h_is_integer [.int a] = .ret (.bl true) [] := by
  simp only [h_is_integer, b_is_integer, isa_0, isa_8, Tw.e_run, Tw.e_rtR, Tw.e_rtX, Tw.e_rtN, Tw.e_io_nil, Tw.e_io_one, Tw.e_ioR1, Tw.e_seq, Tw.e_seqN, Tw.e_seqR, Tw.e_seqB, Tw.e_seqC, Tw.e_sNil, Tw.e_sBrk, Tw.e_sCont, Tw.e_sRet, Tw.e_sExpr, Tw.e_sIf, Tw.e_sAsg, Tw.e_nxR, Tw.e_bNm, Tw.e_sPar, Tw.e_sFor, Tw.e_sAug, Tw.e_augR, Tw.e_own, Tw.e_ownR, Tw.e_stR2, Tw.e_sStore, Tw.e_stR, Tw.e_stR3, Tw.e_m1R, Tw.e_m1S, Tw.e_m1T, Tw.e_mt1, Tw.e_m0S, Tw.e_mt0, Tw.e_var, Tw.e_varR, Tw.e_move, Tw.e_moveR, Tw.e_K, Tw.e_nil, Tw.e_val, Tw.e_slot, Tw.e_slotR, Tw.e_gnil, Tw.e_gval, Tw.e_gvR, Tw.e_gslot, Tw.e_gsR, Tw.e_gR, Tw.e_gpR, Tw.e_N, Tw.e_vals0, Tw.e_vals1, Tw.e_tup, Tw.e_lst, Tw.e_and, Tw.e_andT, Tw.e_andF, Tw.e_or, Tw.e_orT, Tw.e_orF, Tw.e_not, Tw.e_notR, Tw.e_bE, Tw.e_bR, Tw.e_bAnd, Tw.e_bOr, Tw.e_bNot, Tw.e_bTrue, Tw.e_if, Tw.e_chR2, Tw.e_chRT, Tw.e_chRF, Tw.e_chain, Tw.e_part0, Tw.e_part, Tw.e_partR, Tw.e_sl, Tw.e_rev, Tw.e_kval, Tw.e_kval2, Tw.e_kN, Tw.e_ktup, Tw.e_klst, Tw.e_kand, Tw.e_kor, Tw.e_knot, Tw.e_kbE, Tw.e_kbAnd, Tw.e_kbOr, Tw.e_kbNot, Tw.e_kif, Tw.e_kpart, Tw.e_krev, Tw.e_kcall, Tw.e_ksRet, Tw.e_ksExpr, Tw.e_ksIf, Tw.e_ksAsg, Tw.e_ksFor, Tw.e_ksStore, Tw.e_kstR, Tw.e_km1T, Tw.e_kiSeq, Tw.e_kiRng, Tw.e_kiZip, Tw.e_kmake, Tw.e_kfset, Tw.e_kchRT, Tw.e_kchain2, Tw.e_kchain, Tw.e_ksl, Tw.e_ksl2, Tw.e_ksl3, Tw.e_ksPar, Tw.e_ksPar2, Tw.e_ksAug, Tw.e_ksAug2, Tw.e_kcp3, Tw.e_kcomp, Tw.e_kcomp2, Tw.e_coR, Tw.e_kco2, Tw.e_kco, Tw.e_co, Tw.e_callR, Tw.e_call, Tw.e_io0, Tw.e_io1, Tw.e_io1R, Tw.e_itR, Tw.e_iSeq, Tw.e_rgR, Tw.e_iRng, Tw.e_zpR, Tw.e_iZip, Tw.e_comp, Tw.e_comp2, Tw.e_wipe0, Tw.e_wipe1, Tw.e_bTp, Tw.e_bNil, Tw.e_bCons, Tw.e_mkR, Tw.e_make, Tw.e_fset, Tw.e_fsR, Tw.e_oo, Tw.e_ooR, Tw.e_coR2, Tw.tru_non, Tw.tru_bl, Tw.tru_int, Tw.tru_tup, Tw.tru_lst, Tw.asI_int, Tw.ints_nil, Tw.ints_cons, Tw.items_lst, Tw.items_tup, Tw.seqK_lst, Tw.seqK_tup, Tw.isN_int, Tw.isN_non, Tw.isN_tup, Tw.notN_int, Tw.notN_non, Tw.notN_tup, Tw.mul_int, Tw.add_int, Tw.sub_int, Tw.fdiv_int, Tw.mod_int, Tw.pow_int, Tw.lt_int, Tw.le_int, Tw.gt_int, Tw.ge_int, Tw.neg_int, Tw.imul_int, Tw.iadd_int, Tw.len_lst, Tw.len_tup, Tw.ix_lst, Tw.ix_tup, Tw.tuple_lst, Tw.tuple_tup, Tw.list_lst, Tw.list_tup, Tw.abs_int, Tw.intC_int, Tw.intC_bl, Tw.all_lst, Tw.any_lst, Tw.isi_2, Tw.tag_non, Tw.tag_bl, Tw.tag_int, Tw.tag_str, Tw.tag_tup, Tw.tag_lst, Tw.tag_obj, Tw.asT_ty, Tw.asT_cl, Tw.frz_int, Tw.frz_bl, Tw.frz_non, Tw.frz_ty, Tw.frz_cl, Tw.frz_scr, Tw.frz_tup, Tw.frz_lst, Tw.frz_obj, Tw.frzs_nil, Tw.frzs_cons, Tw.ok_int, Tw.ok_bl, Tw.ok_non, Tw.ok_tup, Tw.ok_lst, Tw.ok_obj, Tw.doks_nil, Tw.doks_cons, Tw.sl_scr, Tw.sl_lst, Tw.sl_tup, Tw.rev_lst, Tw.rev_tup, Tw.eq_int, Tw.ne_int, Tw.e_kcpB, Tw.e_cpB, Tw.e_compB, Tw.e_fgN, Tw.e_fgC, Tw.e_fgB, Tw.e_fgRt, Tw.e_fgR, Tw.e_for0, Tw.e_for1, Tw.e_cgF, Tw.e_cgT, Tw.e_cgR, Tw.e_neo, Tw.e_cg0, Tw.e_cg1, Tw.e_c2A, Tw.e_c2I, Tw.e_c2T, Tw.e_c2R, Tw.e_c20, Tw.e_c21, Tw.at5_0, Tw.at5_1, Tw.at5_2, Tw.at5_3, Tw.at5_4, Tw.ix5_1, Tw.ix5_2, Tw.ix5_3, Tw.ix5_4, Tw.ints_map, Tw.add_tup, Tw.add_lst, Tw.oks_rows, Tw.frzs_rows, Tw.rows_len, Tw.oks_int, Tw.frzs_int, Tw.oks_tI, Tw.ok_tI, Tw.frz_tI, Tw.e_bok, Tw.e_sbok, List.map_cons, List.map_nil, List.length_cons, List.length_nil, List.cons_append, List.nil_append, List.replicate, List.getElem?_cons_zero, List.getElem?_cons_succ, List.set_cons_zero, List.set_cons_succ, Option.bind_some, Option.map_some, Nat.zero_add, Nat.add_zero, Nat.reduceAdd, Nat.reduceSub, Nat.reduceLT, Nat.reduceLeDiff, Bool.and_true, Bool.true_and, Bool.and_self, Bool.not_true, Bool.not_false, Bool.false_and, Bool.and_false, Bool.or_true, Bool.true_or, Bool.or_false, Bool.false_or, if_true, if_false, Bool.false_eq_true, reduceCtorEq, ite_true, ite_false, decide_true, decide_false, decide_eq_true_eq, ne_eq, Int.reduceEq, not_false_eq_true, not_true_eq_false, List.length_map, Option.map_none, Int.reduceNeg]
theorem within_ok (a b c : Int) : h_is_within [.int a, .int b, .int c] = .ret (.bl (decide (b ≤ a) && decide (a ≤ c))) [] := by
  simp only [h_is_within, b_is_within, int_ok, Tw.e_run, Tw.e_rtR, Tw.e_rtX, Tw.e_rtN, Tw.e_io_nil, Tw.e_io_one, Tw.e_ioR1, Tw.e_seq, Tw.e_seqN, Tw.e_seqR, Tw.e_seqB, Tw.e_seqC, Tw.e_sNil, Tw.e_sBrk, Tw.e_sCont, Tw.e_sRet, Tw.e_sExpr, Tw.e_sIf, Tw.e_sAsg, Tw.e_nxR, Tw.e_bNm, Tw.e_sPar, Tw.e_sFor, Tw.e_sAug, Tw.e_augR, Tw.e_own, Tw.e_ownR, Tw.e_stR2, Tw.e_sStore, Tw.e_stR, Tw.e_stR3, Tw.e_m1R, Tw.e_m1S, Tw.e_m1T, Tw.e_mt1, Tw.e_m0S, Tw.e_mt0, Tw.e_var, Tw.e_varR, Tw.e_move, Tw.e_moveR, Tw.e_K, Tw.e_nil, Tw.e_val, Tw.e_slot, Tw.e_slotR, Tw.e_gnil, Tw.e_gval, Tw.e_gvR, Tw.e_gslot, Tw.e_gsR, Tw.e_gR, Tw.e_gpR, Tw.e_N, Tw.e_vals0, Tw.e_vals1, Tw.e_tup, Tw.e_lst, Tw.e_and, Tw.e_andT, Tw.e_andF, Tw.e_or, Tw.e_orT, Tw.e_orF, Tw.e_not, Tw.e_notR, Tw.e_bE, Tw.e_bR, Tw.e_bAnd, Tw.e_bOr, Tw.e_bNot, Tw.e_bTrue, Tw.e_if, Tw.e_chR2, Tw.e_chRT, Tw.e_chRF, Tw.e_chain, Tw.e_part0, Tw.e_part, Tw.e_partR, Tw.e_sl, Tw.e_rev, Tw.e_kval, Tw.e_kval2, Tw.e_kN, Tw.e_ktup, Tw.e_klst, Tw.e_kand, Tw.e_kor, Tw.e_knot, Tw.e_kbE, Tw.e_kbAnd, Tw.e_kbOr, Tw.e_kbNot, Tw.e_kif, Tw.e_kpart, Tw.e_krev, Tw.e_kcall, Tw.e_ksRet, Tw.e_ksExpr, Tw.e_ksIf, Tw.e_ksAsg, Tw.e_ksFor, Tw.e_ksStore, Tw.e_kstR, Tw.e_km1T, Tw.e_kiSeq, Tw.e_kiRng, Tw.e_kiZip, Tw.e_kmake, Tw.e_kfset, Tw.e_kchRT, Tw.e_kchain2, Tw.e_kchain, Tw.e_ksl, Tw.e_ksl2, Tw.e_ksl3, Tw.e_ksPar, Tw.e_ksPar2, Tw.e_ksAug, Tw.e_ksAug2, Tw.e_kcp3, Tw.e_kcomp, Tw.e_kcomp2, Tw.e_coR, Tw.e_kco2, Tw.e_kco, Tw.e_co, Tw.e_callR, Tw.e_call, Tw.e_io0, Tw.e_io1, Tw.e_io1R, Tw.e_itR, Tw.e_iSeq, Tw.e_rgR, Tw.e_iRng, Tw.e_zpR, Tw.e_iZip, Tw.e_comp, Tw.e_comp2, Tw.e_wipe0, Tw.e_wipe1, Tw.e_bTp, Tw.e_bNil, Tw.e_bCons, Tw.e_mkR, Tw.e_make, Tw.e_fset, Tw.e_fsR, Tw.e_oo, Tw.e_ooR, Tw.e_coR2, Tw.tru_non, Tw.tru_bl, Tw.tru_int, Tw.tru_tup, Tw.tru_lst, Tw.asI_int, Tw.ints_nil, Tw.ints_cons, Tw.items_lst, Tw.items_tup, Tw.seqK_lst, Tw.seqK_tup, Tw.isN_int, Tw.isN_non, Tw.isN_tup, Tw.notN_int, Tw.notN_non, Tw.notN_tup, Tw.mul_int, Tw.add_int, Tw.sub_int, Tw.fdiv_int, Tw.mod_int, Tw.pow_int, Tw.lt_int, Tw.le_int, Tw.gt_int, Tw.ge_int, Tw.neg_int, Tw.imul_int, Tw.iadd_int, Tw.len_lst, Tw.len_tup, Tw.ix_lst, Tw.ix_tup, Tw.tuple_lst, Tw.tuple_tup, Tw.list_lst, Tw.list_tup, Tw.abs_int, Tw.intC_int, Tw.intC_bl, Tw.all_lst, Tw.any_lst, Tw.isi_2, Tw.tag_non, Tw.tag_bl, Tw.tag_int, Tw.tag_str, Tw.tag_tup, Tw.tag_lst, Tw.tag_obj, Tw.asT_ty, Tw.asT_cl, Tw.frz_int, Tw.frz_bl, Tw.frz_non, Tw.frz_ty, Tw.frz_cl, Tw.frz_scr, Tw.frz_tup, Tw.frz_lst, Tw.frz_obj, Tw.frzs_nil, Tw.frzs_cons, Tw.ok_int, Tw.ok_bl, Tw.ok_non, Tw.ok_tup, Tw.ok_lst, Tw.ok_obj, Tw.doks_nil, Tw.doks_cons, Tw.sl_scr, Tw.sl_lst, Tw.sl_tup, Tw.rev_lst, Tw.rev_tup, Tw.eq_int, Tw.ne_int, Tw.e_kcpB, Tw.e_cpB, Tw.e_compB, Tw.e_fgN, Tw.e_fgC, Tw.e_fgB, Tw.e_fgRt, Tw.e_fgR, Tw.e_for0, Tw.e_for1, Tw.e_cgF, Tw.e_cgT, Tw.e_cgR, Tw.e_neo, Tw.e_cg0, Tw.e_cg1, Tw.e_c2A, Tw.e_c2I, Tw.e_c2T, Tw.e_c2R, Tw.e_c20, Tw.e_c21, Tw.at5_0, Tw.at5_1, Tw.at5_2, Tw.at5_3, Tw.at5_4, Tw.ix5_1, Tw.ix5_2, Tw.ix5_3, Tw.ix5_4, Tw.ints_map, Tw.add_tup, Tw.add_lst, Tw.oks_rows, Tw.frzs_rows, Tw.rows_len, Tw.oks_int, Tw.frzs_int, Tw.oks_tI, Tw.ok_tI, Tw.frz_tI, Tw.e_bok, Tw.e_sbok, List.map_cons, List.map_nil, List.length_cons, List.length_nil, List.cons_append, List.nil_append, List.replicate, List.getElem?_cons_zero, List.getElem?_cons_succ, List.set_cons_zero, List.set_cons_succ, Option.bind_some, Option.map_some, Nat.zero_add, Nat.add_zero, Nat.reduceAdd, Nat.reduceSub, Nat.reduceLT, Nat.reduceLeDiff, Bool.and_true, Bool.true_and, Bool.and_self, Bool.not_true, Bool.not_false, Bool.false_and, Bool.and_false, Bool.or_true, Bool.true_or, Bool.or_false, Bool.false_or, if_true, if_false, Bool.false_eq_true, reduceCtorEq, ite_true, ite_false, decide_true, decide_false, decide_eq_true_eq, ne_eq, Int.reduceEq, not_false_eq_true, not_true_eq_false, List.length_map, Option.map_none, Int.reduceNeg]
  by_cases h : b ≤ a <;> simp only [h, decide_true, decide_false]
  · simp only [Tw.e_run, Tw.e_rtR, Tw.e_rtX, Tw.e_rtN, Tw.e_io_nil, Tw.e_io_one, Tw.e_ioR1, Tw.e_seq, Tw.e_seqN, Tw.e_seqR, Tw.e_seqB, Tw.e_seqC, Tw.e_sNil, Tw.e_sBrk, Tw.e_sCont, Tw.e_sRet, Tw.e_sExpr, Tw.e_sIf, Tw.e_sAsg, Tw.e_nxR, Tw.e_bNm, Tw.e_sPar, Tw.e_sFor, Tw.e_sAug, Tw.e_augR, Tw.e_own, Tw.e_ownR, Tw.e_stR2, Tw.e_sStore, Tw.e_stR, Tw.e_stR3, Tw.e_m1R, Tw.e_m1S, Tw.e_m1T, Tw.e_mt1, Tw.e_m0S, Tw.e_mt0, Tw.e_var, Tw.e_varR, Tw.e_move, Tw.e_moveR, Tw.e_K, Tw.e_nil, Tw.e_val, Tw.e_slot, Tw.e_slotR, Tw.e_gnil, Tw.e_gval, Tw.e_gvR, Tw.e_gslot, Tw.e_gsR, Tw.e_gR, Tw.e_gpR, Tw.e_N, Tw.e_vals0, Tw.e_vals1, Tw.e_tup, Tw.e_lst, Tw.e_and, Tw.e_andT, Tw.e_andF, Tw.e_or, Tw.e_orT, Tw.e_orF, Tw.e_not, Tw.e_notR, Tw.e_bE, Tw.e_bR, Tw.e_bAnd, Tw.e_bOr, Tw.e_bNot, Tw.e_bTrue, Tw.e_if, Tw.e_chR2, Tw.e_chRT, Tw.e_chRF, Tw.e_chain, Tw.e_part0, Tw.e_part, Tw.e_partR, Tw.e_sl, Tw.e_rev, Tw.e_kval, Tw.e_kval2, Tw.e_kN, Tw.e_ktup, Tw.e_klst, Tw.e_kand, Tw.e_kor, Tw.e_knot, Tw.e_kbE, Tw.e_kbAnd, Tw.e_kbOr, Tw.e_kbNot, Tw.e_kif, Tw.e_kpart, Tw.e_krev, Tw.e_kcall, Tw.e_ksRet, Tw.e_ksExpr, Tw.e_ksIf, Tw.e_ksAsg, Tw.e_ksFor, Tw.e_ksStore, Tw.e_kstR, Tw.e_km1T, Tw.e_kiSeq, Tw.e_kiRng, Tw.e_kiZip, Tw.e_kmake, Tw.e_kfset, Tw.e_kchRT, Tw.e_kchain2, Tw.e_kchain, Tw.e_ksl, Tw.e_ksl2, Tw.e_ksl3, Tw.e_ksPar, Tw.e_ksPar2, Tw.e_ksAug, Tw.e_ksAug2, Tw.e_kcp3, Tw.e_kcomp, Tw.e_kcomp2, Tw.e_coR, Tw.e_kco2, Tw.e_kco, Tw.e_co, Tw.e_callR, Tw.e_call, Tw.e_io0, Tw.e_io1, Tw.e_io1R, Tw.e_itR, Tw.e_iSeq, Tw.e_rgR, Tw.e_iRng, Tw.e_zpR, Tw.e_iZip, Tw.e_comp, Tw.e_comp2, Tw.e_wipe0, Tw.e_wipe1, Tw.e_bTp, Tw.e_bNil, Tw.e_bCons, Tw.e_mkR, Tw.e_make, Tw.e_fset, Tw.e_fsR, Tw.e_oo, Tw.e_ooR, Tw.e_coR2, Tw.tru_non, Tw.tru_bl, Tw.tru_int, Tw.tru_tup, Tw.tru_lst, Tw.asI_int, Tw.ints_nil, Tw.ints_cons, Tw.items_lst, Tw.items_tup, Tw.seqK_lst, Tw.seqK_tup, Tw.isN_int, Tw.isN_non, Tw.isN_tup, Tw.notN_int, Tw.notN_non, Tw.notN_tup, Tw.mul_int, Tw.add_int, Tw.sub_int, Tw.fdiv_int, Tw.mod_int, Tw.pow_int, Tw.lt_int, Tw.le_int, Tw.gt_int, Tw.ge_int, Tw.neg_int, Tw.imul_int, Tw.iadd_int, Tw.len_lst, Tw.len_tup, Tw.ix_lst, Tw.ix_tup, Tw.tuple_lst, Tw.tuple_tup, Tw.list_lst, Tw.list_tup, Tw.abs_int, Tw.intC_int, Tw.intC_bl, Tw.all_lst, Tw.any_lst, Tw.isi_2, Tw.tag_non, Tw.tag_bl, Tw.tag_int, Tw.tag_str, Tw.tag_tup, Tw.tag_lst, Tw.tag_obj, Tw.asT_ty, Tw.asT_cl, Tw.frz_int, Tw.frz_bl, Tw.frz_non, Tw.frz_ty, Tw.frz_cl, Tw.frz_scr, Tw.frz_tup, Tw.frz_lst, Tw.frz_obj, Tw.frzs_nil, Tw.frzs_cons, Tw.ok_int, Tw.ok_bl, Tw.ok_non, Tw.ok_tup, Tw.ok_lst, Tw.ok_obj, Tw.doks_nil, Tw.doks_cons, Tw.sl_scr, Tw.sl_lst, Tw.sl_tup, Tw.rev_lst, Tw.rev_tup, Tw.eq_int, Tw.ne_int, Tw.e_kcpB, Tw.e_cpB, Tw.e_compB, Tw.e_fgN, Tw.e_fgC, Tw.e_fgB, Tw.e_fgRt, Tw.e_fgR, Tw.e_for0, Tw.e_for1, Tw.e_cgF, Tw.e_cgT, Tw.e_cgR, Tw.e_neo, Tw.e_cg0, Tw.e_cg1, Tw.e_c2A, Tw.e_c2I, Tw.e_c2T, Tw.e_c2R, Tw.e_c20, Tw.e_c21, Tw.at5_0, Tw.at5_1, Tw.at5_2, Tw.at5_3, Tw.at5_4, Tw.ix5_1, Tw.ix5_2, Tw.ix5_3, Tw.ix5_4, Tw.ints_map, Tw.add_tup, Tw.add_lst, Tw.oks_rows, Tw.frzs_rows, Tw.rows_len, Tw.oks_int, Tw.frzs_int, Tw.oks_tI, Tw.ok_tI, Tw.frz_tI, Tw.e_bok, Tw.e_sbok, List.map_cons, List.map_nil, List.length_cons, List.length_nil, List.cons_append, List.nil_append, List.replicate, List.getElem?_cons_zero, List.getElem?_cons_succ, List.set_cons_zero, List.set_cons_succ, Option.bind_some, Option.map_some, Nat.zero_add, Nat.add_zero, Nat.reduceAdd, Nat.reduceSub, Nat.reduceLT, Nat.reduceLeDiff, Bool.and_true, Bool.true_and, Bool.and_self, Bool.not_true, Bool.not_false, Bool.false_and, Bool.and_false, Bool.or_true, Bool.true_or, Bool.or_false, Bool.false_or, if_true, if_false, Bool.false_eq_true, reduceCtorEq, ite_true, ite_false, decide_true, decide_false, decide_eq_true_eq, ne_eq, Int.reduceEq, not_false_eq_true, not_true_eq_false, List.length_map, Option.map_none, Int.reduceNeg]
  · simp only [Tw.e_run, Tw.e_rtR, Tw.e_rtX, Tw.e_rtN, Tw.e_io_nil, Tw.e_io_one, Tw.e_ioR1, Tw.e_seq, Tw.e_seqN, Tw.e_seqR, Tw.e_seqB, Tw.e_seqC, Tw.e_sNil, Tw.e_sBrk, Tw.e_sCont, Tw.e_sRet, Tw.e_sExpr, Tw.e_sIf, Tw.e_sAsg, Tw.e_nxR, Tw.e_bNm, Tw.e_sPar, Tw.e_sFor, Tw.e_sAug, Tw.e_augR, Tw.e_own, Tw.e_ownR, Tw.e_stR2, Tw.e_sStore, Tw.e_stR, Tw.e_stR3, Tw.e_m1R, Tw.e_m1S, Tw.e_m1T, Tw.e_mt1, Tw.e_m0S, Tw.e_mt0, Tw.e_var, Tw.e_varR, Tw.e_move, Tw.e_moveR, Tw.e_K, Tw.e_nil, Tw.e_val, Tw.e_slot, Tw.e_slotR, Tw.e_gnil, Tw.e_gval, Tw.e_gvR, Tw.e_gslot, Tw.e_gsR, Tw.e_gR, Tw.e_gpR, Tw.e_N, Tw.e_vals0, Tw.e_vals1, Tw.e_tup, Tw.e_lst, Tw.e_and, Tw.e_andT, Tw.e_andF, Tw.e_or, Tw.e_orT, Tw.e_orF, Tw.e_not, Tw.e_notR, Tw.e_bE, Tw.e_bR, Tw.e_bAnd, Tw.e_bOr, Tw.e_bNot, Tw.e_bTrue, Tw.e_if, Tw.e_chR2, Tw.e_chRT, Tw.e_chRF, Tw.e_chain, Tw.e_part0, Tw.e_part, Tw.e_partR, Tw.e_sl, Tw.e_rev, Tw.e_kval, Tw.e_kval2, Tw.e_kN, Tw.e_ktup, Tw.e_klst, Tw.e_kand, Tw.e_kor, Tw.e_knot, Tw.e_kbE, Tw.e_kbAnd, Tw.e_kbOr, Tw.e_kbNot, Tw.e_kif, Tw.e_kpart, Tw.e_krev, Tw.e_kcall, Tw.e_ksRet, Tw.e_ksExpr, Tw.e_ksIf, Tw.e_ksAsg, Tw.e_ksFor, Tw.e_ksStore, Tw.e_kstR, Tw.e_km1T, Tw.e_kiSeq, Tw.e_kiRng, Tw.e_kiZip, Tw.e_kmake, Tw.e_kfset, Tw.e_kchRT, Tw.e_kchain2, Tw.e_kchain, Tw.e_ksl, Tw.e_ksl2, Tw.e_ksl3, Tw.e_ksPar, Tw.e_ksPar2, Tw.e_ksAug, Tw.e_ksAug2, Tw.e_kcp3, Tw.e_kcomp, Tw.e_kcomp2, Tw.e_coR, Tw.e_kco2, Tw.e_kco, Tw.e_co, Tw.e_callR, Tw.e_call, Tw.e_io0, Tw.e_io1, Tw.e_io1R, Tw.e_itR, Tw.e_iSeq, Tw.e_rgR, Tw.e_iRng, Tw.e_zpR, Tw.e_iZip, Tw.e_comp, Tw.e_comp2, Tw.e_wipe0, Tw.e_wipe1, Tw.e_bTp, Tw.e_bNil, Tw.e_bCons, Tw.e_mkR, Tw.e_make, Tw.e_fset, Tw.e_fsR, Tw.e_oo, Tw.e_ooR, Tw.e_coR2, Tw.tru_non, Tw.tru_bl, Tw.tru_int, Tw.tru_tup, Tw.tru_lst, Tw.asI_int, Tw.ints_nil, Tw.ints_cons, Tw.items_lst, Tw.items_tup, Tw.seqK_lst, Tw.seqK_tup, Tw.isN_int, Tw.isN_non, Tw.isN_tup, Tw.notN_int, Tw.notN_non, Tw.notN_tup, Tw.mul_int, Tw.add_int, Tw.sub_int, Tw.fdiv_int, Tw.mod_int, Tw.pow_int, Tw.lt_int, Tw.le_int, Tw.gt_int, Tw.ge_int, Tw.neg_int, Tw.imul_int, Tw.iadd_int, Tw.len_lst, Tw.len_tup, Tw.ix_lst, Tw.ix_tup, Tw.tuple_lst, Tw.tuple_tup, Tw.list_lst, Tw.list_tup, Tw.abs_int, Tw.intC_int, Tw.intC_bl, Tw.all_lst, Tw.any_lst, Tw.isi_2, Tw.tag_non, Tw.tag_bl, Tw.tag_int, Tw.tag_str, Tw.tag_tup, Tw.tag_lst, Tw.tag_obj, Tw.asT_ty, Tw.asT_cl, Tw.frz_int, Tw.frz_bl, Tw.frz_non, Tw.frz_ty, Tw.frz_cl, Tw.frz_scr, Tw.frz_tup, Tw.frz_lst, Tw.frz_obj, Tw.frzs_nil, Tw.frzs_cons, Tw.ok_int, Tw.ok_bl, Tw.ok_non, Tw.ok_tup, Tw.ok_lst, Tw.ok_obj, Tw.doks_nil, Tw.doks_cons, Tw.sl_scr, Tw.sl_lst, Tw.sl_tup, Tw.rev_lst, Tw.rev_tup, Tw.eq_int, Tw.ne_int, Tw.e_kcpB, Tw.e_cpB, Tw.e_compB, Tw.e_fgN, Tw.e_fgC, Tw.e_fgB, Tw.e_fgRt, Tw.e_fgR, Tw.e_for0, Tw.e_for1, Tw.e_cgF, Tw.e_cgT, Tw.e_cgR, Tw.e_neo, Tw.e_cg0, Tw.e_cg1, Tw.e_c2A, Tw.e_c2I, Tw.e_c2T, Tw.e_c2R, Tw.e_c20, Tw.e_c21, Tw.at5_0, Tw.at5_1, Tw.at5_2, Tw.at5_3, Tw.at5_4, Tw.ix5_1, Tw.ix5_2, Tw.ix5_3, Tw.ix5_4, Tw.ints_map, Tw.add_tup, Tw.add_lst, Tw.oks_rows, Tw.frzs_rows, Tw.rows_len, Tw.oks_int, Tw.frzs_int, Tw.oks_tI, Tw.ok_tI, Tw.frz_tI, Tw.e_bok, Tw.e_sbok, List.map_cons, List.map_nil, List.length_cons, List.length_nil, List.cons_append, List.nil_append, List.replicate, List.getElem?_cons_zero, List.getElem?_cons_succ, List.set_cons_zero, List.set_cons_succ, Option.bind_some, Option.map_some, Nat.zero_add, Nat.add_zero, Nat.reduceAdd, Nat.reduceSub, Nat.reduceLT, Nat.reduceLeDiff, Bool.and_true, Bool.true_and, Bool.and_self, Bool.not_true, Bool.not_false, Bool.false_and, Bool.and_false, Bool.or_true, Bool.true_or, Bool.or_false, Bool.false_or, if_true, if_false, Bool.false_eq_true, reduceCtorEq, ite_true, ite_false, decide_true, decide_false, decide_eq_true_eq, ne_eq, Int.reduceEq, not_false_eq_true, not_true_eq_false, List.length_map, Option.map_none, Int.reduceNeg]
/-- sizes as they are asked for -/
def Sz (ns : List Int) : Prop := 1 ≤ ns.length ∧ ns.length ≤ 6 ∧ ∀ n ∈ ns, 2 ≤ n ∧ n ≤ 4
theorem check_sizes_ok {ns : List Int} (h : Sz ns) : h_check_sizes [.tup (ns.map .int)] = .ret .non [] := by
  obtain ⟨h1, h2, h3⟩ := h
  have c1 : (1 : Int) ≤ (ns.length : Int) := by omega
  have c2 : (ns.length : Int) ≤ 6 := by omega
  have l : lenOk ns.length = true := lenOk_of (by omega)
  have key : compGo [1] (bNm 1) bTrue (fCall [] h_is_within [.val (fVar 1), .val (fK (.int 2)), .val (fK (.int 4))]) (ns.map .int) [] [some (.tup (ns.map .int)), none] = .ok (ns.map fun _ => .bl true) [some (.tup (ns.map .int)), none] := by
    refine comp_map1 (fun _ => .bl true) ns fun x hx ds acc => ?_
    have a1 := (h3 x hx).1
    have a2 := (h3 x hx).2
    simp only [within_ok, a1, a2, Tw.e_run, Tw.e_rtR, Tw.e_rtX, Tw.e_rtN, Tw.e_io_nil, Tw.e_io_one, Tw.e_ioR1, Tw.e_seq, Tw.e_seqN, Tw.e_seqR, Tw.e_seqB, Tw.e_seqC, Tw.e_sNil, Tw.e_sBrk, Tw.e_sCont, Tw.e_sRet, Tw.e_sExpr, Tw.e_sIf, Tw.e_sAsg, Tw.e_nxR, Tw.e_bNm, Tw.e_sPar, Tw.e_sFor, Tw.e_sAug, Tw.e_augR, Tw.e_own, Tw.e_ownR, Tw.e_stR2, Tw.e_sStore, Tw.e_stR, Tw.e_stR3, Tw.e_m1R, Tw.e_m1S, Tw.e_m1T, Tw.e_mt1, Tw.e_m0S, Tw.e_mt0, Tw.e_var, Tw.e_varR, Tw.e_move, Tw.e_moveR, Tw.e_K, Tw.e_nil, Tw.e_val, Tw.e_slot, Tw.e_slotR, Tw.e_gnil, Tw.e_gval, Tw.e_gvR, Tw.e_gslot, Tw.e_gsR, Tw.e_gR, Tw.e_gpR, Tw.e_N, Tw.e_vals0, Tw.e_vals1, Tw.e_tup, Tw.e_lst, Tw.e_and, Tw.e_andT, Tw.e_andF, Tw.e_or, Tw.e_orT, Tw.e_orF, Tw.e_not, Tw.e_notR, Tw.e_bE, Tw.e_bR, Tw.e_bAnd, Tw.e_bOr, Tw.e_bNot, Tw.e_bTrue, Tw.e_if, Tw.e_chR2, Tw.e_chRT, Tw.e_chRF, Tw.e_chain, Tw.e_part0, Tw.e_part, Tw.e_partR, Tw.e_sl, Tw.e_rev, Tw.e_kval, Tw.e_kval2, Tw.e_kN, Tw.e_ktup, Tw.e_klst, Tw.e_kand, Tw.e_kor, Tw.e_knot, Tw.e_kbE, Tw.e_kbAnd, Tw.e_kbOr, Tw.e_kbNot, Tw.e_kif, Tw.e_kpart, Tw.e_krev, Tw.e_kcall, Tw.e_ksRet, Tw.e_ksExpr, Tw.e_ksIf, Tw.e_ksAsg, Tw.e_ksFor, Tw.e_ksStore, Tw.e_kstR, Tw.e_km1T, Tw.e_kiSeq, Tw.e_kiRng, Tw.e_kiZip, Tw.e_kmake, Tw.e_kfset, Tw.e_kchRT, Tw.e_kchain2, Tw.e_kchain, Tw.e_ksl, Tw.e_ksl2, Tw.e_ksl3, Tw.e_ksPar, Tw.e_ksPar2, Tw.e_ksAug, Tw.e_ksAug2, Tw.e_kcp3, Tw.e_kcomp, Tw.e_kcomp2, Tw.e_coR, Tw.e_kco2, Tw.e_kco, Tw.e_co, Tw.e_callR, Tw.e_call, Tw.e_io0, Tw.e_io1, Tw.e_io1R, Tw.e_itR, Tw.e_iSeq, Tw.e_rgR, Tw.e_iRng, Tw.e_zpR, Tw.e_iZip, Tw.e_comp, Tw.e_comp2, Tw.e_wipe0, Tw.e_wipe1, Tw.e_bTp, Tw.e_bNil, Tw.e_bCons, Tw.e_mkR, Tw.e_make, Tw.e_fset, Tw.e_fsR, Tw.e_oo, Tw.e_ooR, Tw.e_coR2, Tw.tru_non, Tw.tru_bl, Tw.tru_int, Tw.tru_tup, Tw.tru_lst, Tw.asI_int, Tw.ints_nil, Tw.ints_cons, Tw.items_lst, Tw.items_tup, Tw.seqK_lst, Tw.seqK_tup, Tw.isN_int, Tw.isN_non, Tw.isN_tup, Tw.notN_int, Tw.notN_non, Tw.notN_tup, Tw.mul_int, Tw.add_int, Tw.sub_int, Tw.fdiv_int, Tw.mod_int, Tw.pow_int, Tw.lt_int, Tw.le_int, Tw.gt_int, Tw.ge_int, Tw.neg_int, Tw.imul_int, Tw.iadd_int, Tw.len_lst, Tw.len_tup, Tw.ix_lst, Tw.ix_tup, Tw.tuple_lst, Tw.tuple_tup, Tw.list_lst, Tw.list_tup, Tw.abs_int, Tw.intC_int, Tw.intC_bl, Tw.all_lst, Tw.any_lst, Tw.isi_2, Tw.tag_non, Tw.tag_bl, Tw.tag_int, Tw.tag_str, Tw.tag_tup, Tw.tag_lst, Tw.tag_obj, Tw.asT_ty, Tw.asT_cl, Tw.frz_int, Tw.frz_bl, Tw.frz_non, Tw.frz_ty, Tw.frz_cl, Tw.frz_scr, Tw.frz_tup, Tw.frz_lst, Tw.frz_obj, Tw.frzs_nil, Tw.frzs_cons, Tw.ok_int, Tw.ok_bl, Tw.ok_non, Tw.ok_tup, Tw.ok_lst, Tw.ok_obj, Tw.doks_nil, Tw.doks_cons, Tw.sl_scr, Tw.sl_lst, Tw.sl_tup, Tw.rev_lst, Tw.rev_tup, Tw.eq_int, Tw.ne_int, Tw.e_kcpB, Tw.e_cpB, Tw.e_compB, Tw.e_fgN, Tw.e_fgC, Tw.e_fgB, Tw.e_fgRt, Tw.e_fgR, Tw.e_for0, Tw.e_for1, Tw.e_cgF, Tw.e_cgT, Tw.e_cgR, Tw.e_neo, Tw.e_cg0, Tw.e_cg1, Tw.e_c2A, Tw.e_c2I, Tw.e_c2T, Tw.e_c2R, Tw.e_c20, Tw.e_c21, Tw.at5_0, Tw.at5_1, Tw.at5_2, Tw.at5_3, Tw.at5_4, Tw.ix5_1, Tw.ix5_2, Tw.ix5_3, Tw.ix5_4, Tw.ints_map, Tw.add_tup, Tw.add_lst, Tw.oks_rows, Tw.frzs_rows, Tw.rows_len, Tw.oks_int, Tw.frzs_int, Tw.oks_tI, Tw.ok_tI, Tw.frz_tI, Tw.e_bok, Tw.e_sbok, List.map_cons, List.map_nil, List.length_cons, List.length_nil, List.cons_append, List.nil_append, List.replicate, List.getElem?_cons_zero, List.getElem?_cons_succ, List.set_cons_zero, List.set_cons_succ, Option.bind_some, Option.map_some, Nat.zero_add, Nat.add_zero, Nat.reduceAdd, Nat.reduceSub, Nat.reduceLT, Nat.reduceLeDiff, Bool.and_true, Bool.true_and, Bool.and_self, Bool.not_true, Bool.not_false, Bool.false_and, Bool.and_false, Bool.or_true, Bool.true_or, Bool.or_false, Bool.false_or, if_true, if_false, Bool.false_eq_true, reduceCtorEq, ite_true, ite_false, decide_true, decide_false, decide_eq_true_eq, ne_eq, Int.reduceEq, not_false_eq_true, not_true_eq_false, List.length_map, Option.map_none, Int.reduceNeg]
  simp only [h_check_sizes, b_check_sizes, isa_20, c1, c2, l, key, bools_mapP, Tw.e_run, Tw.e_rtR, Tw.e_rtX, Tw.e_rtN, Tw.e_io_nil, Tw.e_io_one, Tw.e_ioR1, Tw.e_seq, Tw.e_seqN, Tw.e_seqR, Tw.e_seqB, Tw.e_seqC, Tw.e_sNil, Tw.e_sBrk, Tw.e_sCont, Tw.e_sRet, Tw.e_sExpr, Tw.e_sIf, Tw.e_sAsg, Tw.e_nxR, Tw.e_bNm, Tw.e_sPar, Tw.e_sFor, Tw.e_sAug, Tw.e_augR, Tw.e_own, Tw.e_ownR, Tw.e_stR2, Tw.e_sStore, Tw.e_stR, Tw.e_stR3, Tw.e_m1R, Tw.e_m1S, Tw.e_m1T, Tw.e_mt1, Tw.e_m0S, Tw.e_mt0, Tw.e_var, Tw.e_varR, Tw.e_move, Tw.e_moveR, Tw.e_K, Tw.e_nil, Tw.e_val, Tw.e_slot, Tw.e_slotR, Tw.e_gnil, Tw.e_gval, Tw.e_gvR, Tw.e_gslot, Tw.e_gsR, Tw.e_gR, Tw.e_gpR, Tw.e_N, Tw.e_vals0, Tw.e_vals1, Tw.e_tup, Tw.e_lst, Tw.e_and, Tw.e_andT, Tw.e_andF, Tw.e_or, Tw.e_orT, Tw.e_orF, Tw.e_not, Tw.e_notR, Tw.e_bE, Tw.e_bR, Tw.e_bAnd, Tw.e_bOr, Tw.e_bNot, Tw.e_bTrue, Tw.e_if, Tw.e_chR2, Tw.e_chRT, Tw.e_chRF, Tw.e_chain, Tw.e_part0, Tw.e_part, Tw.e_partR, Tw.e_sl, Tw.e_rev, Tw.e_kval, Tw.e_kval2, Tw.e_kN, Tw.e_ktup, Tw.e_klst, Tw.e_kand, Tw.e_kor, Tw.e_knot, Tw.e_kbE, Tw.e_kbAnd, Tw.e_kbOr, Tw.e_kbNot, Tw.e_kif, Tw.e_kpart, Tw.e_krev, Tw.e_kcall, Tw.e_ksRet, Tw.e_ksExpr, Tw.e_ksIf, Tw.e_ksAsg, Tw.e_ksFor, Tw.e_ksStore, Tw.e_kstR, Tw.e_km1T, Tw.e_kiSeq, Tw.e_kiRng, Tw.e_kiZip, Tw.e_kmake, Tw.e_kfset, Tw.e_kchRT, Tw.e_kchain2, Tw.e_kchain, Tw.e_ksl, Tw.e_ksl2, Tw.e_ksl3, Tw.e_ksPar, Tw.e_ksPar2, Tw.e_ksAug, Tw.e_ksAug2, Tw.e_kcp3, Tw.e_kcomp, Tw.e_kcomp2, Tw.e_coR, Tw.e_kco2, Tw.e_kco, Tw.e_co, Tw.e_callR, Tw.e_call, Tw.e_io0, Tw.e_io1, Tw.e_io1R, Tw.e_itR, Tw.e_iSeq, Tw.e_rgR, Tw.e_iRng, Tw.e_zpR, Tw.e_iZip, Tw.e_comp, Tw.e_comp2, Tw.e_wipe0, Tw.e_wipe1, Tw.e_bTp, Tw.e_bNil, Tw.e_bCons, Tw.e_mkR, Tw.e_make, Tw.e_fset, Tw.e_fsR, Tw.e_oo, Tw.e_ooR, Tw.e_coR2, Tw.tru_non, Tw.tru_bl, Tw.tru_int, Tw.tru_tup, Tw.tru_lst, Tw.asI_int, Tw.ints_nil, Tw.ints_cons, Tw.items_lst, Tw.items_tup, Tw.seqK_lst, Tw.seqK_tup, Tw.isN_int, Tw.isN_non, Tw.isN_tup, Tw.notN_int, Tw.notN_non, Tw.notN_tup, Tw.mul_int, Tw.add_int, Tw.sub_int, Tw.fdiv_int, Tw.mod_int, Tw.pow_int, Tw.lt_int, Tw.le_int, Tw.gt_int, Tw.ge_int, Tw.neg_int, Tw.imul_int, Tw.iadd_int, Tw.len_lst, Tw.len_tup, Tw.ix_lst, Tw.ix_tup, Tw.tuple_lst, Tw.tuple_tup, Tw.list_lst, Tw.list_tup, Tw.abs_int, Tw.intC_int, Tw.intC_bl, Tw.all_lst, Tw.any_lst, Tw.isi_2, Tw.tag_non, Tw.tag_bl, Tw.tag_int, Tw.tag_str, Tw.tag_tup, Tw.tag_lst, Tw.tag_obj, Tw.asT_ty, Tw.asT_cl, Tw.frz_int, Tw.frz_bl, Tw.frz_non, Tw.frz_ty, Tw.frz_cl, Tw.frz_scr, Tw.frz_tup, Tw.frz_lst, Tw.frz_obj, Tw.frzs_nil, Tw.frzs_cons, Tw.ok_int, Tw.ok_bl, Tw.ok_non, Tw.ok_tup, Tw.ok_lst, Tw.ok_obj, Tw.doks_nil, Tw.doks_cons, Tw.sl_scr, Tw.sl_lst, Tw.sl_tup, Tw.rev_lst, Tw.rev_tup, Tw.eq_int, Tw.ne_int, Tw.e_kcpB, Tw.e_cpB, Tw.e_compB, Tw.e_fgN, Tw.e_fgC, Tw.e_fgB, Tw.e_fgRt, Tw.e_fgR, Tw.e_for0, Tw.e_for1, Tw.e_cgF, Tw.e_cgT, Tw.e_cgR, Tw.e_neo, Tw.e_cg0, Tw.e_cg1, Tw.e_c2A, Tw.e_c2I, Tw.e_c2T, Tw.e_c2R, Tw.e_c20, Tw.e_c21, Tw.at5_0, Tw.at5_1, Tw.at5_2, Tw.at5_3, Tw.at5_4, Tw.ix5_1, Tw.ix5_2, Tw.ix5_3, Tw.ix5_4, Tw.ints_map, Tw.add_tup, Tw.add_lst, Tw.oks_rows, Tw.frzs_rows, Tw.rows_len, Tw.oks_int, Tw.frzs_int, Tw.oks_tI, Tw.ok_tI, Tw.frz_tI, Tw.e_bok, Tw.e_sbok, List.map_cons, List.map_nil, List.length_cons, List.length_nil, List.cons_append, List.nil_append, List.replicate, List.getElem?_cons_zero, List.getElem?_cons_succ, List.set_cons_zero, List.set_cons_succ, Option.bind_some, Option.map_some, Nat.zero_add, Nat.add_zero, Nat.reduceAdd, Nat.reduceSub, Nat.reduceLT, Nat.reduceLeDiff, Bool.and_true, Bool.true_and, Bool.and_self, Bool.not_true, Bool.not_false, Bool.false_and, Bool.and_false, Bool.or_true, Bool.true_or, Bool.or_false, Bool.false_or, if_true, if_false, Bool.false_eq_true, reduceCtorEq, ite_true, ite_false, decide_true, decide_false, decide_eq_true_eq, ne_eq, Int.reduceEq, not_false_eq_true, not_true_eq_false, List.length_map, Option.map_none, Int.reduceNeg]
  have e : (ns.map fun _ => true).all id = true := by simp
  simp only [e, Tw.e_run, Tw.e_rtR, Tw.e_rtX, Tw.e_rtN, Tw.e_io_nil, Tw.e_io_one, Tw.e_ioR1, Tw.e_seq, Tw.e_seqN, Tw.e_seqR, Tw.e_seqB, Tw.e_seqC, Tw.e_sNil, Tw.e_sBrk, Tw.e_sCont, Tw.e_sRet, Tw.e_sExpr, Tw.e_sIf, Tw.e_sAsg, Tw.e_nxR, Tw.e_bNm, Tw.e_sPar, Tw.e_sFor, Tw.e_sAug, Tw.e_augR, Tw.e_own, Tw.e_ownR, Tw.e_stR2, Tw.e_sStore, Tw.e_stR, Tw.e_stR3, Tw.e_m1R, Tw.e_m1S, Tw.e_m1T, Tw.e_mt1, Tw.e_m0S, Tw.e_mt0, Tw.e_var, Tw.e_varR, Tw.e_move, Tw.e_moveR, Tw.e_K, Tw.e_nil, Tw.e_val, Tw.e_slot, Tw.e_slotR, Tw.e_gnil, Tw.e_gval, Tw.e_gvR, Tw.e_gslot, Tw.e_gsR, Tw.e_gR, Tw.e_gpR, Tw.e_N, Tw.e_vals0, Tw.e_vals1, Tw.e_tup, Tw.e_lst, Tw.e_and, Tw.e_andT, Tw.e_andF, Tw.e_or, Tw.e_orT, Tw.e_orF, Tw.e_not, Tw.e_notR, Tw.e_bE, Tw.e_bR, Tw.e_bAnd, Tw.e_bOr, Tw.e_bNot, Tw.e_bTrue, Tw.e_if, Tw.e_chR2, Tw.e_chRT, Tw.e_chRF, Tw.e_chain, Tw.e_part0, Tw.e_part, Tw.e_partR, Tw.e_sl, Tw.e_rev, Tw.e_kval, Tw.e_kval2, Tw.e_kN, Tw.e_ktup, Tw.e_klst, Tw.e_kand, Tw.e_kor, Tw.e_knot, Tw.e_kbE, Tw.e_kbAnd, Tw.e_kbOr, Tw.e_kbNot, Tw.e_kif, Tw.e_kpart, Tw.e_krev, Tw.e_kcall, Tw.e_ksRet, Tw.e_ksExpr, Tw.e_ksIf, Tw.e_ksAsg, Tw.e_ksFor, Tw.e_ksStore, Tw.e_kstR, Tw.e_km1T, Tw.e_kiSeq, Tw.e_kiRng, Tw.e_kiZip, Tw.e_kmake, Tw.e_kfset, Tw.e_kchRT, Tw.e_kchain2, Tw.e_kchain, Tw.e_ksl, Tw.e_ksl2, Tw.e_ksl3, Tw.e_ksPar, Tw.e_ksPar2, Tw.e_ksAug, Tw.e_ksAug2, Tw.e_kcp3, Tw.e_kcomp, Tw.e_kcomp2, Tw.e_coR, Tw.e_kco2, Tw.e_kco, Tw.e_co, Tw.e_callR, Tw.e_call, Tw.e_io0, Tw.e_io1, Tw.e_io1R, Tw.e_itR, Tw.e_iSeq, Tw.e_rgR, Tw.e_iRng, Tw.e_zpR, Tw.e_iZip, Tw.e_comp, Tw.e_comp2, Tw.e_wipe0, Tw.e_wipe1, Tw.e_bTp, Tw.e_bNil, Tw.e_bCons, Tw.e_mkR, Tw.e_make, Tw.e_fset, Tw.e_fsR, Tw.e_oo, Tw.e_ooR, Tw.e_coR2, Tw.tru_non, Tw.tru_bl, Tw.tru_int, Tw.tru_tup, Tw.tru_lst, Tw.asI_int, Tw.ints_nil, Tw.ints_cons, Tw.items_lst, Tw.items_tup, Tw.seqK_lst, Tw.seqK_tup, Tw.isN_int, Tw.isN_non, Tw.isN_tup, Tw.notN_int, Tw.notN_non, Tw.notN_tup, Tw.mul_int, Tw.add_int, Tw.sub_int, Tw.fdiv_int, Tw.mod_int, Tw.pow_int, Tw.lt_int, Tw.le_int, Tw.gt_int, Tw.ge_int, Tw.neg_int, Tw.imul_int, Tw.iadd_int, Tw.len_lst, Tw.len_tup, Tw.ix_lst, Tw.ix_tup, Tw.tuple_lst, Tw.tuple_tup, Tw.list_lst, Tw.list_tup, Tw.abs_int, Tw.intC_int, Tw.intC_bl, Tw.all_lst, Tw.any_lst, Tw.isi_2, Tw.tag_non, Tw.tag_bl, Tw.tag_int, Tw.tag_str, Tw.tag_tup, Tw.tag_lst, Tw.tag_obj, Tw.asT_ty, Tw.asT_cl, Tw.frz_int, Tw.frz_bl, Tw.frz_non, Tw.frz_ty, Tw.frz_cl, Tw.frz_scr, Tw.frz_tup, Tw.frz_lst, Tw.frz_obj, Tw.frzs_nil, Tw.frzs_cons, Tw.ok_int, Tw.ok_bl, Tw.ok_non, Tw.ok_tup, Tw.ok_lst, Tw.ok_obj, Tw.doks_nil, Tw.doks_cons, Tw.sl_scr, Tw.sl_lst, Tw.sl_tup, Tw.rev_lst, Tw.rev_tup, Tw.eq_int, Tw.ne_int, Tw.e_kcpB, Tw.e_cpB, Tw.e_compB, Tw.e_fgN, Tw.e_fgC, Tw.e_fgB, Tw.e_fgRt, Tw.e_fgR, Tw.e_for0, Tw.e_for1, Tw.e_cgF, Tw.e_cgT, Tw.e_cgR, Tw.e_neo, Tw.e_cg0, Tw.e_cg1, Tw.e_c2A, Tw.e_c2I, Tw.e_c2T, Tw.e_c2R, Tw.e_c20, Tw.e_c21, Tw.at5_0, Tw.at5_1, Tw.at5_2, Tw.at5_3, Tw.at5_4, Tw.ix5_1, Tw.ix5_2, Tw.ix5_3, Tw.ix5_4, Tw.ints_map, Tw.add_tup, Tw.add_lst, Tw.oks_rows, Tw.frzs_rows, Tw.rows_len, Tw.oks_int, Tw.frzs_int, Tw.oks_tI, Tw.ok_tI, Tw.frz_tI, Tw.e_bok, Tw.e_sbok, List.map_cons, List.map_nil, List.length_cons, List.length_nil, List.cons_append, List.nil_append, List.replicate, List.getElem?_cons_zero, List.getElem?_cons_succ, List.set_cons_zero, List.set_cons_succ, Option.bind_some, Option.map_some, Nat.zero_add, Nat.add_zero, Nat.reduceAdd, Nat.reduceSub, Nat.reduceLT, Nat.reduceLeDiff, Bool.and_true, Bool.true_and, Bool.and_self, Bool.not_true, Bool.not_false, Bool.false_and, Bool.and_false, Bool.or_true, Bool.true_or, Bool.or_false, Bool.false_or, if_true, if_false, Bool.false_eq_true, reduceCtorEq, ite_true, ite_false, decide_true, decide_false, decide_eq_true_eq, ne_eq, Int.reduceEq, not_false_eq_true, not_true_eq_false, List.length_map, Option.map_none, Int.reduceNeg]
/-! ### all contents -/
def grow (acc : List (List Int)) (s : Int) : List (List Int) := acc.flatMap fun row => (List.range s.toNat).map fun w : Nat => row ++ [(w : Int)]
def allOf (sizes : List Int) : List (List Int) := sizes.foldl grow [[]]
theorem grow_len {s : Int} (acc : List (List Int)) : (grow acc s).length = acc.length * s.toNat := by
  unfold grow
  induction acc with
  | nil => simp
  | cons a acc ih => rw [List.flatMap_cons, List.length_append, ih]; simp [Nat.add_mul, Nat.add_comm]
theorem row_ok {acc : List (List Int)} {s : Int} {row : List Int} (h : row ∈ grow acc s) : ∃ r ∈ acc, ∃ w : Int, row = r ++ [w] ∧ 0 ≤ w ∧ w < s := by
  unfold grow at h
  obtain ⟨r, hr, h2⟩ := List.mem_flatMap.mp h
  obtain ⟨w, hw, rfl⟩ := List.mem_map.mp h2
  have := List.mem_range.mp hw
  exact ⟨r, hr, w, rfl, by omega, by omega⟩
end K01
namespace K01
open PySem PySem.Spec PyProof.Rows L2 Tw
theorem allOf_app (a : List Int) (s : Int) : allOf (a ++ [s]) = grow (allOf a) s := by unfold allOf; rw [List.foldl_append]; rfl
theorem foldl_len : ∀ (sizes : List Int) (acc : List (List Int)), (∀ s ∈ sizes, s ≤ 4) → (sizes.foldl grow acc).length ≤ acc.length * 4 ^ sizes.length
  | [], acc, _ => by simp
  | s :: r, acc, h => by
    have ih := foldl_len r (grow acc s) fun x hx => h x (List.mem_cons_of_mem _ hx)
    rw [grow_len] at ih
    have : s.toNat ≤ 4 := by have := h s List.mem_cons_self; omega
    rw [List.foldl_cons, List.length_cons, Nat.pow_succ]
    refine Nat.le_trans ih ?_
    rw [show acc.length * (4 ^ r.length * 4) = acc.length * 4 * 4 ^ r.length by rw [Nat.mul_comm (4 ^ r.length) 4, Nat.mul_assoc]]
    exact Nat.mul_le_mul_right _ (Nat.mul_le_mul_left _ this)
theorem allOf_len {sizes : List Int} (h : ∀ s ∈ sizes, s ≤ 4) (hl : sizes.length ≤ 6) : (allOf sizes).length ≤ 4096 := by
  have e := foldl_len sizes [[]] h
  have e2 : 4 ^ sizes.length ≤ 4 ^ 6 := Nat.pow_le_pow_right (by decide) hl
  have e3 : (4 : Nat) ^ 6 = 4096 := by decide
  rw [e3] at e2
  exact Nat.le_trans e (by rw [List.length_singleton, Nat.one_mul]; exact e2)
theorem take_more {sizes : List Int} {i : Nat} {s : Int} (e : sizes[i]? = some s) : allOf (sizes.take (i + 1)) = grow (allOf (sizes.take i)) s := by
  rw [List.take_add_one, e]
  exact allOf_app _ _
theorem row_len : ∀ (sizes : List Int) (row : List Int), row ∈ allOf sizes → row.length = sizes.length := by
  intro sizes
  have key : ∀ (r : List Int) (acc : List (List Int)) (n : Nat), (∀ x ∈ acc, x.length = n) → ∀ x ∈ r.foldl grow acc, x.length = n + r.length := by
    intro r
    induction r with
    | nil => intro acc n h x hx; exact h x hx
    | cons s r ih =>
      intro acc n h x hx
      have := ih (grow acc s) (n + 1) (fun y hy => by
        obtain ⟨q, hq, w, rfl, _⟩ := row_ok hy
        rw [List.length_append, h q hq]; rfl) x hx
      rw [List.length_cons]; omega
  intro row h
  have := key sizes [[]] 0 (fun x hx => by rw [List.mem_singleton.mp hx]; rfl) row h
  omega
theorem rows_grow (acc : List (List Int)) (s : Int) : (acc.flatMap fun row => rows ((List.range s.toNat).map fun w : Nat => row ++ [(w : Int)])) = rows (grow acc s) := by
  unfold grow rows
  rw [List.map_flatMap]
theorem tuples_ok {sizes : List Int} (h : ∀ s ∈ sizes, 0 ≤ s ∧ s ≤ 4) (hl : sizes.length ≤ 6) : h_tuples_of [.tup (sizes.map .int)] = .ret (.lst true (rows (allOf sizes))) [] := by
  have loop := for_ind (bd := bNm 2) (g := D.int) (body := sSeq (sAsg (bNm 1) (fComp2 [3, 4] [4] (iSeq (fVar 1)) (bNm 3) bTrue (iRng [fVar 2]) (bNm 4) bTrue (fN gAdd [.val (fVar 3), .val (fTup [fVar 4])]))) sNil)
    (fun i env => ∃ y, env = [some (.tup (sizes.map .int)), some (.lst true (rows (allOf (sizes.take i)))), y, none, none]) sizes 0 [some (.tup (sizes.map .int)), some (.lst true (rows (allOf []))), none, none, none] ⟨none, by rw [List.take_zero]⟩ ?_
  · obtain ⟨env', ⟨y, rfl⟩, e⟩ := loop
    rw [Nat.zero_add, List.take_length] at e
    have e0 : rows (allOf []) = [.tup []] := rfl
    rw [e0] at e
    simp only [h_tuples_of, b_tuples_of, e, Tw.e_run, Tw.e_rtR, Tw.e_rtX, Tw.e_rtN, Tw.e_io_nil, Tw.e_io_one, Tw.e_ioR1, Tw.e_seq, Tw.e_seqN, Tw.e_seqR, Tw.e_seqB, Tw.e_seqC, Tw.e_sNil, Tw.e_sBrk, Tw.e_sCont, Tw.e_sRet, Tw.e_sExpr, Tw.e_sIf, Tw.e_sAsg, Tw.e_nxR, Tw.e_bNm, Tw.e_sPar, Tw.e_sFor, Tw.e_sAug, Tw.e_augR, Tw.e_own, Tw.e_ownR, Tw.e_stR2, Tw.e_sStore, Tw.e_stR, Tw.e_stR3, Tw.e_m1R, Tw.e_m1S, Tw.e_m1T, Tw.e_mt1, Tw.e_m0S, Tw.e_mt0, Tw.e_var, Tw.e_varR, Tw.e_move, Tw.e_moveR, Tw.e_K, Tw.e_nil, Tw.e_val, Tw.e_slot, Tw.e_slotR, Tw.e_gnil, Tw.e_gval, Tw.e_gvR, Tw.e_gslot, Tw.e_gsR, Tw.e_gR, Tw.e_gpR, Tw.e_N, Tw.e_vals0, Tw.e_vals1, Tw.e_tup, Tw.e_lst, Tw.e_and, Tw.e_andT, Tw.e_andF, Tw.e_or, Tw.e_orT, Tw.e_orF, Tw.e_not, Tw.e_notR, Tw.e_bE, Tw.e_bR, Tw.e_bAnd, Tw.e_bOr, Tw.e_bNot, Tw.e_bTrue, Tw.e_if, Tw.e_chR2, Tw.e_chRT, Tw.e_chRF, Tw.e_chain, Tw.e_part0, Tw.e_part, Tw.e_partR, Tw.e_sl, Tw.e_rev, Tw.e_kval, Tw.e_kval2, Tw.e_kN, Tw.e_ktup, Tw.e_klst, Tw.e_kand, Tw.e_kor, Tw.e_knot, Tw.e_kbE, Tw.e_kbAnd, Tw.e_kbOr, Tw.e_kbNot, Tw.e_kif, Tw.e_kpart, Tw.e_krev, Tw.e_kcall, Tw.e_ksRet, Tw.e_ksExpr, Tw.e_ksIf, Tw.e_ksAsg, Tw.e_ksFor, Tw.e_ksStore, Tw.e_kstR, Tw.e_km1T, Tw.e_kiSeq, Tw.e_kiRng, Tw.e_kiZip, Tw.e_kmake, Tw.e_kfset, Tw.e_kchRT, Tw.e_kchain2, Tw.e_kchain, Tw.e_ksl, Tw.e_ksl2, Tw.e_ksl3, Tw.e_ksPar, Tw.e_ksPar2, Tw.e_ksAug, Tw.e_ksAug2, Tw.e_kcp3, Tw.e_kcomp, Tw.e_kcomp2, Tw.e_coR, Tw.e_kco2, Tw.e_kco, Tw.e_co, Tw.e_callR, Tw.e_call, Tw.e_io0, Tw.e_io1, Tw.e_io1R, Tw.e_itR, Tw.e_iSeq, Tw.e_rgR, Tw.e_iRng, Tw.e_zpR, Tw.e_iZip, Tw.e_comp, Tw.e_comp2, Tw.e_wipe0, Tw.e_wipe1, Tw.e_bTp, Tw.e_bNil, Tw.e_bCons, Tw.e_mkR, Tw.e_make, Tw.e_fset, Tw.e_fsR, Tw.e_oo, Tw.e_ooR, Tw.e_coR2, Tw.tru_non, Tw.tru_bl, Tw.tru_int, Tw.tru_tup, Tw.tru_lst, Tw.asI_int, Tw.ints_nil, Tw.ints_cons, Tw.items_lst, Tw.items_tup, Tw.seqK_lst, Tw.seqK_tup, Tw.isN_int, Tw.isN_non, Tw.isN_tup, Tw.notN_int, Tw.notN_non, Tw.notN_tup, Tw.mul_int, Tw.add_int, Tw.sub_int, Tw.fdiv_int, Tw.mod_int, Tw.pow_int, Tw.lt_int, Tw.le_int, Tw.gt_int, Tw.ge_int, Tw.neg_int, Tw.imul_int, Tw.iadd_int, Tw.len_lst, Tw.len_tup, Tw.ix_lst, Tw.ix_tup, Tw.tuple_lst, Tw.tuple_tup, Tw.list_lst, Tw.list_tup, Tw.abs_int, Tw.intC_int, Tw.intC_bl, Tw.all_lst, Tw.any_lst, Tw.isi_2, Tw.tag_non, Tw.tag_bl, Tw.tag_int, Tw.tag_str, Tw.tag_tup, Tw.tag_lst, Tw.tag_obj, Tw.asT_ty, Tw.asT_cl, Tw.frz_int, Tw.frz_bl, Tw.frz_non, Tw.frz_ty, Tw.frz_cl, Tw.frz_scr, Tw.frz_tup, Tw.frz_lst, Tw.frz_obj, Tw.frzs_nil, Tw.frzs_cons, Tw.ok_int, Tw.ok_bl, Tw.ok_non, Tw.ok_tup, Tw.ok_lst, Tw.ok_obj, Tw.doks_nil, Tw.doks_cons, Tw.sl_scr, Tw.sl_lst, Tw.sl_tup, Tw.rev_lst, Tw.rev_tup, Tw.eq_int, Tw.ne_int, Tw.e_kcpB, Tw.e_cpB, Tw.e_compB, Tw.e_fgN, Tw.e_fgC, Tw.e_fgB, Tw.e_fgRt, Tw.e_fgR, Tw.e_for0, Tw.e_for1, Tw.e_cgF, Tw.e_cgT, Tw.e_cgR, Tw.e_neo, Tw.e_cg0, Tw.e_cg1, Tw.e_c2A, Tw.e_c2I, Tw.e_c2T, Tw.e_c2R, Tw.e_c20, Tw.e_c21, Tw.at5_0, Tw.at5_1, Tw.at5_2, Tw.at5_3, Tw.at5_4, Tw.ix5_1, Tw.ix5_2, Tw.ix5_3, Tw.ix5_4, Tw.ints_map, Tw.add_tup, Tw.add_lst, Tw.oks_rows, Tw.frzs_rows, Tw.rows_len, Tw.oks_int, Tw.frzs_int, Tw.oks_tI, Tw.ok_tI, Tw.frz_tI, Tw.e_bok, Tw.e_sbok, List.map_cons, List.map_nil, List.length_cons, List.length_nil, List.cons_append, List.nil_append, List.replicate, List.getElem?_cons_zero, List.getElem?_cons_succ, List.set_cons_zero, List.set_cons_succ, Option.bind_some, Option.map_some, Nat.zero_add, Nat.add_zero, Nat.reduceAdd, Nat.reduceSub, Nat.reduceLT, Nat.reduceLeDiff, Bool.and_true, Bool.true_and, Bool.and_self, Bool.not_true, Bool.not_false, Bool.false_and, Bool.and_false, Bool.or_true, Bool.true_or, Bool.or_false, Bool.false_or, if_true, if_false, Bool.false_eq_true, reduceCtorEq, ite_true, ite_false, decide_true, decide_false, decide_eq_true_eq, ne_eq, Int.reduceEq, not_false_eq_true, not_true_eq_false, List.length_map, Option.map_none, Int.reduceNeg]
  · rintro i s env hi ⟨y, rfl⟩
    rw [Nat.zero_add]
    have hs := h s (List.mem_of_getElem? hi)
    have il : i < sizes.length := (List.getElem?_eq_some_iff.mp hi).1
    refine ⟨_, ⟨some (.int s), rfl⟩, fun ds => ?_⟩
    have hr : rngOf [s] = some (0, s.toNat) := rngOf_1 (by omega)
    have lenA : (grow (allOf (sizes.take i)) s).length ≤ 4096 := by
      rw [← take_more hi]
      exact allOf_len (fun x hx => (h x (List.mem_of_mem_take hx)).2) (by rw [List.length_take]; omega)
    have c2 := comp2_map (vs := [3, 4]) (vs1 := [4]) (b := bNm 3) (t := bTrue) (fi1 := iRng [fVar 2]) (b1 := bNm 4) (t1 := bTrue) (f := fN gAdd [.val (fVar 3), .val (fTup [fVar 4])]) (g := fun ns : List Int => D.tup (ns.map .int))
      (env := [some (.tup (sizes.map .int)), some (.lst false (rows (allOf (sizes.take i)))), some (.int s), none, none]) 4096 (fun row => rows ((List.range s.toNat).map fun w : Nat => row ++ [(w : Int)])) (allOf (sizes.take i)) [] (by
        rw [rows_grow, rows_len]; simpa using lenA) ?_
    · rw [rows_grow, List.nil_append] at c2
      have c3 : comp2Go [3, 4] [4] (bNm 3) bTrue (iRng [fVar 2]) (bNm 4) bTrue (fN gAdd [.val (fVar 3), .val (fTup [fVar 4])]) (rows (allOf (sizes.take i))) [] [some (.tup (sizes.map .int)), some (.lst false (rows (allOf (sizes.take i)))), some (.int s), none, none] = _ := c2
      rw [take_more hi]
      simp only [c3, Tw.e_run, Tw.e_rtR, Tw.e_rtX, Tw.e_rtN, Tw.e_io_nil, Tw.e_io_one, Tw.e_ioR1, Tw.e_seq, Tw.e_seqN, Tw.e_seqR, Tw.e_seqB, Tw.e_seqC, Tw.e_sNil, Tw.e_sBrk, Tw.e_sCont, Tw.e_sRet, Tw.e_sExpr, Tw.e_sIf, Tw.e_sAsg, Tw.e_nxR, Tw.e_bNm, Tw.e_sPar, Tw.e_sFor, Tw.e_sAug, Tw.e_augR, Tw.e_own, Tw.e_ownR, Tw.e_stR2, Tw.e_sStore, Tw.e_stR, Tw.e_stR3, Tw.e_m1R, Tw.e_m1S, Tw.e_m1T, Tw.e_mt1, Tw.e_m0S, Tw.e_mt0, Tw.e_var, Tw.e_varR, Tw.e_move, Tw.e_moveR, Tw.e_K, Tw.e_nil, Tw.e_val, Tw.e_slot, Tw.e_slotR, Tw.e_gnil, Tw.e_gval, Tw.e_gvR, Tw.e_gslot, Tw.e_gsR, Tw.e_gR, Tw.e_gpR, Tw.e_N, Tw.e_vals0, Tw.e_vals1, Tw.e_tup, Tw.e_lst, Tw.e_and, Tw.e_andT, Tw.e_andF, Tw.e_or, Tw.e_orT, Tw.e_orF, Tw.e_not, Tw.e_notR, Tw.e_bE, Tw.e_bR, Tw.e_bAnd, Tw.e_bOr, Tw.e_bNot, Tw.e_bTrue, Tw.e_if, Tw.e_chR2, Tw.e_chRT, Tw.e_chRF, Tw.e_chain, Tw.e_part0, Tw.e_part, Tw.e_partR, Tw.e_sl, Tw.e_rev, Tw.e_kval, Tw.e_kval2, Tw.e_kN, Tw.e_ktup, Tw.e_klst, Tw.e_kand, Tw.e_kor, Tw.e_knot, Tw.e_kbE, Tw.e_kbAnd, Tw.e_kbOr, Tw.e_kbNot, Tw.e_kif, Tw.e_kpart, Tw.e_krev, Tw.e_kcall, Tw.e_ksRet, Tw.e_ksExpr, Tw.e_ksIf, Tw.e_ksAsg, Tw.e_ksFor, Tw.e_ksStore, Tw.e_kstR, Tw.e_km1T, Tw.e_kiSeq, Tw.e_kiRng, Tw.e_kiZip, Tw.e_kmake, Tw.e_kfset, Tw.e_kchRT, Tw.e_kchain2, Tw.e_kchain, Tw.e_ksl, Tw.e_ksl2, Tw.e_ksl3, Tw.e_ksPar, Tw.e_ksPar2, Tw.e_ksAug, Tw.e_ksAug2, Tw.e_kcp3, Tw.e_kcomp, Tw.e_kcomp2, Tw.e_coR, Tw.e_kco2, Tw.e_kco, Tw.e_co, Tw.e_callR, Tw.e_call, Tw.e_io0, Tw.e_io1, Tw.e_io1R, Tw.e_itR, Tw.e_iSeq, Tw.e_rgR, Tw.e_iRng, Tw.e_zpR, Tw.e_iZip, Tw.e_comp, Tw.e_comp2, Tw.e_wipe0, Tw.e_wipe1, Tw.e_bTp, Tw.e_bNil, Tw.e_bCons, Tw.e_mkR, Tw.e_make, Tw.e_fset, Tw.e_fsR, Tw.e_oo, Tw.e_ooR, Tw.e_coR2, Tw.tru_non, Tw.tru_bl, Tw.tru_int, Tw.tru_tup, Tw.tru_lst, Tw.asI_int, Tw.ints_nil, Tw.ints_cons, Tw.items_lst, Tw.items_tup, Tw.seqK_lst, Tw.seqK_tup, Tw.isN_int, Tw.isN_non, Tw.isN_tup, Tw.notN_int, Tw.notN_non, Tw.notN_tup, Tw.mul_int, Tw.add_int, Tw.sub_int, Tw.fdiv_int, Tw.mod_int, Tw.pow_int, Tw.lt_int, Tw.le_int, Tw.gt_int, Tw.ge_int, Tw.neg_int, Tw.imul_int, Tw.iadd_int, Tw.len_lst, Tw.len_tup, Tw.ix_lst, Tw.ix_tup, Tw.tuple_lst, Tw.tuple_tup, Tw.list_lst, Tw.list_tup, Tw.abs_int, Tw.intC_int, Tw.intC_bl, Tw.all_lst, Tw.any_lst, Tw.isi_2, Tw.tag_non, Tw.tag_bl, Tw.tag_int, Tw.tag_str, Tw.tag_tup, Tw.tag_lst, Tw.tag_obj, Tw.asT_ty, Tw.asT_cl, Tw.frz_int, Tw.frz_bl, Tw.frz_non, Tw.frz_ty, Tw.frz_cl, Tw.frz_scr, Tw.frz_tup, Tw.frz_lst, Tw.frz_obj, Tw.frzs_nil, Tw.frzs_cons, Tw.ok_int, Tw.ok_bl, Tw.ok_non, Tw.ok_tup, Tw.ok_lst, Tw.ok_obj, Tw.doks_nil, Tw.doks_cons, Tw.sl_scr, Tw.sl_lst, Tw.sl_tup, Tw.rev_lst, Tw.rev_tup, Tw.eq_int, Tw.ne_int, Tw.e_kcpB, Tw.e_cpB, Tw.e_compB, Tw.e_fgN, Tw.e_fgC, Tw.e_fgB, Tw.e_fgRt, Tw.e_fgR, Tw.e_for0, Tw.e_for1, Tw.e_cgF, Tw.e_cgT, Tw.e_cgR, Tw.e_neo, Tw.e_cg0, Tw.e_cg1, Tw.e_c2A, Tw.e_c2I, Tw.e_c2T, Tw.e_c2R, Tw.e_c20, Tw.e_c21, Tw.at5_0, Tw.at5_1, Tw.at5_2, Tw.at5_3, Tw.at5_4, Tw.ix5_1, Tw.ix5_2, Tw.ix5_3, Tw.ix5_4, Tw.ints_map, Tw.add_tup, Tw.add_lst, Tw.oks_rows, Tw.frzs_rows, Tw.rows_len, Tw.oks_int, Tw.frzs_int, Tw.oks_tI, Tw.ok_tI, Tw.frz_tI, Tw.e_bok, Tw.e_sbok, List.map_cons, List.map_nil, List.length_cons, List.length_nil, List.cons_append, List.nil_append, List.replicate, List.getElem?_cons_zero, List.getElem?_cons_succ, List.set_cons_zero, List.set_cons_succ, Option.bind_some, Option.map_some, Nat.zero_add, Nat.add_zero, Nat.reduceAdd, Nat.reduceSub, Nat.reduceLT, Nat.reduceLeDiff, Bool.and_true, Bool.true_and, Bool.and_self, Bool.not_true, Bool.not_false, Bool.false_and, Bool.and_false, Bool.or_true, Bool.true_or, Bool.or_false, Bool.false_or, if_true, if_false, Bool.false_eq_true, reduceCtorEq, ite_true, ite_false, decide_true, decide_false, decide_eq_true_eq, ne_eq, Int.reduceEq, not_false_eq_true, not_true_eq_false, List.length_map, Option.map_none, Int.reduceNeg]
    · intro row hrow ds acc hacc
      rw [rows_len, List.length_map, List.length_range] at hacc
      have rl := row_len _ _ hrow
      rw [List.length_take] at rl
      have l1 : lenOk (acc.length + s.toNat) = true := lenOk_of (by omega)
      have l2 : lenOk (row.length + 1) = true := lenOk_of (by omega)
      have key := comp_map (vs := [4]) (b := bNm 4) (t := bTrue) (f := fN gAdd [.val (fVar 3), .val (fTup [fVar 4])]) (g := fun w : Nat => D.int (w : Int)) (env := [some (.tup (sizes.map .int)), some (.lst false (rows (allOf (sizes.take i)))), some (.int s), some (.tup (row.map .int)), none])
        (fun w : Nat => rows [row ++ [(w : Int)]]) (List.range s.toNat) acc fun w hw ds acc => by
          have er : rows [row ++ [(w : Int)]] = [.tup (row.map .int ++ [.int (w : Int)])] := by simp [rows]
          rw [er]
          simp only [l2, Tw.e_run, Tw.e_rtR, Tw.e_rtX, Tw.e_rtN, Tw.e_io_nil, Tw.e_io_one, Tw.e_ioR1, Tw.e_seq, Tw.e_seqN, Tw.e_seqR, Tw.e_seqB, Tw.e_seqC, Tw.e_sNil, Tw.e_sBrk, Tw.e_sCont, Tw.e_sRet, Tw.e_sExpr, Tw.e_sIf, Tw.e_sAsg, Tw.e_nxR, Tw.e_bNm, Tw.e_sPar, Tw.e_sFor, Tw.e_sAug, Tw.e_augR, Tw.e_own, Tw.e_ownR, Tw.e_stR2, Tw.e_sStore, Tw.e_stR, Tw.e_stR3, Tw.e_m1R, Tw.e_m1S, Tw.e_m1T, Tw.e_mt1, Tw.e_m0S, Tw.e_mt0, Tw.e_var, Tw.e_varR, Tw.e_move, Tw.e_moveR, Tw.e_K, Tw.e_nil, Tw.e_val, Tw.e_slot, Tw.e_slotR, Tw.e_gnil, Tw.e_gval, Tw.e_gvR, Tw.e_gslot, Tw.e_gsR, Tw.e_gR, Tw.e_gpR, Tw.e_N, Tw.e_vals0, Tw.e_vals1, Tw.e_tup, Tw.e_lst, Tw.e_and, Tw.e_andT, Tw.e_andF, Tw.e_or, Tw.e_orT, Tw.e_orF, Tw.e_not, Tw.e_notR, Tw.e_bE, Tw.e_bR, Tw.e_bAnd, Tw.e_bOr, Tw.e_bNot, Tw.e_bTrue, Tw.e_if, Tw.e_chR2, Tw.e_chRT, Tw.e_chRF, Tw.e_chain, Tw.e_part0, Tw.e_part, Tw.e_partR, Tw.e_sl, Tw.e_rev, Tw.e_kval, Tw.e_kval2, Tw.e_kN, Tw.e_ktup, Tw.e_klst, Tw.e_kand, Tw.e_kor, Tw.e_knot, Tw.e_kbE, Tw.e_kbAnd, Tw.e_kbOr, Tw.e_kbNot, Tw.e_kif, Tw.e_kpart, Tw.e_krev, Tw.e_kcall, Tw.e_ksRet, Tw.e_ksExpr, Tw.e_ksIf, Tw.e_ksAsg, Tw.e_ksFor, Tw.e_ksStore, Tw.e_kstR, Tw.e_km1T, Tw.e_kiSeq, Tw.e_kiRng, Tw.e_kiZip, Tw.e_kmake, Tw.e_kfset, Tw.e_kchRT, Tw.e_kchain2, Tw.e_kchain, Tw.e_ksl, Tw.e_ksl2, Tw.e_ksl3, Tw.e_ksPar, Tw.e_ksPar2, Tw.e_ksAug, Tw.e_ksAug2, Tw.e_kcp3, Tw.e_kcomp, Tw.e_kcomp2, Tw.e_coR, Tw.e_kco2, Tw.e_kco, Tw.e_co, Tw.e_callR, Tw.e_call, Tw.e_io0, Tw.e_io1, Tw.e_io1R, Tw.e_itR, Tw.e_iSeq, Tw.e_rgR, Tw.e_iRng, Tw.e_zpR, Tw.e_iZip, Tw.e_comp, Tw.e_comp2, Tw.e_wipe0, Tw.e_wipe1, Tw.e_bTp, Tw.e_bNil, Tw.e_bCons, Tw.e_mkR, Tw.e_make, Tw.e_fset, Tw.e_fsR, Tw.e_oo, Tw.e_ooR, Tw.e_coR2, Tw.tru_non, Tw.tru_bl, Tw.tru_int, Tw.tru_tup, Tw.tru_lst, Tw.asI_int, Tw.ints_nil, Tw.ints_cons, Tw.items_lst, Tw.items_tup, Tw.seqK_lst, Tw.seqK_tup, Tw.isN_int, Tw.isN_non, Tw.isN_tup, Tw.notN_int, Tw.notN_non, Tw.notN_tup, Tw.mul_int, Tw.add_int, Tw.sub_int, Tw.fdiv_int, Tw.mod_int, Tw.pow_int, Tw.lt_int, Tw.le_int, Tw.gt_int, Tw.ge_int, Tw.neg_int, Tw.imul_int, Tw.iadd_int, Tw.len_lst, Tw.len_tup, Tw.ix_lst, Tw.ix_tup, Tw.tuple_lst, Tw.tuple_tup, Tw.list_lst, Tw.list_tup, Tw.abs_int, Tw.intC_int, Tw.intC_bl, Tw.all_lst, Tw.any_lst, Tw.isi_2, Tw.tag_non, Tw.tag_bl, Tw.tag_int, Tw.tag_str, Tw.tag_tup, Tw.tag_lst, Tw.tag_obj, Tw.asT_ty, Tw.asT_cl, Tw.frz_int, Tw.frz_bl, Tw.frz_non, Tw.frz_ty, Tw.frz_cl, Tw.frz_scr, Tw.frz_tup, Tw.frz_lst, Tw.frz_obj, Tw.frzs_nil, Tw.frzs_cons, Tw.ok_int, Tw.ok_bl, Tw.ok_non, Tw.ok_tup, Tw.ok_lst, Tw.ok_obj, Tw.doks_nil, Tw.doks_cons, Tw.sl_scr, Tw.sl_lst, Tw.sl_tup, Tw.rev_lst, Tw.rev_tup, Tw.eq_int, Tw.ne_int, Tw.e_kcpB, Tw.e_cpB, Tw.e_compB, Tw.e_fgN, Tw.e_fgC, Tw.e_fgB, Tw.e_fgRt, Tw.e_fgR, Tw.e_for0, Tw.e_for1, Tw.e_cgF, Tw.e_cgT, Tw.e_cgR, Tw.e_neo, Tw.e_cg0, Tw.e_cg1, Tw.e_c2A, Tw.e_c2I, Tw.e_c2T, Tw.e_c2R, Tw.e_c20, Tw.e_c21, Tw.at5_0, Tw.at5_1, Tw.at5_2, Tw.at5_3, Tw.at5_4, Tw.ix5_1, Tw.ix5_2, Tw.ix5_3, Tw.ix5_4, Tw.ints_map, Tw.add_tup, Tw.add_lst, Tw.oks_rows, Tw.frzs_rows, Tw.rows_len, Tw.oks_int, Tw.frzs_int, Tw.oks_tI, Tw.ok_tI, Tw.frz_tI, Tw.e_bok, Tw.e_sbok, List.map_cons, List.map_nil, List.length_cons, List.length_nil, List.cons_append, List.nil_append, List.replicate, List.getElem?_cons_zero, List.getElem?_cons_succ, List.set_cons_zero, List.set_cons_succ, Option.bind_some, Option.map_some, Nat.zero_add, Nat.add_zero, Nat.reduceAdd, Nat.reduceSub, Nat.reduceLT, Nat.reduceLeDiff, Bool.and_true, Bool.true_and, Bool.and_self, Bool.not_true, Bool.not_false, Bool.false_and, Bool.and_false, Bool.or_true, Bool.true_or, Bool.or_false, Bool.false_or, if_true, if_false, Bool.false_eq_true, reduceCtorEq, ite_true, ite_false, decide_true, decide_false, decide_eq_true_eq, ne_eq, Int.reduceEq, not_false_eq_true, not_true_eq_false, List.length_map, Option.map_none, Int.reduceNeg]
      have ef : ((List.range s.toNat).flatMap fun w : Nat => rows [row ++ [(w : Int)]]) = rows ((List.range s.toNat).map fun w : Nat => row ++ [(w : Int)]) := by
        unfold rows; rw [List.map_map]; induction (List.range s.toNat) with
        | nil => rfl
        | cons a l ih => rw [List.flatMap_cons, ih]; rfl
      rw [ef] at key
      simp only [hr, rngD_0, l1, key, List.length_range, Tw.e_run, Tw.e_rtR, Tw.e_rtX, Tw.e_rtN, Tw.e_io_nil, Tw.e_io_one, Tw.e_ioR1, Tw.e_seq, Tw.e_seqN, Tw.e_seqR, Tw.e_seqB, Tw.e_seqC, Tw.e_sNil, Tw.e_sBrk, Tw.e_sCont, Tw.e_sRet, Tw.e_sExpr, Tw.e_sIf, Tw.e_sAsg, Tw.e_nxR, Tw.e_bNm, Tw.e_sPar, Tw.e_sFor, Tw.e_sAug, Tw.e_augR, Tw.e_own, Tw.e_ownR, Tw.e_stR2, Tw.e_sStore, Tw.e_stR, Tw.e_stR3, Tw.e_m1R, Tw.e_m1S, Tw.e_m1T, Tw.e_mt1, Tw.e_m0S, Tw.e_mt0, Tw.e_var, Tw.e_varR, Tw.e_move, Tw.e_moveR, Tw.e_K, Tw.e_nil, Tw.e_val, Tw.e_slot, Tw.e_slotR, Tw.e_gnil, Tw.e_gval, Tw.e_gvR, Tw.e_gslot, Tw.e_gsR, Tw.e_gR, Tw.e_gpR, Tw.e_N, Tw.e_vals0, Tw.e_vals1, Tw.e_tup, Tw.e_lst, Tw.e_and, Tw.e_andT, Tw.e_andF, Tw.e_or, Tw.e_orT, Tw.e_orF, Tw.e_not, Tw.e_notR, Tw.e_bE, Tw.e_bR, Tw.e_bAnd, Tw.e_bOr, Tw.e_bNot, Tw.e_bTrue, Tw.e_if, Tw.e_chR2, Tw.e_chRT, Tw.e_chRF, Tw.e_chain, Tw.e_part0, Tw.e_part, Tw.e_partR, Tw.e_sl, Tw.e_rev, Tw.e_kval, Tw.e_kval2, Tw.e_kN, Tw.e_ktup, Tw.e_klst, Tw.e_kand, Tw.e_kor, Tw.e_knot, Tw.e_kbE, Tw.e_kbAnd, Tw.e_kbOr, Tw.e_kbNot, Tw.e_kif, Tw.e_kpart, Tw.e_krev, Tw.e_kcall, Tw.e_ksRet, Tw.e_ksExpr, Tw.e_ksIf, Tw.e_ksAsg, Tw.e_ksFor, Tw.e_ksStore, Tw.e_kstR, Tw.e_km1T, Tw.e_kiSeq, Tw.e_kiRng, Tw.e_kiZip, Tw.e_kmake, Tw.e_kfset, Tw.e_kchRT, Tw.e_kchain2, Tw.e_kchain, Tw.e_ksl, Tw.e_ksl2, Tw.e_ksl3, Tw.e_ksPar, Tw.e_ksPar2, Tw.e_ksAug, Tw.e_ksAug2, Tw.e_kcp3, Tw.e_kcomp, Tw.e_kcomp2, Tw.e_coR, Tw.e_kco2, Tw.e_kco, Tw.e_co, Tw.e_callR, Tw.e_call, Tw.e_io0, Tw.e_io1, Tw.e_io1R, Tw.e_itR, Tw.e_iSeq, Tw.e_rgR, Tw.e_iRng, Tw.e_zpR, Tw.e_iZip, Tw.e_comp, Tw.e_comp2, Tw.e_wipe0, Tw.e_wipe1, Tw.e_bTp, Tw.e_bNil, Tw.e_bCons, Tw.e_mkR, Tw.e_make, Tw.e_fset, Tw.e_fsR, Tw.e_oo, Tw.e_ooR, Tw.e_coR2, Tw.tru_non, Tw.tru_bl, Tw.tru_int, Tw.tru_tup, Tw.tru_lst, Tw.asI_int, Tw.ints_nil, Tw.ints_cons, Tw.items_lst, Tw.items_tup, Tw.seqK_lst, Tw.seqK_tup, Tw.isN_int, Tw.isN_non, Tw.isN_tup, Tw.notN_int, Tw.notN_non, Tw.notN_tup, Tw.mul_int, Tw.add_int, Tw.sub_int, Tw.fdiv_int, Tw.mod_int, Tw.pow_int, Tw.lt_int, Tw.le_int, Tw.gt_int, Tw.ge_int, Tw.neg_int, Tw.imul_int, Tw.iadd_int, Tw.len_lst, Tw.len_tup, Tw.ix_lst, Tw.ix_tup, Tw.tuple_lst, Tw.tuple_tup, Tw.list_lst, Tw.list_tup, Tw.abs_int, Tw.intC_int, Tw.intC_bl, Tw.all_lst, Tw.any_lst, Tw.isi_2, Tw.tag_non, Tw.tag_bl, Tw.tag_int, Tw.tag_str, Tw.tag_tup, Tw.tag_lst, Tw.tag_obj, Tw.asT_ty, Tw.asT_cl, Tw.frz_int, Tw.frz_bl, Tw.frz_non, Tw.frz_ty, Tw.frz_cl, Tw.frz_scr, Tw.frz_tup, Tw.frz_lst, Tw.frz_obj, Tw.frzs_nil, Tw.frzs_cons, Tw.ok_int, Tw.ok_bl, Tw.ok_non, Tw.ok_tup, Tw.ok_lst, Tw.ok_obj, Tw.doks_nil, Tw.doks_cons, Tw.sl_scr, Tw.sl_lst, Tw.sl_tup, Tw.rev_lst, Tw.rev_tup, Tw.eq_int, Tw.ne_int, Tw.e_kcpB, Tw.e_cpB, Tw.e_compB, Tw.e_fgN, Tw.e_fgC, Tw.e_fgB, Tw.e_fgRt, Tw.e_fgR, Tw.e_for0, Tw.e_for1, Tw.e_cgF, Tw.e_cgT, Tw.e_cgR, Tw.e_neo, Tw.e_cg0, Tw.e_cg1, Tw.e_c2A, Tw.e_c2I, Tw.e_c2T, Tw.e_c2R, Tw.e_c20, Tw.e_c21, Tw.at5_0, Tw.at5_1, Tw.at5_2, Tw.at5_3, Tw.at5_4, Tw.ix5_1, Tw.ix5_2, Tw.ix5_3, Tw.ix5_4, Tw.ints_map, Tw.add_tup, Tw.add_lst, Tw.oks_rows, Tw.frzs_rows, Tw.rows_len, Tw.oks_int, Tw.frzs_int, Tw.oks_tI, Tw.ok_tI, Tw.frz_tI, Tw.e_bok, Tw.e_sbok, List.map_cons, List.map_nil, List.length_cons, List.length_nil, List.cons_append, List.nil_append, List.replicate, List.getElem?_cons_zero, List.getElem?_cons_succ, List.set_cons_zero, List.set_cons_succ, Option.bind_some, Option.map_some, Nat.zero_add, Nat.add_zero, Nat.reduceAdd, Nat.reduceSub, Nat.reduceLT, Nat.reduceLeDiff, Bool.and_true, Bool.true_and, Bool.and_self, Bool.not_true, Bool.not_false, Bool.false_and, Bool.and_false, Bool.or_true, Bool.true_or, Bool.or_false, Bool.false_or, if_true, if_false, Bool.false_eq_true, reduceCtorEq, ite_true, ite_false, decide_true, decide_false, decide_eq_true_eq, ne_eq, Int.reduceEq, not_false_eq_true, not_true_eq_false, List.length_map, Option.map_none, Int.reduceNeg]
end K01
namespace K01
open PySem PySem.Spec PyProof.Rows L2 Tw
theorem Sz.b {ns : List Int} (h : Sz ns) : ∀ s ∈ ns, 0 ≤ s ∧ s ≤ 4 := fun s hs => by have := h.2.2 s hs; omega
theorem contents_ok {ns : List Int} (h : Sz ns) : h_contents [.tup (ns.map .int)] = .ret (.lst true (rows (allOf ns))) [] := by
  have e1 := check_sizes_ok h
  have e2 := tuples_ok h.b h.2.1
  simp only [h_contents, b_contents, e1, e2, Tw.e_run, Tw.e_rtR, Tw.e_rtX, Tw.e_rtN, Tw.e_io_nil, Tw.e_io_one, Tw.e_ioR1, Tw.e_seq, Tw.e_seqN, Tw.e_seqR, Tw.e_seqB, Tw.e_seqC, Tw.e_sNil, Tw.e_sBrk, Tw.e_sCont, Tw.e_sRet, Tw.e_sExpr, Tw.e_sIf, Tw.e_sAsg, Tw.e_nxR, Tw.e_bNm, Tw.e_sPar, Tw.e_sFor, Tw.e_sAug, Tw.e_augR, Tw.e_own, Tw.e_ownR, Tw.e_stR2, Tw.e_sStore, Tw.e_stR, Tw.e_stR3, Tw.e_m1R, Tw.e_m1S, Tw.e_m1T, Tw.e_mt1, Tw.e_m0S, Tw.e_mt0, Tw.e_var, Tw.e_varR, Tw.e_move, Tw.e_moveR, Tw.e_K, Tw.e_nil, Tw.e_val, Tw.e_slot, Tw.e_slotR, Tw.e_gnil, Tw.e_gval, Tw.e_gvR, Tw.e_gslot, Tw.e_gsR, Tw.e_gR, Tw.e_gpR, Tw.e_N, Tw.e_vals0, Tw.e_vals1, Tw.e_tup, Tw.e_lst, Tw.e_and, Tw.e_andT, Tw.e_andF, Tw.e_or, Tw.e_orT, Tw.e_orF, Tw.e_not, Tw.e_notR, Tw.e_bE, Tw.e_bR, Tw.e_bAnd, Tw.e_bOr, Tw.e_bNot, Tw.e_bTrue, Tw.e_if, Tw.e_chR2, Tw.e_chRT, Tw.e_chRF, Tw.e_chain, Tw.e_part0, Tw.e_part, Tw.e_partR, Tw.e_sl, Tw.e_rev, Tw.e_kval, Tw.e_kval2, Tw.e_kN, Tw.e_ktup, Tw.e_klst, Tw.e_kand, Tw.e_kor, Tw.e_knot, Tw.e_kbE, Tw.e_kbAnd, Tw.e_kbOr, Tw.e_kbNot, Tw.e_kif, Tw.e_kpart, Tw.e_krev, Tw.e_kcall, Tw.e_ksRet, Tw.e_ksExpr, Tw.e_ksIf, Tw.e_ksAsg, Tw.e_ksFor, Tw.e_ksStore, Tw.e_kstR, Tw.e_km1T, Tw.e_kiSeq, Tw.e_kiRng, Tw.e_kiZip, Tw.e_kmake, Tw.e_kfset, Tw.e_kchRT, Tw.e_kchain2, Tw.e_kchain, Tw.e_ksl, Tw.e_ksl2, Tw.e_ksl3, Tw.e_ksPar, Tw.e_ksPar2, Tw.e_ksAug, Tw.e_ksAug2, Tw.e_kcp3, Tw.e_kcomp, Tw.e_kcomp2, Tw.e_coR, Tw.e_kco2, Tw.e_kco, Tw.e_co, Tw.e_callR, Tw.e_call, Tw.e_io0, Tw.e_io1, Tw.e_io1R, Tw.e_itR, Tw.e_iSeq, Tw.e_rgR, Tw.e_iRng, Tw.e_zpR, Tw.e_iZip, Tw.e_comp, Tw.e_comp2, Tw.e_wipe0, Tw.e_wipe1, Tw.e_bTp, Tw.e_bNil, Tw.e_bCons, Tw.e_mkR, Tw.e_make, Tw.e_fset, Tw.e_fsR, Tw.e_oo, Tw.e_ooR, Tw.e_coR2, Tw.tru_non, Tw.tru_bl, Tw.tru_int, Tw.tru_tup, Tw.tru_lst, Tw.asI_int, Tw.ints_nil, Tw.ints_cons, Tw.items_lst, Tw.items_tup, Tw.seqK_lst, Tw.seqK_tup, Tw.isN_int, Tw.isN_non, Tw.isN_tup, Tw.notN_int, Tw.notN_non, Tw.notN_tup, Tw.mul_int, Tw.add_int, Tw.sub_int, Tw.fdiv_int, Tw.mod_int, Tw.pow_int, Tw.lt_int, Tw.le_int, Tw.gt_int, Tw.ge_int, Tw.neg_int, Tw.imul_int, Tw.iadd_int, Tw.len_lst, Tw.len_tup, Tw.ix_lst, Tw.ix_tup, Tw.tuple_lst, Tw.tuple_tup, Tw.list_lst, Tw.list_tup, Tw.abs_int, Tw.intC_int, Tw.intC_bl, Tw.all_lst, Tw.any_lst, Tw.isi_2, Tw.tag_non, Tw.tag_bl, Tw.tag_int, Tw.tag_str, Tw.tag_tup, Tw.tag_lst, Tw.tag_obj, Tw.asT_ty, Tw.asT_cl, Tw.frz_int, Tw.frz_bl, Tw.frz_non, Tw.frz_ty, Tw.frz_cl, Tw.frz_scr, Tw.frz_tup, Tw.frz_lst, Tw.frz_obj, Tw.frzs_nil, Tw.frzs_cons, Tw.ok_int, Tw.ok_bl, Tw.ok_non, Tw.ok_tup, Tw.ok_lst, Tw.ok_obj, Tw.doks_nil, Tw.doks_cons, Tw.sl_scr, Tw.sl_lst, Tw.sl_tup, Tw.rev_lst, Tw.rev_tup, Tw.eq_int, Tw.ne_int, Tw.e_kcpB, Tw.e_cpB, Tw.e_compB, Tw.e_fgN, Tw.e_fgC, Tw.e_fgB, Tw.e_fgRt, Tw.e_fgR, Tw.e_for0, Tw.e_for1, Tw.e_cgF, Tw.e_cgT, Tw.e_cgR, Tw.e_neo, Tw.e_cg0, Tw.e_cg1, Tw.e_c2A, Tw.e_c2I, Tw.e_c2T, Tw.e_c2R, Tw.e_c20, Tw.e_c21, Tw.at5_0, Tw.at5_1, Tw.at5_2, Tw.at5_3, Tw.at5_4, Tw.ix5_1, Tw.ix5_2, Tw.ix5_3, Tw.ix5_4, Tw.ints_map, Tw.add_tup, Tw.add_lst, Tw.oks_rows, Tw.frzs_rows, Tw.rows_len, Tw.oks_int, Tw.frzs_int, Tw.oks_tI, Tw.ok_tI, Tw.frz_tI, Tw.e_bok, Tw.e_sbok, List.map_cons, List.map_nil, List.length_cons, List.length_nil, List.cons_append, List.nil_append, List.replicate, List.getElem?_cons_zero, List.getElem?_cons_succ, List.set_cons_zero, List.set_cons_succ, Option.bind_some, Option.map_some, Nat.zero_add, Nat.add_zero, Nat.reduceAdd, Nat.reduceSub, Nat.reduceLT, Nat.reduceLeDiff, Bool.and_true, Bool.true_and, Bool.and_self, Bool.not_true, Bool.not_false, Bool.false_and, Bool.and_false, Bool.or_true, Bool.true_or, Bool.or_false, Bool.false_or, if_true, if_false, Bool.false_eq_true, reduceCtorEq, ite_true, ite_false, decide_true, decide_false, decide_eq_true_eq, ne_eq, Int.reduceEq, not_false_eq_true, not_true_eq_false, List.length_map, Option.map_none, Int.reduceNeg]
theorem rngOf_n {n : Nat} (h : n ≤ 1000000) : rngOf [(n : Int)] = some (0, n) := by
  have e := rngOf_1 (j := (n : Int)) ⟨by omega, by omega⟩
  rwa [Int.toNat_natCast] at e
theorem singles_ok {ns : List Int} (h : Sz ns) : h_singles [.tup (ns.map .int)] = .ret (.tup (rows ((List.range ns.length).map fun i : Nat => [(i : Int)]))) [] := by
  have e1 := check_sizes_ok h
  have l : lenOk ns.length = true := lenOk_of (by have := h.2.1; omega)
  have hr : rngOf [(ns.length : Int)] = some (0, ns.length) := rngOf_n (by have := h.2.1; omega)
  have key : compGo [1] (bNm 1) bTrue (fTup [fVar 1]) ((List.range ns.length).map fun i : Nat => D.int (i : Int)) [] [some (.tup (ns.map .int)), none] = .ok ((List.range ns.length).map fun i : Nat => D.tup [.int (i : Int)]) [some (.tup (ns.map .int)), none] := by
    refine comp_map1 (g := fun i : Nat => D.int (i : Int)) (fun i : Nat => .tup [.int (i : Int)]) (List.range ns.length) fun x hx ds acc => ?_
    simp only [Tw.e_run, Tw.e_rtR, Tw.e_rtX, Tw.e_rtN, Tw.e_io_nil, Tw.e_io_one, Tw.e_ioR1, Tw.e_seq, Tw.e_seqN, Tw.e_seqR, Tw.e_seqB, Tw.e_seqC, Tw.e_sNil, Tw.e_sBrk, Tw.e_sCont, Tw.e_sRet, Tw.e_sExpr, Tw.e_sIf, Tw.e_sAsg, Tw.e_nxR, Tw.e_bNm, Tw.e_sPar, Tw.e_sFor, Tw.e_sAug, Tw.e_augR, Tw.e_own, Tw.e_ownR, Tw.e_stR2, Tw.e_sStore, Tw.e_stR, Tw.e_stR3, Tw.e_m1R, Tw.e_m1S, Tw.e_m1T, Tw.e_mt1, Tw.e_m0S, Tw.e_mt0, Tw.e_var, Tw.e_varR, Tw.e_move, Tw.e_moveR, Tw.e_K, Tw.e_nil, Tw.e_val, Tw.e_slot, Tw.e_slotR, Tw.e_gnil, Tw.e_gval, Tw.e_gvR, Tw.e_gslot, Tw.e_gsR, Tw.e_gR, Tw.e_gpR, Tw.e_N, Tw.e_vals0, Tw.e_vals1, Tw.e_tup, Tw.e_lst, Tw.e_and, Tw.e_andT, Tw.e_andF, Tw.e_or, Tw.e_orT, Tw.e_orF, Tw.e_not, Tw.e_notR, Tw.e_bE, Tw.e_bR, Tw.e_bAnd, Tw.e_bOr, Tw.e_bNot, Tw.e_bTrue, Tw.e_if, Tw.e_chR2, Tw.e_chRT, Tw.e_chRF, Tw.e_chain, Tw.e_part0, Tw.e_part, Tw.e_partR, Tw.e_sl, Tw.e_rev, Tw.e_kval, Tw.e_kval2, Tw.e_kN, Tw.e_ktup, Tw.e_klst, Tw.e_kand, Tw.e_kor, Tw.e_knot, Tw.e_kbE, Tw.e_kbAnd, Tw.e_kbOr, Tw.e_kbNot, Tw.e_kif, Tw.e_kpart, Tw.e_krev, Tw.e_kcall, Tw.e_ksRet, Tw.e_ksExpr, Tw.e_ksIf, Tw.e_ksAsg, Tw.e_ksFor, Tw.e_ksStore, Tw.e_kstR, Tw.e_km1T, Tw.e_kiSeq, Tw.e_kiRng, Tw.e_kiZip, Tw.e_kmake, Tw.e_kfset, Tw.e_kchRT, Tw.e_kchain2, Tw.e_kchain, Tw.e_ksl, Tw.e_ksl2, Tw.e_ksl3, Tw.e_ksPar, Tw.e_ksPar2, Tw.e_ksAug, Tw.e_ksAug2, Tw.e_kcp3, Tw.e_kcomp, Tw.e_kcomp2, Tw.e_coR, Tw.e_kco2, Tw.e_kco, Tw.e_co, Tw.e_callR, Tw.e_call, Tw.e_io0, Tw.e_io1, Tw.e_io1R, Tw.e_itR, Tw.e_iSeq, Tw.e_rgR, Tw.e_iRng, Tw.e_zpR, Tw.e_iZip, Tw.e_comp, Tw.e_comp2, Tw.e_wipe0, Tw.e_wipe1, Tw.e_bTp, Tw.e_bNil, Tw.e_bCons, Tw.e_mkR, Tw.e_make, Tw.e_fset, Tw.e_fsR, Tw.e_oo, Tw.e_ooR, Tw.e_coR2, Tw.tru_non, Tw.tru_bl, Tw.tru_int, Tw.tru_tup, Tw.tru_lst, Tw.asI_int, Tw.ints_nil, Tw.ints_cons, Tw.items_lst, Tw.items_tup, Tw.seqK_lst, Tw.seqK_tup, Tw.isN_int, Tw.isN_non, Tw.isN_tup, Tw.notN_int, Tw.notN_non, Tw.notN_tup, Tw.mul_int, Tw.add_int, Tw.sub_int, Tw.fdiv_int, Tw.mod_int, Tw.pow_int, Tw.lt_int, Tw.le_int, Tw.gt_int, Tw.ge_int, Tw.neg_int, Tw.imul_int, Tw.iadd_int, Tw.len_lst, Tw.len_tup, Tw.ix_lst, Tw.ix_tup, Tw.tuple_lst, Tw.tuple_tup, Tw.list_lst, Tw.list_tup, Tw.abs_int, Tw.intC_int, Tw.intC_bl, Tw.all_lst, Tw.any_lst, Tw.isi_2, Tw.tag_non, Tw.tag_bl, Tw.tag_int, Tw.tag_str, Tw.tag_tup, Tw.tag_lst, Tw.tag_obj, Tw.asT_ty, Tw.asT_cl, Tw.frz_int, Tw.frz_bl, Tw.frz_non, Tw.frz_ty, Tw.frz_cl, Tw.frz_scr, Tw.frz_tup, Tw.frz_lst, Tw.frz_obj, Tw.frzs_nil, Tw.frzs_cons, Tw.ok_int, Tw.ok_bl, Tw.ok_non, Tw.ok_tup, Tw.ok_lst, Tw.ok_obj, Tw.doks_nil, Tw.doks_cons, Tw.sl_scr, Tw.sl_lst, Tw.sl_tup, Tw.rev_lst, Tw.rev_tup, Tw.eq_int, Tw.ne_int, Tw.e_kcpB, Tw.e_cpB, Tw.e_compB, Tw.e_fgN, Tw.e_fgC, Tw.e_fgB, Tw.e_fgRt, Tw.e_fgR, Tw.e_for0, Tw.e_for1, Tw.e_cgF, Tw.e_cgT, Tw.e_cgR, Tw.e_neo, Tw.e_cg0, Tw.e_cg1, Tw.e_c2A, Tw.e_c2I, Tw.e_c2T, Tw.e_c2R, Tw.e_c20, Tw.e_c21, Tw.at5_0, Tw.at5_1, Tw.at5_2, Tw.at5_3, Tw.at5_4, Tw.ix5_1, Tw.ix5_2, Tw.ix5_3, Tw.ix5_4, Tw.ints_map, Tw.add_tup, Tw.add_lst, Tw.oks_rows, Tw.frzs_rows, Tw.rows_len, Tw.oks_int, Tw.frzs_int, Tw.oks_tI, Tw.ok_tI, Tw.frz_tI, Tw.e_bok, Tw.e_sbok, List.map_cons, List.map_nil, List.length_cons, List.length_nil, List.cons_append, List.nil_append, List.replicate, List.getElem?_cons_zero, List.getElem?_cons_succ, List.set_cons_zero, List.set_cons_succ, Option.bind_some, Option.map_some, Nat.zero_add, Nat.add_zero, Nat.reduceAdd, Nat.reduceSub, Nat.reduceLT, Nat.reduceLeDiff, Bool.and_true, Bool.true_and, Bool.and_self, Bool.not_true, Bool.not_false, Bool.false_and, Bool.and_false, Bool.or_true, Bool.true_or, Bool.or_false, Bool.false_or, if_true, if_false, Bool.false_eq_true, reduceCtorEq, ite_true, ite_false, decide_true, decide_false, decide_eq_true_eq, ne_eq, Int.reduceEq, not_false_eq_true, not_true_eq_false, List.length_map, Option.map_none, Int.reduceNeg]
  have er : rows ((List.range ns.length).map fun i : Nat => [(i : Int)]) = (List.range ns.length).map fun i : Nat => D.tup [.int (i : Int)] := by
    unfold rows; rw [List.map_map]; rfl
  have o : D.oks ((List.range ns.length).map fun i : Nat => D.tup [.int (i : Int)]) = true := by rw [← er]; exact oks_rows _
  rw [er]
  simp only [h_singles, b_singles, e1, hr, rngD_0, List.length_range, l, key, o, Tw.e_run, Tw.e_rtR, Tw.e_rtX, Tw.e_rtN, Tw.e_io_nil, Tw.e_io_one, Tw.e_ioR1, Tw.e_seq, Tw.e_seqN, Tw.e_seqR, Tw.e_seqB, Tw.e_seqC, Tw.e_sNil, Tw.e_sBrk, Tw.e_sCont, Tw.e_sRet, Tw.e_sExpr, Tw.e_sIf, Tw.e_sAsg, Tw.e_nxR, Tw.e_bNm, Tw.e_sPar, Tw.e_sFor, Tw.e_sAug, Tw.e_augR, Tw.e_own, Tw.e_ownR, Tw.e_stR2, Tw.e_sStore, Tw.e_stR, Tw.e_stR3, Tw.e_m1R, Tw.e_m1S, Tw.e_m1T, Tw.e_mt1, Tw.e_m0S, Tw.e_mt0, Tw.e_var, Tw.e_varR, Tw.e_move, Tw.e_moveR, Tw.e_K, Tw.e_nil, Tw.e_val, Tw.e_slot, Tw.e_slotR, Tw.e_gnil, Tw.e_gval, Tw.e_gvR, Tw.e_gslot, Tw.e_gsR, Tw.e_gR, Tw.e_gpR, Tw.e_N, Tw.e_vals0, Tw.e_vals1, Tw.e_tup, Tw.e_lst, Tw.e_and, Tw.e_andT, Tw.e_andF, Tw.e_or, Tw.e_orT, Tw.e_orF, Tw.e_not, Tw.e_notR, Tw.e_bE, Tw.e_bR, Tw.e_bAnd, Tw.e_bOr, Tw.e_bNot, Tw.e_bTrue, Tw.e_if, Tw.e_chR2, Tw.e_chRT, Tw.e_chRF, Tw.e_chain, Tw.e_part0, Tw.e_part, Tw.e_partR, Tw.e_sl, Tw.e_rev, Tw.e_kval, Tw.e_kval2, Tw.e_kN, Tw.e_ktup, Tw.e_klst, Tw.e_kand, Tw.e_kor, Tw.e_knot, Tw.e_kbE, Tw.e_kbAnd, Tw.e_kbOr, Tw.e_kbNot, Tw.e_kif, Tw.e_kpart, Tw.e_krev, Tw.e_kcall, Tw.e_ksRet, Tw.e_ksExpr, Tw.e_ksIf, Tw.e_ksAsg, Tw.e_ksFor, Tw.e_ksStore, Tw.e_kstR, Tw.e_km1T, Tw.e_kiSeq, Tw.e_kiRng, Tw.e_kiZip, Tw.e_kmake, Tw.e_kfset, Tw.e_kchRT, Tw.e_kchain2, Tw.e_kchain, Tw.e_ksl, Tw.e_ksl2, Tw.e_ksl3, Tw.e_ksPar, Tw.e_ksPar2, Tw.e_ksAug, Tw.e_ksAug2, Tw.e_kcp3, Tw.e_kcomp, Tw.e_kcomp2, Tw.e_coR, Tw.e_kco2, Tw.e_kco, Tw.e_co, Tw.e_callR, Tw.e_call, Tw.e_io0, Tw.e_io1, Tw.e_io1R, Tw.e_itR, Tw.e_iSeq, Tw.e_rgR, Tw.e_iRng, Tw.e_zpR, Tw.e_iZip, Tw.e_comp, Tw.e_comp2, Tw.e_wipe0, Tw.e_wipe1, Tw.e_bTp, Tw.e_bNil, Tw.e_bCons, Tw.e_mkR, Tw.e_make, Tw.e_fset, Tw.e_fsR, Tw.e_oo, Tw.e_ooR, Tw.e_coR2, Tw.tru_non, Tw.tru_bl, Tw.tru_int, Tw.tru_tup, Tw.tru_lst, Tw.asI_int, Tw.ints_nil, Tw.ints_cons, Tw.items_lst, Tw.items_tup, Tw.seqK_lst, Tw.seqK_tup, Tw.isN_int, Tw.isN_non, Tw.isN_tup, Tw.notN_int, Tw.notN_non, Tw.notN_tup, Tw.mul_int, Tw.add_int, Tw.sub_int, Tw.fdiv_int, Tw.mod_int, Tw.pow_int, Tw.lt_int, Tw.le_int, Tw.gt_int, Tw.ge_int, Tw.neg_int, Tw.imul_int, Tw.iadd_int, Tw.len_lst, Tw.len_tup, Tw.ix_lst, Tw.ix_tup, Tw.tuple_lst, Tw.tuple_tup, Tw.list_lst, Tw.list_tup, Tw.abs_int, Tw.intC_int, Tw.intC_bl, Tw.all_lst, Tw.any_lst, Tw.isi_2, Tw.tag_non, Tw.tag_bl, Tw.tag_int, Tw.tag_str, Tw.tag_tup, Tw.tag_lst, Tw.tag_obj, Tw.asT_ty, Tw.asT_cl, Tw.frz_int, Tw.frz_bl, Tw.frz_non, Tw.frz_ty, Tw.frz_cl, Tw.frz_scr, Tw.frz_tup, Tw.frz_lst, Tw.frz_obj, Tw.frzs_nil, Tw.frzs_cons, Tw.ok_int, Tw.ok_bl, Tw.ok_non, Tw.ok_tup, Tw.ok_lst, Tw.ok_obj, Tw.doks_nil, Tw.doks_cons, Tw.sl_scr, Tw.sl_lst, Tw.sl_tup, Tw.rev_lst, Tw.rev_tup, Tw.eq_int, Tw.ne_int, Tw.e_kcpB, Tw.e_cpB, Tw.e_compB, Tw.e_fgN, Tw.e_fgC, Tw.e_fgB, Tw.e_fgRt, Tw.e_fgR, Tw.e_for0, Tw.e_for1, Tw.e_cgF, Tw.e_cgT, Tw.e_cgR, Tw.e_neo, Tw.e_cg0, Tw.e_cg1, Tw.e_c2A, Tw.e_c2I, Tw.e_c2T, Tw.e_c2R, Tw.e_c20, Tw.e_c21, Tw.at5_0, Tw.at5_1, Tw.at5_2, Tw.at5_3, Tw.at5_4, Tw.ix5_1, Tw.ix5_2, Tw.ix5_3, Tw.ix5_4, Tw.ints_map, Tw.add_tup, Tw.add_lst, Tw.oks_rows, Tw.frzs_rows, Tw.rows_len, Tw.oks_int, Tw.frzs_int, Tw.oks_tI, Tw.ok_tI, Tw.frz_tI, Tw.e_bok, Tw.e_sbok, List.map_cons, List.map_nil, List.length_cons, List.length_nil, List.cons_append, List.nil_append, List.replicate, List.getElem?_cons_zero, List.getElem?_cons_succ, List.set_cons_zero, List.set_cons_succ, Option.bind_some, Option.map_some, Nat.zero_add, Nat.add_zero, Nat.reduceAdd, Nat.reduceSub, Nat.reduceLT, Nat.reduceLeDiff, Bool.and_true, Bool.true_and, Bool.and_self, Bool.not_true, Bool.not_false, Bool.false_and, Bool.and_false, Bool.or_true, Bool.true_or, Bool.or_false, Bool.false_or, if_true, if_false, Bool.false_eq_true, reduceCtorEq, ite_true, ite_false, decide_true, decide_false, decide_eq_true_eq, ne_eq, Int.reduceEq, not_false_eq_true, not_true_eq_false, List.length_map, Option.map_none, Int.reduceNeg]
def atLot (sizes lot : List Int) : List Int := lot.map fun p => sizes.getD p.toNat 0
theorem at_comp {sizes lot : List Int} {vs : List Nat} (hl : ∀ p ∈ lot, 0 ≤ p ∧ p < sizes.length) : compGo [2] (bNm 2) bTrue (fN gIx [.val (fVar 0), .val (fVar 2)]) (lot.map .int) [] [some (.tup (sizes.map .int)), some (.tup (lot.map .int)), none] = .ok ((atLot sizes lot).map .int) [some (.tup (sizes.map .int)), some (.tup (lot.map .int)), none] := by
  unfold atLot
  rw [List.map_map]
  refine comp_map1 (fun p => .int (sizes.getD p.toNat 0)) lot fun x hx ds acc => ?_
  have a := atI_map (hl x hx).1 (hl x hx).2
  simp only [a, Tw.e_run, Tw.e_rtR, Tw.e_rtX, Tw.e_rtN, Tw.e_io_nil, Tw.e_io_one, Tw.e_ioR1, Tw.e_seq, Tw.e_seqN, Tw.e_seqR, Tw.e_seqB, Tw.e_seqC, Tw.e_sNil, Tw.e_sBrk, Tw.e_sCont, Tw.e_sRet, Tw.e_sExpr, Tw.e_sIf, Tw.e_sAsg, Tw.e_nxR, Tw.e_bNm, Tw.e_sPar, Tw.e_sFor, Tw.e_sAug, Tw.e_augR, Tw.e_own, Tw.e_ownR, Tw.e_stR2, Tw.e_sStore, Tw.e_stR, Tw.e_stR3, Tw.e_m1R, Tw.e_m1S, Tw.e_m1T, Tw.e_mt1, Tw.e_m0S, Tw.e_mt0, Tw.e_var, Tw.e_varR, Tw.e_move, Tw.e_moveR, Tw.e_K, Tw.e_nil, Tw.e_val, Tw.e_slot, Tw.e_slotR, Tw.e_gnil, Tw.e_gval, Tw.e_gvR, Tw.e_gslot, Tw.e_gsR, Tw.e_gR, Tw.e_gpR, Tw.e_N, Tw.e_vals0, Tw.e_vals1, Tw.e_tup, Tw.e_lst, Tw.e_and, Tw.e_andT, Tw.e_andF, Tw.e_or, Tw.e_orT, Tw.e_orF, Tw.e_not, Tw.e_notR, Tw.e_bE, Tw.e_bR, Tw.e_bAnd, Tw.e_bOr, Tw.e_bNot, Tw.e_bTrue, Tw.e_if, Tw.e_chR2, Tw.e_chRT, Tw.e_chRF, Tw.e_chain, Tw.e_part0, Tw.e_part, Tw.e_partR, Tw.e_sl, Tw.e_rev, Tw.e_kval, Tw.e_kval2, Tw.e_kN, Tw.e_ktup, Tw.e_klst, Tw.e_kand, Tw.e_kor, Tw.e_knot, Tw.e_kbE, Tw.e_kbAnd, Tw.e_kbOr, Tw.e_kbNot, Tw.e_kif, Tw.e_kpart, Tw.e_krev, Tw.e_kcall, Tw.e_ksRet, Tw.e_ksExpr, Tw.e_ksIf, Tw.e_ksAsg, Tw.e_ksFor, Tw.e_ksStore, Tw.e_kstR, Tw.e_km1T, Tw.e_kiSeq, Tw.e_kiRng, Tw.e_kiZip, Tw.e_kmake, Tw.e_kfset, Tw.e_kchRT, Tw.e_kchain2, Tw.e_kchain, Tw.e_ksl, Tw.e_ksl2, Tw.e_ksl3, Tw.e_ksPar, Tw.e_ksPar2, Tw.e_ksAug, Tw.e_ksAug2, Tw.e_kcp3, Tw.e_kcomp, Tw.e_kcomp2, Tw.e_coR, Tw.e_kco2, Tw.e_kco, Tw.e_co, Tw.e_callR, Tw.e_call, Tw.e_io0, Tw.e_io1, Tw.e_io1R, Tw.e_itR, Tw.e_iSeq, Tw.e_rgR, Tw.e_iRng, Tw.e_zpR, Tw.e_iZip, Tw.e_comp, Tw.e_comp2, Tw.e_wipe0, Tw.e_wipe1, Tw.e_bTp, Tw.e_bNil, Tw.e_bCons, Tw.e_mkR, Tw.e_make, Tw.e_fset, Tw.e_fsR, Tw.e_oo, Tw.e_ooR, Tw.e_coR2, Tw.tru_non, Tw.tru_bl, Tw.tru_int, Tw.tru_tup, Tw.tru_lst, Tw.asI_int, Tw.ints_nil, Tw.ints_cons, Tw.items_lst, Tw.items_tup, Tw.seqK_lst, Tw.seqK_tup, Tw.isN_int, Tw.isN_non, Tw.isN_tup, Tw.notN_int, Tw.notN_non, Tw.notN_tup, Tw.mul_int, Tw.add_int, Tw.sub_int, Tw.fdiv_int, Tw.mod_int, Tw.pow_int, Tw.lt_int, Tw.le_int, Tw.gt_int, Tw.ge_int, Tw.neg_int, Tw.imul_int, Tw.iadd_int, Tw.len_lst, Tw.len_tup, Tw.ix_lst, Tw.ix_tup, Tw.tuple_lst, Tw.tuple_tup, Tw.list_lst, Tw.list_tup, Tw.abs_int, Tw.intC_int, Tw.intC_bl, Tw.all_lst, Tw.any_lst, Tw.isi_2, Tw.tag_non, Tw.tag_bl, Tw.tag_int, Tw.tag_str, Tw.tag_tup, Tw.tag_lst, Tw.tag_obj, Tw.asT_ty, Tw.asT_cl, Tw.frz_int, Tw.frz_bl, Tw.frz_non, Tw.frz_ty, Tw.frz_cl, Tw.frz_scr, Tw.frz_tup, Tw.frz_lst, Tw.frz_obj, Tw.frzs_nil, Tw.frzs_cons, Tw.ok_int, Tw.ok_bl, Tw.ok_non, Tw.ok_tup, Tw.ok_lst, Tw.ok_obj, Tw.doks_nil, Tw.doks_cons, Tw.sl_scr, Tw.sl_lst, Tw.sl_tup, Tw.rev_lst, Tw.rev_tup, Tw.eq_int, Tw.ne_int, Tw.e_kcpB, Tw.e_cpB, Tw.e_compB, Tw.e_fgN, Tw.e_fgC, Tw.e_fgB, Tw.e_fgRt, Tw.e_fgR, Tw.e_for0, Tw.e_for1, Tw.e_cgF, Tw.e_cgT, Tw.e_cgR, Tw.e_neo, Tw.e_cg0, Tw.e_cg1, Tw.e_c2A, Tw.e_c2I, Tw.e_c2T, Tw.e_c2R, Tw.e_c20, Tw.e_c21, Tw.at5_0, Tw.at5_1, Tw.at5_2, Tw.at5_3, Tw.at5_4, Tw.ix5_1, Tw.ix5_2, Tw.ix5_3, Tw.ix5_4, Tw.ints_map, Tw.add_tup, Tw.add_lst, Tw.oks_rows, Tw.frzs_rows, Tw.rows_len, Tw.oks_int, Tw.frzs_int, Tw.oks_tI, Tw.ok_tI, Tw.frz_tI, Tw.e_bok, Tw.e_sbok, List.map_cons, List.map_nil, List.length_cons, List.length_nil, List.cons_append, List.nil_append, List.replicate, List.getElem?_cons_zero, List.getElem?_cons_succ, List.set_cons_zero, List.set_cons_succ, Option.bind_some, Option.map_some, Nat.zero_add, Nat.add_zero, Nat.reduceAdd, Nat.reduceSub, Nat.reduceLT, Nat.reduceLeDiff, Bool.and_true, Bool.true_and, Bool.and_self, Bool.not_true, Bool.not_false, Bool.false_and, Bool.and_false, Bool.or_true, Bool.true_or, Bool.or_false, Bool.false_or, if_true, if_false, Bool.false_eq_true, reduceCtorEq, ite_true, ite_false, decide_true, decide_false, decide_eq_true_eq, ne_eq, Int.reduceEq, not_false_eq_true, not_true_eq_false, List.length_map, Option.map_none, Int.reduceNeg]
theorem sizes_at_ok {sizes lot : List Int} (hl : ∀ p ∈ lot, 0 ≤ p ∧ p < sizes.length) (l : lot.length ≤ 1000) : h_sizes_at [.tup (sizes.map .int), .tup (lot.map .int)] = .ret (.tup ((atLot sizes lot).map .int)) [] := by
  have l : lenOk lot.length = true := lenOk_of (by omega)
  have key := at_comp (vs := []) hl
  simp only [h_sizes_at, b_sizes_at, l, key, Tw.e_run, Tw.e_rtR, Tw.e_rtX, Tw.e_rtN, Tw.e_io_nil, Tw.e_io_one, Tw.e_ioR1, Tw.e_seq, Tw.e_seqN, Tw.e_seqR, Tw.e_seqB, Tw.e_seqC, Tw.e_sNil, Tw.e_sBrk, Tw.e_sCont, Tw.e_sRet, Tw.e_sExpr, Tw.e_sIf, Tw.e_sAsg, Tw.e_nxR, Tw.e_bNm, Tw.e_sPar, Tw.e_sFor, Tw.e_sAug, Tw.e_augR, Tw.e_own, Tw.e_ownR, Tw.e_stR2, Tw.e_sStore, Tw.e_stR, Tw.e_stR3, Tw.e_m1R, Tw.e_m1S, Tw.e_m1T, Tw.e_mt1, Tw.e_m0S, Tw.e_mt0, Tw.e_var, Tw.e_varR, Tw.e_move, Tw.e_moveR, Tw.e_K, Tw.e_nil, Tw.e_val, Tw.e_slot, Tw.e_slotR, Tw.e_gnil, Tw.e_gval, Tw.e_gvR, Tw.e_gslot, Tw.e_gsR, Tw.e_gR, Tw.e_gpR, Tw.e_N, Tw.e_vals0, Tw.e_vals1, Tw.e_tup, Tw.e_lst, Tw.e_and, Tw.e_andT, Tw.e_andF, Tw.e_or, Tw.e_orT, Tw.e_orF, Tw.e_not, Tw.e_notR, Tw.e_bE, Tw.e_bR, Tw.e_bAnd, Tw.e_bOr, Tw.e_bNot, Tw.e_bTrue, Tw.e_if, Tw.e_chR2, Tw.e_chRT, Tw.e_chRF, Tw.e_chain, Tw.e_part0, Tw.e_part, Tw.e_partR, Tw.e_sl, Tw.e_rev, Tw.e_kval, Tw.e_kval2, Tw.e_kN, Tw.e_ktup, Tw.e_klst, Tw.e_kand, Tw.e_kor, Tw.e_knot, Tw.e_kbE, Tw.e_kbAnd, Tw.e_kbOr, Tw.e_kbNot, Tw.e_kif, Tw.e_kpart, Tw.e_krev, Tw.e_kcall, Tw.e_ksRet, Tw.e_ksExpr, Tw.e_ksIf, Tw.e_ksAsg, Tw.e_ksFor, Tw.e_ksStore, Tw.e_kstR, Tw.e_km1T, Tw.e_kiSeq, Tw.e_kiRng, Tw.e_kiZip, Tw.e_kmake, Tw.e_kfset, Tw.e_kchRT, Tw.e_kchain2, Tw.e_kchain, Tw.e_ksl, Tw.e_ksl2, Tw.e_ksl3, Tw.e_ksPar, Tw.e_ksPar2, Tw.e_ksAug, Tw.e_ksAug2, Tw.e_kcp3, Tw.e_kcomp, Tw.e_kcomp2, Tw.e_coR, Tw.e_kco2, Tw.e_kco, Tw.e_co, Tw.e_callR, Tw.e_call, Tw.e_io0, Tw.e_io1, Tw.e_io1R, Tw.e_itR, Tw.e_iSeq, Tw.e_rgR, Tw.e_iRng, Tw.e_zpR, Tw.e_iZip, Tw.e_comp, Tw.e_comp2, Tw.e_wipe0, Tw.e_wipe1, Tw.e_bTp, Tw.e_bNil, Tw.e_bCons, Tw.e_mkR, Tw.e_make, Tw.e_fset, Tw.e_fsR, Tw.e_oo, Tw.e_ooR, Tw.e_coR2, Tw.tru_non, Tw.tru_bl, Tw.tru_int, Tw.tru_tup, Tw.tru_lst, Tw.asI_int, Tw.ints_nil, Tw.ints_cons, Tw.items_lst, Tw.items_tup, Tw.seqK_lst, Tw.seqK_tup, Tw.isN_int, Tw.isN_non, Tw.isN_tup, Tw.notN_int, Tw.notN_non, Tw.notN_tup, Tw.mul_int, Tw.add_int, Tw.sub_int, Tw.fdiv_int, Tw.mod_int, Tw.pow_int, Tw.lt_int, Tw.le_int, Tw.gt_int, Tw.ge_int, Tw.neg_int, Tw.imul_int, Tw.iadd_int, Tw.len_lst, Tw.len_tup, Tw.ix_lst, Tw.ix_tup, Tw.tuple_lst, Tw.tuple_tup, Tw.list_lst, Tw.list_tup, Tw.abs_int, Tw.intC_int, Tw.intC_bl, Tw.all_lst, Tw.any_lst, Tw.isi_2, Tw.tag_non, Tw.tag_bl, Tw.tag_int, Tw.tag_str, Tw.tag_tup, Tw.tag_lst, Tw.tag_obj, Tw.asT_ty, Tw.asT_cl, Tw.frz_int, Tw.frz_bl, Tw.frz_non, Tw.frz_ty, Tw.frz_cl, Tw.frz_scr, Tw.frz_tup, Tw.frz_lst, Tw.frz_obj, Tw.frzs_nil, Tw.frzs_cons, Tw.ok_int, Tw.ok_bl, Tw.ok_non, Tw.ok_tup, Tw.ok_lst, Tw.ok_obj, Tw.doks_nil, Tw.doks_cons, Tw.sl_scr, Tw.sl_lst, Tw.sl_tup, Tw.rev_lst, Tw.rev_tup, Tw.eq_int, Tw.ne_int, Tw.e_kcpB, Tw.e_cpB, Tw.e_compB, Tw.e_fgN, Tw.e_fgC, Tw.e_fgB, Tw.e_fgRt, Tw.e_fgR, Tw.e_for0, Tw.e_for1, Tw.e_cgF, Tw.e_cgT, Tw.e_cgR, Tw.e_neo, Tw.e_cg0, Tw.e_cg1, Tw.e_c2A, Tw.e_c2I, Tw.e_c2T, Tw.e_c2R, Tw.e_c20, Tw.e_c21, Tw.at5_0, Tw.at5_1, Tw.at5_2, Tw.at5_3, Tw.at5_4, Tw.ix5_1, Tw.ix5_2, Tw.ix5_3, Tw.ix5_4, Tw.ints_map, Tw.add_tup, Tw.add_lst, Tw.oks_rows, Tw.frzs_rows, Tw.rows_len, Tw.oks_int, Tw.frzs_int, Tw.oks_tI, Tw.ok_tI, Tw.frz_tI, Tw.e_bok, Tw.e_sbok, List.map_cons, List.map_nil, List.length_cons, List.length_nil, List.cons_append, List.nil_append, List.replicate, List.getElem?_cons_zero, List.getElem?_cons_succ, List.set_cons_zero, List.set_cons_succ, Option.bind_some, Option.map_some, Nat.zero_add, Nat.add_zero, Nat.reduceAdd, Nat.reduceSub, Nat.reduceLT, Nat.reduceLeDiff, Bool.and_true, Bool.true_and, Bool.and_self, Bool.not_true, Bool.not_false, Bool.false_and, Bool.and_false, Bool.or_true, Bool.true_or, Bool.or_false, Bool.false_or, if_true, if_false, Bool.false_eq_true, reduceCtorEq, ite_true, ite_false, decide_true, decide_false, decide_eq_true_eq, ne_eq, Int.reduceEq, not_false_eq_true, not_true_eq_false, List.length_map, Option.map_none, Int.reduceNeg]
/-- a lot that goes up -/
def Up : Int → List Int → Int → Prop
  | _, [], _ => True
  | a, x :: r, m => a + 1 ≤ x ∧ x ≤ m - 1 ∧ Up x r m
theorem is_lot_loop {m : Int} {A : D} : ∀ (lot : List Int) (a : Int) (y : Option D), Up a lot m → ∃ env', forGo (bNm 3) (sSeq (sIf (bNot (bE (fCall [] h_is_within [(.val (fVar 3)), (.val (fN gAdd [(.val (fVar 2)), (.val (fK (.int 1)))])), (.val (fN Tw.gSub [(.val (fVar 1)), (.val (fK (.int 1)))]))]))) (sSeq (sRet (fK (.bl false))) sNil) sNil) (sSeq (sAsg (bNm 2) (fVar 3)) sNil)) (lot.map .int) [some A, some (.int m), some (.int a), y] = .next env'
  | [], a, y, _ => ⟨_, rfl⟩
  | x :: r, a, y, h => by
    obtain ⟨h1, h2, h3⟩ := h
    obtain ⟨env', e⟩ := is_lot_loop (A := A) r x (some (.int x)) h3
    refine ⟨env', ?_⟩
    rw [List.map_cons]
    simp only [within_ok, h1, h2, e, Tw.e_run, Tw.e_rtR, Tw.e_rtX, Tw.e_rtN, Tw.e_io_nil, Tw.e_io_one, Tw.e_ioR1, Tw.e_seq, Tw.e_seqN, Tw.e_seqR, Tw.e_seqB, Tw.e_seqC, Tw.e_sNil, Tw.e_sBrk, Tw.e_sCont, Tw.e_sRet, Tw.e_sExpr, Tw.e_sIf, Tw.e_sAsg, Tw.e_nxR, Tw.e_bNm, Tw.e_sPar, Tw.e_sFor, Tw.e_sAug, Tw.e_augR, Tw.e_own, Tw.e_ownR, Tw.e_stR2, Tw.e_sStore, Tw.e_stR, Tw.e_stR3, Tw.e_m1R, Tw.e_m1S, Tw.e_m1T, Tw.e_mt1, Tw.e_m0S, Tw.e_mt0, Tw.e_var, Tw.e_varR, Tw.e_move, Tw.e_moveR, Tw.e_K, Tw.e_nil, Tw.e_val, Tw.e_slot, Tw.e_slotR, Tw.e_gnil, Tw.e_gval, Tw.e_gvR, Tw.e_gslot, Tw.e_gsR, Tw.e_gR, Tw.e_gpR, Tw.e_N, Tw.e_vals0, Tw.e_vals1, Tw.e_tup, Tw.e_lst, Tw.e_and, Tw.e_andT, Tw.e_andF, Tw.e_or, Tw.e_orT, Tw.e_orF, Tw.e_not, Tw.e_notR, Tw.e_bE, Tw.e_bR, Tw.e_bAnd, Tw.e_bOr, Tw.e_bNot, Tw.e_bTrue, Tw.e_if, Tw.e_chR2, Tw.e_chRT, Tw.e_chRF, Tw.e_chain, Tw.e_part0, Tw.e_part, Tw.e_partR, Tw.e_sl, Tw.e_rev, Tw.e_kval, Tw.e_kval2, Tw.e_kN, Tw.e_ktup, Tw.e_klst, Tw.e_kand, Tw.e_kor, Tw.e_knot, Tw.e_kbE, Tw.e_kbAnd, Tw.e_kbOr, Tw.e_kbNot, Tw.e_kif, Tw.e_kpart, Tw.e_krev, Tw.e_kcall, Tw.e_ksRet, Tw.e_ksExpr, Tw.e_ksIf, Tw.e_ksAsg, Tw.e_ksFor, Tw.e_ksStore, Tw.e_kstR, Tw.e_km1T, Tw.e_kiSeq, Tw.e_kiRng, Tw.e_kiZip, Tw.e_kmake, Tw.e_kfset, Tw.e_kchRT, Tw.e_kchain2, Tw.e_kchain, Tw.e_ksl, Tw.e_ksl2, Tw.e_ksl3, Tw.e_ksPar, Tw.e_ksPar2, Tw.e_ksAug, Tw.e_ksAug2, Tw.e_kcp3, Tw.e_kcomp, Tw.e_kcomp2, Tw.e_coR, Tw.e_kco2, Tw.e_kco, Tw.e_co, Tw.e_callR, Tw.e_call, Tw.e_io0, Tw.e_io1, Tw.e_io1R, Tw.e_itR, Tw.e_iSeq, Tw.e_rgR, Tw.e_iRng, Tw.e_zpR, Tw.e_iZip, Tw.e_comp, Tw.e_comp2, Tw.e_wipe0, Tw.e_wipe1, Tw.e_bTp, Tw.e_bNil, Tw.e_bCons, Tw.e_mkR, Tw.e_make, Tw.e_fset, Tw.e_fsR, Tw.e_oo, Tw.e_ooR, Tw.e_coR2, Tw.tru_non, Tw.tru_bl, Tw.tru_int, Tw.tru_tup, Tw.tru_lst, Tw.asI_int, Tw.ints_nil, Tw.ints_cons, Tw.items_lst, Tw.items_tup, Tw.seqK_lst, Tw.seqK_tup, Tw.isN_int, Tw.isN_non, Tw.isN_tup, Tw.notN_int, Tw.notN_non, Tw.notN_tup, Tw.mul_int, Tw.add_int, Tw.sub_int, Tw.fdiv_int, Tw.mod_int, Tw.pow_int, Tw.lt_int, Tw.le_int, Tw.gt_int, Tw.ge_int, Tw.neg_int, Tw.imul_int, Tw.iadd_int, Tw.len_lst, Tw.len_tup, Tw.ix_lst, Tw.ix_tup, Tw.tuple_lst, Tw.tuple_tup, Tw.list_lst, Tw.list_tup, Tw.abs_int, Tw.intC_int, Tw.intC_bl, Tw.all_lst, Tw.any_lst, Tw.isi_2, Tw.tag_non, Tw.tag_bl, Tw.tag_int, Tw.tag_str, Tw.tag_tup, Tw.tag_lst, Tw.tag_obj, Tw.asT_ty, Tw.asT_cl, Tw.frz_int, Tw.frz_bl, Tw.frz_non, Tw.frz_ty, Tw.frz_cl, Tw.frz_scr, Tw.frz_tup, Tw.frz_lst, Tw.frz_obj, Tw.frzs_nil, Tw.frzs_cons, Tw.ok_int, Tw.ok_bl, Tw.ok_non, Tw.ok_tup, Tw.ok_lst, Tw.ok_obj, Tw.doks_nil, Tw.doks_cons, Tw.sl_scr, Tw.sl_lst, Tw.sl_tup, Tw.rev_lst, Tw.rev_tup, Tw.eq_int, Tw.ne_int, Tw.e_kcpB, Tw.e_cpB, Tw.e_compB, Tw.e_fgN, Tw.e_fgC, Tw.e_fgB, Tw.e_fgRt, Tw.e_fgR, Tw.e_for0, Tw.e_for1, Tw.e_cgF, Tw.e_cgT, Tw.e_cgR, Tw.e_neo, Tw.e_cg0, Tw.e_cg1, Tw.e_c2A, Tw.e_c2I, Tw.e_c2T, Tw.e_c2R, Tw.e_c20, Tw.e_c21, Tw.at5_0, Tw.at5_1, Tw.at5_2, Tw.at5_3, Tw.at5_4, Tw.ix5_1, Tw.ix5_2, Tw.ix5_3, Tw.ix5_4, Tw.ints_map, Tw.add_tup, Tw.add_lst, Tw.oks_rows, Tw.frzs_rows, Tw.rows_len, Tw.oks_int, Tw.frzs_int, Tw.oks_tI, Tw.ok_tI, Tw.frz_tI, Tw.e_bok, Tw.e_sbok, List.map_cons, List.map_nil, List.length_cons, List.length_nil, List.cons_append, List.nil_append, List.replicate, List.getElem?_cons_zero, List.getElem?_cons_succ, List.set_cons_zero, List.set_cons_succ, Option.bind_some, Option.map_some, Nat.zero_add, Nat.add_zero, Nat.reduceAdd, Nat.reduceSub, Nat.reduceLT, Nat.reduceLeDiff, Bool.and_true, Bool.true_and, Bool.and_self, Bool.not_true, Bool.not_false, Bool.false_and, Bool.and_false, Bool.or_true, Bool.true_or, Bool.or_false, Bool.false_or, if_true, if_false, Bool.false_eq_true, reduceCtorEq, ite_true, ite_false, decide_true, decide_false, decide_eq_true_eq, ne_eq, Int.reduceEq, not_false_eq_true, not_true_eq_false, List.length_map, Option.map_none, Int.reduceNeg]
theorem is_lot_ok {lot : List Int} {m : Int} (h : Up (-1) lot m) : h_is_lot [.tup (lot.map .int), .int m] = .ret (.bl true) [] := by
  obtain ⟨env', e⟩ := is_lot_loop (A := .tup (lot.map .int)) lot (-1) none h
  simp only [h_is_lot, b_is_lot, isa_20, e, Tw.e_run, Tw.e_rtR, Tw.e_rtX, Tw.e_rtN, Tw.e_io_nil, Tw.e_io_one, Tw.e_ioR1, Tw.e_seq, Tw.e_seqN, Tw.e_seqR, Tw.e_seqB, Tw.e_seqC, Tw.e_sNil, Tw.e_sBrk, Tw.e_sCont, Tw.e_sRet, Tw.e_sExpr, Tw.e_sIf, Tw.e_sAsg, Tw.e_nxR, Tw.e_bNm, Tw.e_sPar, Tw.e_sFor, Tw.e_sAug, Tw.e_augR, Tw.e_own, Tw.e_ownR, Tw.e_stR2, Tw.e_sStore, Tw.e_stR, Tw.e_stR3, Tw.e_m1R, Tw.e_m1S, Tw.e_m1T, Tw.e_mt1, Tw.e_m0S, Tw.e_mt0, Tw.e_var, Tw.e_varR, Tw.e_move, Tw.e_moveR, Tw.e_K, Tw.e_nil, Tw.e_val, Tw.e_slot, Tw.e_slotR, Tw.e_gnil, Tw.e_gval, Tw.e_gvR, Tw.e_gslot, Tw.e_gsR, Tw.e_gR, Tw.e_gpR, Tw.e_N, Tw.e_vals0, Tw.e_vals1, Tw.e_tup, Tw.e_lst, Tw.e_and, Tw.e_andT, Tw.e_andF, Tw.e_or, Tw.e_orT, Tw.e_orF, Tw.e_not, Tw.e_notR, Tw.e_bE, Tw.e_bR, Tw.e_bAnd, Tw.e_bOr, Tw.e_bNot, Tw.e_bTrue, Tw.e_if, Tw.e_chR2, Tw.e_chRT, Tw.e_chRF, Tw.e_chain, Tw.e_part0, Tw.e_part, Tw.e_partR, Tw.e_sl, Tw.e_rev, Tw.e_kval, Tw.e_kval2, Tw.e_kN, Tw.e_ktup, Tw.e_klst, Tw.e_kand, Tw.e_kor, Tw.e_knot, Tw.e_kbE, Tw.e_kbAnd, Tw.e_kbOr, Tw.e_kbNot, Tw.e_kif, Tw.e_kpart, Tw.e_krev, Tw.e_kcall, Tw.e_ksRet, Tw.e_ksExpr, Tw.e_ksIf, Tw.e_ksAsg, Tw.e_ksFor, Tw.e_ksStore, Tw.e_kstR, Tw.e_km1T, Tw.e_kiSeq, Tw.e_kiRng, Tw.e_kiZip, Tw.e_kmake, Tw.e_kfset, Tw.e_kchRT, Tw.e_kchain2, Tw.e_kchain, Tw.e_ksl, Tw.e_ksl2, Tw.e_ksl3, Tw.e_ksPar, Tw.e_ksPar2, Tw.e_ksAug, Tw.e_ksAug2, Tw.e_kcp3, Tw.e_kcomp, Tw.e_kcomp2, Tw.e_coR, Tw.e_kco2, Tw.e_kco, Tw.e_co, Tw.e_callR, Tw.e_call, Tw.e_io0, Tw.e_io1, Tw.e_io1R, Tw.e_itR, Tw.e_iSeq, Tw.e_rgR, Tw.e_iRng, Tw.e_zpR, Tw.e_iZip, Tw.e_comp, Tw.e_comp2, Tw.e_wipe0, Tw.e_wipe1, Tw.e_bTp, Tw.e_bNil, Tw.e_bCons, Tw.e_mkR, Tw.e_make, Tw.e_fset, Tw.e_fsR, Tw.e_oo, Tw.e_ooR, Tw.e_coR2, Tw.tru_non, Tw.tru_bl, Tw.tru_int, Tw.tru_tup, Tw.tru_lst, Tw.asI_int, Tw.ints_nil, Tw.ints_cons, Tw.items_lst, Tw.items_tup, Tw.seqK_lst, Tw.seqK_tup, Tw.isN_int, Tw.isN_non, Tw.isN_tup, Tw.notN_int, Tw.notN_non, Tw.notN_tup, Tw.mul_int, Tw.add_int, Tw.sub_int, Tw.fdiv_int, Tw.mod_int, Tw.pow_int, Tw.lt_int, Tw.le_int, Tw.gt_int, Tw.ge_int, Tw.neg_int, Tw.imul_int, Tw.iadd_int, Tw.len_lst, Tw.len_tup, Tw.ix_lst, Tw.ix_tup, Tw.tuple_lst, Tw.tuple_tup, Tw.list_lst, Tw.list_tup, Tw.abs_int, Tw.intC_int, Tw.intC_bl, Tw.all_lst, Tw.any_lst, Tw.isi_2, Tw.tag_non, Tw.tag_bl, Tw.tag_int, Tw.tag_str, Tw.tag_tup, Tw.tag_lst, Tw.tag_obj, Tw.asT_ty, Tw.asT_cl, Tw.frz_int, Tw.frz_bl, Tw.frz_non, Tw.frz_ty, Tw.frz_cl, Tw.frz_scr, Tw.frz_tup, Tw.frz_lst, Tw.frz_obj, Tw.frzs_nil, Tw.frzs_cons, Tw.ok_int, Tw.ok_bl, Tw.ok_non, Tw.ok_tup, Tw.ok_lst, Tw.ok_obj, Tw.doks_nil, Tw.doks_cons, Tw.sl_scr, Tw.sl_lst, Tw.sl_tup, Tw.rev_lst, Tw.rev_tup, Tw.eq_int, Tw.ne_int, Tw.e_kcpB, Tw.e_cpB, Tw.e_compB, Tw.e_fgN, Tw.e_fgC, Tw.e_fgB, Tw.e_fgRt, Tw.e_fgR, Tw.e_for0, Tw.e_for1, Tw.e_cgF, Tw.e_cgT, Tw.e_cgR, Tw.e_neo, Tw.e_cg0, Tw.e_cg1, Tw.e_c2A, Tw.e_c2I, Tw.e_c2T, Tw.e_c2R, Tw.e_c20, Tw.e_c21, Tw.at5_0, Tw.at5_1, Tw.at5_2, Tw.at5_3, Tw.at5_4, Tw.ix5_1, Tw.ix5_2, Tw.ix5_3, Tw.ix5_4, Tw.ints_map, Tw.add_tup, Tw.add_lst, Tw.oks_rows, Tw.frzs_rows, Tw.rows_len, Tw.oks_int, Tw.frzs_int, Tw.oks_tI, Tw.ok_tI, Tw.frz_tI, Tw.e_bok, Tw.e_sbok, List.map_cons, List.map_nil, List.length_cons, List.length_nil, List.cons_append, List.nil_append, List.replicate, List.getElem?_cons_zero, List.getElem?_cons_succ, List.set_cons_zero, List.set_cons_succ, Option.bind_some, Option.map_some, Nat.zero_add, Nat.add_zero, Nat.reduceAdd, Nat.reduceSub, Nat.reduceLT, Nat.reduceLeDiff, Bool.and_true, Bool.true_and, Bool.and_self, Bool.not_true, Bool.not_false, Bool.false_and, Bool.and_false, Bool.or_true, Bool.true_or, Bool.or_false, Bool.false_or, if_true, if_false, Bool.false_eq_true, reduceCtorEq, ite_true, ite_false, decide_true, decide_false, decide_eq_true_eq, ne_eq, Int.reduceEq, not_false_eq_true, not_true_eq_false, List.length_map, Option.map_none, Int.reduceNeg]
theorem up_in : ∀ {lot : List Int} {a m : Int}, Up a lot m → ∀ p ∈ lot, a < p ∧ p < m
  | x :: r, a, m, h, p, hp => by
    obtain ⟨h1, h2, h3⟩ := h
    rcases List.mem_cons.mp hp with rfl | hp
    · omega
    · have := up_in h3 p hp; omega
theorem up_len : ∀ {lot : List Int} {a m : Int}, Up a lot m → a ≤ m - 1 → (lot.length : Int) ≤ m - 1 - a
  | [], a, m, _, h => by simp; omega
  | x :: r, a, m, h, _ => by
    obtain ⟨h1, h2, h3⟩ := h
    have := up_len h3 (by omega)
    rw [List.length_cons]; omega
theorem at_b {sizes lot : List Int} (hb : ∀ s ∈ sizes, 0 ≤ s ∧ s ≤ 4) (hl : ∀ p ∈ lot, 0 ≤ p ∧ p < sizes.length) : ∀ s ∈ atLot sizes lot, 0 ≤ s ∧ s ≤ 4 := fun s hs => by
  obtain ⟨p, hp, rfl⟩ := List.mem_map.mp hs
  have := hl p hp
  have h2 : p.toNat < sizes.length := by omega
  rw [List.getD_eq_getElem?_getD, List.getElem?_eq_getElem h2]
  exact hb _ (List.getElem_mem h2)
theorem joints_ok {sizes lot : List Int} (h : Sz sizes) (hu : Up (-1) lot sizes.length) : h_joints [.tup (sizes.map .int), .tup (lot.map .int)] = .ret (.lst true (rows (allOf (atLot sizes lot)))) [] := by
  have e1 := check_sizes_ok h
  have e2 := is_lot_ok hu
  have b : ∀ p ∈ lot, 0 ≤ p ∧ p < sizes.length := fun p hp => by have := up_in hu p hp; omega
  have l : lot.length ≤ 6 := by have := up_len hu (by omega); have := h.2.1; omega
  have e3 := sizes_at_ok b (by omega)
  have e4 := tuples_ok (at_b h.b b) (by unfold atLot; rw [List.length_map]; exact l)
  simp only [h_joints, b_joints, e1, e2, h_joints_of, b_joints_of, e3, e4, Tw.e_run, Tw.e_rtR, Tw.e_rtX, Tw.e_rtN, Tw.e_io_nil, Tw.e_io_one, Tw.e_ioR1, Tw.e_seq, Tw.e_seqN, Tw.e_seqR, Tw.e_seqB, Tw.e_seqC, Tw.e_sNil, Tw.e_sBrk, Tw.e_sCont, Tw.e_sRet, Tw.e_sExpr, Tw.e_sIf, Tw.e_sAsg, Tw.e_nxR, Tw.e_bNm, Tw.e_sPar, Tw.e_sFor, Tw.e_sAug, Tw.e_augR, Tw.e_own, Tw.e_ownR, Tw.e_stR2, Tw.e_sStore, Tw.e_stR, Tw.e_stR3, Tw.e_m1R, Tw.e_m1S, Tw.e_m1T, Tw.e_mt1, Tw.e_m0S, Tw.e_mt0, Tw.e_var, Tw.e_varR, Tw.e_move, Tw.e_moveR, Tw.e_K, Tw.e_nil, Tw.e_val, Tw.e_slot, Tw.e_slotR, Tw.e_gnil, Tw.e_gval, Tw.e_gvR, Tw.e_gslot, Tw.e_gsR, Tw.e_gR, Tw.e_gpR, Tw.e_N, Tw.e_vals0, Tw.e_vals1, Tw.e_tup, Tw.e_lst, Tw.e_and, Tw.e_andT, Tw.e_andF, Tw.e_or, Tw.e_orT, Tw.e_orF, Tw.e_not, Tw.e_notR, Tw.e_bE, Tw.e_bR, Tw.e_bAnd, Tw.e_bOr, Tw.e_bNot, Tw.e_bTrue, Tw.e_if, Tw.e_chR2, Tw.e_chRT, Tw.e_chRF, Tw.e_chain, Tw.e_part0, Tw.e_part, Tw.e_partR, Tw.e_sl, Tw.e_rev, Tw.e_kval, Tw.e_kval2, Tw.e_kN, Tw.e_ktup, Tw.e_klst, Tw.e_kand, Tw.e_kor, Tw.e_knot, Tw.e_kbE, Tw.e_kbAnd, Tw.e_kbOr, Tw.e_kbNot, Tw.e_kif, Tw.e_kpart, Tw.e_krev, Tw.e_kcall, Tw.e_ksRet, Tw.e_ksExpr, Tw.e_ksIf, Tw.e_ksAsg, Tw.e_ksFor, Tw.e_ksStore, Tw.e_kstR, Tw.e_km1T, Tw.e_kiSeq, Tw.e_kiRng, Tw.e_kiZip, Tw.e_kmake, Tw.e_kfset, Tw.e_kchRT, Tw.e_kchain2, Tw.e_kchain, Tw.e_ksl, Tw.e_ksl2, Tw.e_ksl3, Tw.e_ksPar, Tw.e_ksPar2, Tw.e_ksAug, Tw.e_ksAug2, Tw.e_kcp3, Tw.e_kcomp, Tw.e_kcomp2, Tw.e_coR, Tw.e_kco2, Tw.e_kco, Tw.e_co, Tw.e_callR, Tw.e_call, Tw.e_io0, Tw.e_io1, Tw.e_io1R, Tw.e_itR, Tw.e_iSeq, Tw.e_rgR, Tw.e_iRng, Tw.e_zpR, Tw.e_iZip, Tw.e_comp, Tw.e_comp2, Tw.e_wipe0, Tw.e_wipe1, Tw.e_bTp, Tw.e_bNil, Tw.e_bCons, Tw.e_mkR, Tw.e_make, Tw.e_fset, Tw.e_fsR, Tw.e_oo, Tw.e_ooR, Tw.e_coR2, Tw.tru_non, Tw.tru_bl, Tw.tru_int, Tw.tru_tup, Tw.tru_lst, Tw.asI_int, Tw.ints_nil, Tw.ints_cons, Tw.items_lst, Tw.items_tup, Tw.seqK_lst, Tw.seqK_tup, Tw.isN_int, Tw.isN_non, Tw.isN_tup, Tw.notN_int, Tw.notN_non, Tw.notN_tup, Tw.mul_int, Tw.add_int, Tw.sub_int, Tw.fdiv_int, Tw.mod_int, Tw.pow_int, Tw.lt_int, Tw.le_int, Tw.gt_int, Tw.ge_int, Tw.neg_int, Tw.imul_int, Tw.iadd_int, Tw.len_lst, Tw.len_tup, Tw.ix_lst, Tw.ix_tup, Tw.tuple_lst, Tw.tuple_tup, Tw.list_lst, Tw.list_tup, Tw.abs_int, Tw.intC_int, Tw.intC_bl, Tw.all_lst, Tw.any_lst, Tw.isi_2, Tw.tag_non, Tw.tag_bl, Tw.tag_int, Tw.tag_str, Tw.tag_tup, Tw.tag_lst, Tw.tag_obj, Tw.asT_ty, Tw.asT_cl, Tw.frz_int, Tw.frz_bl, Tw.frz_non, Tw.frz_ty, Tw.frz_cl, Tw.frz_scr, Tw.frz_tup, Tw.frz_lst, Tw.frz_obj, Tw.frzs_nil, Tw.frzs_cons, Tw.ok_int, Tw.ok_bl, Tw.ok_non, Tw.ok_tup, Tw.ok_lst, Tw.ok_obj, Tw.doks_nil, Tw.doks_cons, Tw.sl_scr, Tw.sl_lst, Tw.sl_tup, Tw.rev_lst, Tw.rev_tup, Tw.eq_int, Tw.ne_int, Tw.e_kcpB, Tw.e_cpB, Tw.e_compB, Tw.e_fgN, Tw.e_fgC, Tw.e_fgB, Tw.e_fgRt, Tw.e_fgR, Tw.e_for0, Tw.e_for1, Tw.e_cgF, Tw.e_cgT, Tw.e_cgR, Tw.e_neo, Tw.e_cg0, Tw.e_cg1, Tw.e_c2A, Tw.e_c2I, Tw.e_c2T, Tw.e_c2R, Tw.e_c20, Tw.e_c21, Tw.at5_0, Tw.at5_1, Tw.at5_2, Tw.at5_3, Tw.at5_4, Tw.ix5_1, Tw.ix5_2, Tw.ix5_3, Tw.ix5_4, Tw.ints_map, Tw.add_tup, Tw.add_lst, Tw.oks_rows, Tw.frzs_rows, Tw.rows_len, Tw.oks_int, Tw.frzs_int, Tw.oks_tI, Tw.ok_tI, Tw.frz_tI, Tw.e_bok, Tw.e_sbok, List.map_cons, List.map_nil, List.length_cons, List.length_nil, List.cons_append, List.nil_append, List.replicate, List.getElem?_cons_zero, List.getElem?_cons_succ, List.set_cons_zero, List.set_cons_succ, Option.bind_some, Option.map_some, Nat.zero_add, Nat.add_zero, Nat.reduceAdd, Nat.reduceSub, Nat.reduceLT, Nat.reduceLeDiff, Bool.and_true, Bool.true_and, Bool.and_self, Bool.not_true, Bool.not_false, Bool.false_and, Bool.and_false, Bool.or_true, Bool.true_or, Bool.or_false, Bool.false_or, if_true, if_false, Bool.false_eq_true, reduceCtorEq, ite_true, ite_false, decide_true, decide_false, decide_eq_true_eq, ne_eq, Int.reduceEq, not_false_eq_true, not_true_eq_false, List.length_map, Option.map_none, Int.reduceNeg]
theorem many_ok {sizes : List Int} (h : Sz sizes) : h_many_contents [.tup (sizes.map .int)] = .ret (.int (sizes.foldl (· * ·) 1)) [] := by
  obtain ⟨env', ⟨y, rfl⟩, e⟩ := for_fold (bd := bNm 2) (g := D.int) (body := sSeq (sAug 1 gIMul (fVar 2)) sNil) (fun (b : Int) env => ∃ y, env = [some (.tup (sizes.map .int)), some (.int b), y]) (· * ·) sizes 1 [some (.tup (sizes.map .int)), some (.int 1), none] ⟨none, rfl⟩ fun s hs b env he => by
    obtain ⟨y, rfl⟩ := he
    refine ⟨_, ⟨some (.int s), rfl⟩, fun ds => ?_⟩
    have := h.2.2 s hs
    have c : CMul b s := cm_lit _ _ (by omega)
    simp only [c, Tw.e_run, Tw.e_rtR, Tw.e_rtX, Tw.e_rtN, Tw.e_io_nil, Tw.e_io_one, Tw.e_ioR1, Tw.e_seq, Tw.e_seqN, Tw.e_seqR, Tw.e_seqB, Tw.e_seqC, Tw.e_sNil, Tw.e_sBrk, Tw.e_sCont, Tw.e_sRet, Tw.e_sExpr, Tw.e_sIf, Tw.e_sAsg, Tw.e_nxR, Tw.e_bNm, Tw.e_sPar, Tw.e_sFor, Tw.e_sAug, Tw.e_augR, Tw.e_own, Tw.e_ownR, Tw.e_stR2, Tw.e_sStore, Tw.e_stR, Tw.e_stR3, Tw.e_m1R, Tw.e_m1S, Tw.e_m1T, Tw.e_mt1, Tw.e_m0S, Tw.e_mt0, Tw.e_var, Tw.e_varR, Tw.e_move, Tw.e_moveR, Tw.e_K, Tw.e_nil, Tw.e_val, Tw.e_slot, Tw.e_slotR, Tw.e_gnil, Tw.e_gval, Tw.e_gvR, Tw.e_gslot, Tw.e_gsR, Tw.e_gR, Tw.e_gpR, Tw.e_N, Tw.e_vals0, Tw.e_vals1, Tw.e_tup, Tw.e_lst, Tw.e_and, Tw.e_andT, Tw.e_andF, Tw.e_or, Tw.e_orT, Tw.e_orF, Tw.e_not, Tw.e_notR, Tw.e_bE, Tw.e_bR, Tw.e_bAnd, Tw.e_bOr, Tw.e_bNot, Tw.e_bTrue, Tw.e_if, Tw.e_chR2, Tw.e_chRT, Tw.e_chRF, Tw.e_chain, Tw.e_part0, Tw.e_part, Tw.e_partR, Tw.e_sl, Tw.e_rev, Tw.e_kval, Tw.e_kval2, Tw.e_kN, Tw.e_ktup, Tw.e_klst, Tw.e_kand, Tw.e_kor, Tw.e_knot, Tw.e_kbE, Tw.e_kbAnd, Tw.e_kbOr, Tw.e_kbNot, Tw.e_kif, Tw.e_kpart, Tw.e_krev, Tw.e_kcall, Tw.e_ksRet, Tw.e_ksExpr, Tw.e_ksIf, Tw.e_ksAsg, Tw.e_ksFor, Tw.e_ksStore, Tw.e_kstR, Tw.e_km1T, Tw.e_kiSeq, Tw.e_kiRng, Tw.e_kiZip, Tw.e_kmake, Tw.e_kfset, Tw.e_kchRT, Tw.e_kchain2, Tw.e_kchain, Tw.e_ksl, Tw.e_ksl2, Tw.e_ksl3, Tw.e_ksPar, Tw.e_ksPar2, Tw.e_ksAug, Tw.e_ksAug2, Tw.e_kcp3, Tw.e_kcomp, Tw.e_kcomp2, Tw.e_coR, Tw.e_kco2, Tw.e_kco, Tw.e_co, Tw.e_callR, Tw.e_call, Tw.e_io0, Tw.e_io1, Tw.e_io1R, Tw.e_itR, Tw.e_iSeq, Tw.e_rgR, Tw.e_iRng, Tw.e_zpR, Tw.e_iZip, Tw.e_comp, Tw.e_comp2, Tw.e_wipe0, Tw.e_wipe1, Tw.e_bTp, Tw.e_bNil, Tw.e_bCons, Tw.e_mkR, Tw.e_make, Tw.e_fset, Tw.e_fsR, Tw.e_oo, Tw.e_ooR, Tw.e_coR2, Tw.tru_non, Tw.tru_bl, Tw.tru_int, Tw.tru_tup, Tw.tru_lst, Tw.asI_int, Tw.ints_nil, Tw.ints_cons, Tw.items_lst, Tw.items_tup, Tw.seqK_lst, Tw.seqK_tup, Tw.isN_int, Tw.isN_non, Tw.isN_tup, Tw.notN_int, Tw.notN_non, Tw.notN_tup, Tw.mul_int, Tw.add_int, Tw.sub_int, Tw.fdiv_int, Tw.mod_int, Tw.pow_int, Tw.lt_int, Tw.le_int, Tw.gt_int, Tw.ge_int, Tw.neg_int, Tw.imul_int, Tw.iadd_int, Tw.len_lst, Tw.len_tup, Tw.ix_lst, Tw.ix_tup, Tw.tuple_lst, Tw.tuple_tup, Tw.list_lst, Tw.list_tup, Tw.abs_int, Tw.intC_int, Tw.intC_bl, Tw.all_lst, Tw.any_lst, Tw.isi_2, Tw.tag_non, Tw.tag_bl, Tw.tag_int, Tw.tag_str, Tw.tag_tup, Tw.tag_lst, Tw.tag_obj, Tw.asT_ty, Tw.asT_cl, Tw.frz_int, Tw.frz_bl, Tw.frz_non, Tw.frz_ty, Tw.frz_cl, Tw.frz_scr, Tw.frz_tup, Tw.frz_lst, Tw.frz_obj, Tw.frzs_nil, Tw.frzs_cons, Tw.ok_int, Tw.ok_bl, Tw.ok_non, Tw.ok_tup, Tw.ok_lst, Tw.ok_obj, Tw.doks_nil, Tw.doks_cons, Tw.sl_scr, Tw.sl_lst, Tw.sl_tup, Tw.rev_lst, Tw.rev_tup, Tw.eq_int, Tw.ne_int, Tw.e_kcpB, Tw.e_cpB, Tw.e_compB, Tw.e_fgN, Tw.e_fgC, Tw.e_fgB, Tw.e_fgRt, Tw.e_fgR, Tw.e_for0, Tw.e_for1, Tw.e_cgF, Tw.e_cgT, Tw.e_cgR, Tw.e_neo, Tw.e_cg0, Tw.e_cg1, Tw.e_c2A, Tw.e_c2I, Tw.e_c2T, Tw.e_c2R, Tw.e_c20, Tw.e_c21, Tw.at5_0, Tw.at5_1, Tw.at5_2, Tw.at5_3, Tw.at5_4, Tw.ix5_1, Tw.ix5_2, Tw.ix5_3, Tw.ix5_4, Tw.ints_map, Tw.add_tup, Tw.add_lst, Tw.oks_rows, Tw.frzs_rows, Tw.rows_len, Tw.oks_int, Tw.frzs_int, Tw.oks_tI, Tw.ok_tI, Tw.frz_tI, Tw.e_bok, Tw.e_sbok, List.map_cons, List.map_nil, List.length_cons, List.length_nil, List.cons_append, List.nil_append, List.replicate, List.getElem?_cons_zero, List.getElem?_cons_succ, List.set_cons_zero, List.set_cons_succ, Option.bind_some, Option.map_some, Nat.zero_add, Nat.add_zero, Nat.reduceAdd, Nat.reduceSub, Nat.reduceLT, Nat.reduceLeDiff, Bool.and_true, Bool.true_and, Bool.and_self, Bool.not_true, Bool.not_false, Bool.false_and, Bool.and_false, Bool.or_true, Bool.true_or, Bool.or_false, Bool.false_or, if_true, if_false, Bool.false_eq_true, reduceCtorEq, ite_true, ite_false, decide_true, decide_false, decide_eq_true_eq, ne_eq, Int.reduceEq, not_false_eq_true, not_true_eq_false, List.length_map, Option.map_none, Int.reduceNeg]
  simp only [h_many_contents, b_many_contents, e, Tw.e_run, Tw.e_rtR, Tw.e_rtX, Tw.e_rtN, Tw.e_io_nil, Tw.e_io_one, Tw.e_ioR1, Tw.e_seq, Tw.e_seqN, Tw.e_seqR, Tw.e_seqB, Tw.e_seqC, Tw.e_sNil, Tw.e_sBrk, Tw.e_sCont, Tw.e_sRet, Tw.e_sExpr, Tw.e_sIf, Tw.e_sAsg, Tw.e_nxR, Tw.e_bNm, Tw.e_sPar, Tw.e_sFor, Tw.e_sAug, Tw.e_augR, Tw.e_own, Tw.e_ownR, Tw.e_stR2, Tw.e_sStore, Tw.e_stR, Tw.e_stR3, Tw.e_m1R, Tw.e_m1S, Tw.e_m1T, Tw.e_mt1, Tw.e_m0S, Tw.e_mt0, Tw.e_var, Tw.e_varR, Tw.e_move, Tw.e_moveR, Tw.e_K, Tw.e_nil, Tw.e_val, Tw.e_slot, Tw.e_slotR, Tw.e_gnil, Tw.e_gval, Tw.e_gvR, Tw.e_gslot, Tw.e_gsR, Tw.e_gR, Tw.e_gpR, Tw.e_N, Tw.e_vals0, Tw.e_vals1, Tw.e_tup, Tw.e_lst, Tw.e_and, Tw.e_andT, Tw.e_andF, Tw.e_or, Tw.e_orT, Tw.e_orF, Tw.e_not, Tw.e_notR, Tw.e_bE, Tw.e_bR, Tw.e_bAnd, Tw.e_bOr, Tw.e_bNot, Tw.e_bTrue, Tw.e_if, Tw.e_chR2, Tw.e_chRT, Tw.e_chRF, Tw.e_chain, Tw.e_part0, Tw.e_part, Tw.e_partR, Tw.e_sl, Tw.e_rev, Tw.e_kval, Tw.e_kval2, Tw.e_kN, Tw.e_ktup, Tw.e_klst, Tw.e_kand, Tw.e_kor, Tw.e_knot, Tw.e_kbE, Tw.e_kbAnd, Tw.e_kbOr, Tw.e_kbNot, Tw.e_kif, Tw.e_kpart, Tw.e_krev, Tw.e_kcall, Tw.e_ksRet, Tw.e_ksExpr, Tw.e_ksIf, Tw.e_ksAsg, Tw.e_ksFor, Tw.e_ksStore, Tw.e_kstR, Tw.e_km1T, Tw.e_kiSeq, Tw.e_kiRng, Tw.e_kiZip, Tw.e_kmake, Tw.e_kfset, Tw.e_kchRT, Tw.e_kchain2, Tw.e_kchain, Tw.e_ksl, Tw.e_ksl2, Tw.e_ksl3, Tw.e_ksPar, Tw.e_ksPar2, Tw.e_ksAug, Tw.e_ksAug2, Tw.e_kcp3, Tw.e_kcomp, Tw.e_kcomp2, Tw.e_coR, Tw.e_kco2, Tw.e_kco, Tw.e_co, Tw.e_callR, Tw.e_call, Tw.e_io0, Tw.e_io1, Tw.e_io1R, Tw.e_itR, Tw.e_iSeq, Tw.e_rgR, Tw.e_iRng, Tw.e_zpR, Tw.e_iZip, Tw.e_comp, Tw.e_comp2, Tw.e_wipe0, Tw.e_wipe1, Tw.e_bTp, Tw.e_bNil, Tw.e_bCons, Tw.e_mkR, Tw.e_make, Tw.e_fset, Tw.e_fsR, Tw.e_oo, Tw.e_ooR, Tw.e_coR2, Tw.tru_non, Tw.tru_bl, Tw.tru_int, Tw.tru_tup, Tw.tru_lst, Tw.asI_int, Tw.ints_nil, Tw.ints_cons, Tw.items_lst, Tw.items_tup, Tw.seqK_lst, Tw.seqK_tup, Tw.isN_int, Tw.isN_non, Tw.isN_tup, Tw.notN_int, Tw.notN_non, Tw.notN_tup, Tw.mul_int, Tw.add_int, Tw.sub_int, Tw.fdiv_int, Tw.mod_int, Tw.pow_int, Tw.lt_int, Tw.le_int, Tw.gt_int, Tw.ge_int, Tw.neg_int, Tw.imul_int, Tw.iadd_int, Tw.len_lst, Tw.len_tup, Tw.ix_lst, Tw.ix_tup, Tw.tuple_lst, Tw.tuple_tup, Tw.list_lst, Tw.list_tup, Tw.abs_int, Tw.intC_int, Tw.intC_bl, Tw.all_lst, Tw.any_lst, Tw.isi_2, Tw.tag_non, Tw.tag_bl, Tw.tag_int, Tw.tag_str, Tw.tag_tup, Tw.tag_lst, Tw.tag_obj, Tw.asT_ty, Tw.asT_cl, Tw.frz_int, Tw.frz_bl, Tw.frz_non, Tw.frz_ty, Tw.frz_cl, Tw.frz_scr, Tw.frz_tup, Tw.frz_lst, Tw.frz_obj, Tw.frzs_nil, Tw.frzs_cons, Tw.ok_int, Tw.ok_bl, Tw.ok_non, Tw.ok_tup, Tw.ok_lst, Tw.ok_obj, Tw.doks_nil, Tw.doks_cons, Tw.sl_scr, Tw.sl_lst, Tw.sl_tup, Tw.rev_lst, Tw.rev_tup, Tw.eq_int, Tw.ne_int, Tw.e_kcpB, Tw.e_cpB, Tw.e_compB, Tw.e_fgN, Tw.e_fgC, Tw.e_fgB, Tw.e_fgRt, Tw.e_fgR, Tw.e_for0, Tw.e_for1, Tw.e_cgF, Tw.e_cgT, Tw.e_cgR, Tw.e_neo, Tw.e_cg0, Tw.e_cg1, Tw.e_c2A, Tw.e_c2I, Tw.e_c2T, Tw.e_c2R, Tw.e_c20, Tw.e_c21, Tw.at5_0, Tw.at5_1, Tw.at5_2, Tw.at5_3, Tw.at5_4, Tw.ix5_1, Tw.ix5_2, Tw.ix5_3, Tw.ix5_4, Tw.ints_map, Tw.add_tup, Tw.add_lst, Tw.oks_rows, Tw.frzs_rows, Tw.rows_len, Tw.oks_int, Tw.frzs_int, Tw.oks_tI, Tw.ok_tI, Tw.frz_tI, Tw.e_bok, Tw.e_sbok, List.map_cons, List.map_nil, List.length_cons, List.length_nil, List.cons_append, List.nil_append, List.replicate, List.getElem?_cons_zero, List.getElem?_cons_succ, List.set_cons_zero, List.set_cons_succ, Option.bind_some, Option.map_some, Nat.zero_add, Nat.add_zero, Nat.reduceAdd, Nat.reduceSub, Nat.reduceLT, Nat.reduceLeDiff, Bool.and_true, Bool.true_and, Bool.and_self, Bool.not_true, Bool.not_false, Bool.false_and, Bool.and_false, Bool.or_true, Bool.true_or, Bool.or_false, Bool.false_or, if_true, if_false, Bool.false_eq_true, reduceCtorEq, ite_true, ite_false, decide_true, decide_false, decide_eq_true_eq, ne_eq, Int.reduceEq, not_false_eq_true, not_true_eq_false, List.length_map, Option.map_none, Int.reduceNeg]
end K01
namespace K01
open PySem PySem.Spec PyProof.Rows L2 Tw
theorem ext_lst (ds : List D) (m : Bool) (ys : List D) : gExtend ds (.lst m ys) = if D.oks ds && D.oks ys && lenOk (ds.length + ys.length) then some (.non, ds ++ ys) else none := rfl
theorem grow_more {acc : List (List Int)} {j : Nat} {row : List Int} {s : Int} (e : acc[j]? = some row) : grow (acc.take (j + 1)) s = grow (acc.take j) s ++ (List.range s.toNat).map fun w : Nat => row ++ [(w : Int)] := by
  unfold grow
  rw [List.take_add_one, e, List.flatMap_append]
  simp
theorem row_of {sizes : List Int} {i : Nat} {row : List Int} (il : i ≤ sizes.length) (h : row ∈ allOf (sizes.take i)) : row.length = i := by
  have := row_len _ _ h
  rw [List.length_take] at this
  omega
theorem range_rows (s : Int) (row : List Int) : rows ((List.range s.toNat).map fun w : Nat => row ++ [(w : Int)]) = (List.range s.toNat).map fun w : Nat => D.tup (row.map .int ++ [.int (w : Int)]) := by
  unfold rows
  rw [List.map_map]
  exact List.map_congr_left fun w _ => by simp
theorem all_ok {d d0 : D} {sizes : List Int} (hd : D.frz d = d0) (hi : D.items d0 = some (sizes.map .int)) (h : ∀ s ∈ sizes, 0 ≤ s ∧ s ≤ 4) (hl : sizes.length ≤ 6) : h__law_all [d] = .ret (.lst false (rows (allOf sizes))) [] ∨ h__law_all [d] = .ret (.lst true (rows (allOf sizes))) [] := by
  have loop := for_ind (bd := bNm 2) (g := D.int) (body := sSeq (sAsg (bNm 3) (fLst [])) (sSeq (sFor (iSeq (fVar 1)) (bNm 4) (sSeq (sExpr (fMt1 3 gExtend (fComp [5] (iRng [(fVar 2)]) (bNm 5) bTrue (fN gAdd [(.val (fVar 4)), (.val (fTup [(fVar 5)]))])))) sNil)) (sSeq (sAsg (bNm 1) (fVar 3)) sNil)))
    (fun i env => ∃ m y2 y3 y4, env = [some d0, some (.lst m (rows (allOf (sizes.take i)))), y2, y3, y4, none]) sizes 0 [some d0, some (.lst true (rows (allOf []))), none, none, none, none] ⟨true, none, none, none, by rw [List.take_zero]⟩ ?_
  · obtain ⟨env', ⟨m, y2, y3, y4, rfl⟩, e⟩ := loop
    rw [Nat.zero_add, List.take_length] at e
    have e0 : rows (allOf []) = [.tup []] := rfl
    rw [e0] at e
    cases m
    · left; simp only [h__law_all, b__law_all, hd, hi, e, Tw.e_run, Tw.e_rtR, Tw.e_rtX, Tw.e_rtN, Tw.e_io_nil, Tw.e_io_one, Tw.e_ioR1, Tw.e_seq, Tw.e_seqN, Tw.e_seqR, Tw.e_seqB, Tw.e_seqC, Tw.e_sNil, Tw.e_sBrk, Tw.e_sCont, Tw.e_sRet, Tw.e_sExpr, Tw.e_sIf, Tw.e_sAsg, Tw.e_nxR, Tw.e_bNm, Tw.e_sPar, Tw.e_sFor, Tw.e_sAug, Tw.e_augR, Tw.e_own, Tw.e_ownR, Tw.e_stR2, Tw.e_sStore, Tw.e_stR, Tw.e_stR3, Tw.e_m1R, Tw.e_m1S, Tw.e_m1T, Tw.e_mt1, Tw.e_m0S, Tw.e_mt0, Tw.e_var, Tw.e_varR, Tw.e_move, Tw.e_moveR, Tw.e_K, Tw.e_nil, Tw.e_val, Tw.e_slot, Tw.e_slotR, Tw.e_gnil, Tw.e_gval, Tw.e_gvR, Tw.e_gslot, Tw.e_gsR, Tw.e_gR, Tw.e_gpR, Tw.e_N, Tw.e_vals0, Tw.e_vals1, Tw.e_tup, Tw.e_lst, Tw.e_and, Tw.e_andT, Tw.e_andF, Tw.e_or, Tw.e_orT, Tw.e_orF, Tw.e_not, Tw.e_notR, Tw.e_bE, Tw.e_bR, Tw.e_bAnd, Tw.e_bOr, Tw.e_bNot, Tw.e_bTrue, Tw.e_if, Tw.e_chR2, Tw.e_chRT, Tw.e_chRF, Tw.e_chain, Tw.e_part0, Tw.e_part, Tw.e_partR, Tw.e_sl, Tw.e_rev, Tw.e_kval, Tw.e_kval2, Tw.e_kN, Tw.e_ktup, Tw.e_klst, Tw.e_kand, Tw.e_kor, Tw.e_knot, Tw.e_kbE, Tw.e_kbAnd, Tw.e_kbOr, Tw.e_kbNot, Tw.e_kif, Tw.e_kpart, Tw.e_krev, Tw.e_kcall, Tw.e_ksRet, Tw.e_ksExpr, Tw.e_ksIf, Tw.e_ksAsg, Tw.e_ksFor, Tw.e_ksStore, Tw.e_kstR, Tw.e_km1T, Tw.e_kiSeq, Tw.e_kiRng, Tw.e_kiZip, Tw.e_kmake, Tw.e_kfset, Tw.e_kchRT, Tw.e_kchain2, Tw.e_kchain, Tw.e_ksl, Tw.e_ksl2, Tw.e_ksl3, Tw.e_ksPar, Tw.e_ksPar2, Tw.e_ksAug, Tw.e_ksAug2, Tw.e_kcp3, Tw.e_kcomp, Tw.e_kcomp2, Tw.e_coR, Tw.e_kco2, Tw.e_kco, Tw.e_co, Tw.e_callR, Tw.e_call, Tw.e_io0, Tw.e_io1, Tw.e_io1R, Tw.e_itR, Tw.e_iSeq, Tw.e_rgR, Tw.e_iRng, Tw.e_zpR, Tw.e_iZip, Tw.e_comp, Tw.e_comp2, Tw.e_wipe0, Tw.e_wipe1, Tw.e_bTp, Tw.e_bNil, Tw.e_bCons, Tw.e_mkR, Tw.e_make, Tw.e_fset, Tw.e_fsR, Tw.e_oo, Tw.e_ooR, Tw.e_coR2, Tw.tru_non, Tw.tru_bl, Tw.tru_int, Tw.tru_tup, Tw.tru_lst, Tw.asI_int, Tw.ints_nil, Tw.ints_cons, Tw.items_lst, Tw.items_tup, Tw.seqK_lst, Tw.seqK_tup, Tw.isN_int, Tw.isN_non, Tw.isN_tup, Tw.notN_int, Tw.notN_non, Tw.notN_tup, Tw.mul_int, Tw.add_int, Tw.sub_int, Tw.fdiv_int, Tw.mod_int, Tw.pow_int, Tw.lt_int, Tw.le_int, Tw.gt_int, Tw.ge_int, Tw.neg_int, Tw.imul_int, Tw.iadd_int, Tw.len_lst, Tw.len_tup, Tw.ix_lst, Tw.ix_tup, Tw.tuple_lst, Tw.tuple_tup, Tw.list_lst, Tw.list_tup, Tw.abs_int, Tw.intC_int, Tw.intC_bl, Tw.all_lst, Tw.any_lst, Tw.isi_2, Tw.tag_non, Tw.tag_bl, Tw.tag_int, Tw.tag_str, Tw.tag_tup, Tw.tag_lst, Tw.tag_obj, Tw.asT_ty, Tw.asT_cl, Tw.frz_int, Tw.frz_bl, Tw.frz_non, Tw.frz_ty, Tw.frz_cl, Tw.frz_scr, Tw.frz_tup, Tw.frz_lst, Tw.frz_obj, Tw.frzs_nil, Tw.frzs_cons, Tw.ok_int, Tw.ok_bl, Tw.ok_non, Tw.ok_tup, Tw.ok_lst, Tw.ok_obj, Tw.doks_nil, Tw.doks_cons, Tw.sl_scr, Tw.sl_lst, Tw.sl_tup, Tw.rev_lst, Tw.rev_tup, Tw.eq_int, Tw.ne_int, Tw.e_kcpB, Tw.e_cpB, Tw.e_compB, Tw.e_fgN, Tw.e_fgC, Tw.e_fgB, Tw.e_fgRt, Tw.e_fgR, Tw.e_for0, Tw.e_for1, Tw.e_cgF, Tw.e_cgT, Tw.e_cgR, Tw.e_neo, Tw.e_cg0, Tw.e_cg1, Tw.e_c2A, Tw.e_c2I, Tw.e_c2T, Tw.e_c2R, Tw.e_c20, Tw.e_c21, Tw.at5_0, Tw.at5_1, Tw.at5_2, Tw.at5_3, Tw.at5_4, Tw.ix5_1, Tw.ix5_2, Tw.ix5_3, Tw.ix5_4, Tw.ints_map, Tw.add_tup, Tw.add_lst, Tw.oks_rows, Tw.frzs_rows, Tw.rows_len, Tw.oks_int, Tw.frzs_int, Tw.oks_tI, Tw.ok_tI, Tw.frz_tI, Tw.e_bok, Tw.e_sbok, List.map_cons, List.map_nil, List.length_cons, List.length_nil, List.cons_append, List.nil_append, List.replicate, List.getElem?_cons_zero, List.getElem?_cons_succ, List.set_cons_zero, List.set_cons_succ, Option.bind_some, Option.map_some, Nat.zero_add, Nat.add_zero, Nat.reduceAdd, Nat.reduceSub, Nat.reduceLT, Nat.reduceLeDiff, Bool.and_true, Bool.true_and, Bool.and_self, Bool.not_true, Bool.not_false, Bool.false_and, Bool.and_false, Bool.or_true, Bool.true_or, Bool.or_false, Bool.false_or, if_true, if_false, Bool.false_eq_true, reduceCtorEq, ite_true, ite_false, decide_true, decide_false, decide_eq_true_eq, ne_eq, Int.reduceEq, not_false_eq_true, not_true_eq_false, List.length_map, Option.map_none, Int.reduceNeg]
    · right; simp only [h__law_all, b__law_all, hd, hi, e, Tw.e_run, Tw.e_rtR, Tw.e_rtX, Tw.e_rtN, Tw.e_io_nil, Tw.e_io_one, Tw.e_ioR1, Tw.e_seq, Tw.e_seqN, Tw.e_seqR, Tw.e_seqB, Tw.e_seqC, Tw.e_sNil, Tw.e_sBrk, Tw.e_sCont, Tw.e_sRet, Tw.e_sExpr, Tw.e_sIf, Tw.e_sAsg, Tw.e_nxR, Tw.e_bNm, Tw.e_sPar, Tw.e_sFor, Tw.e_sAug, Tw.e_augR, Tw.e_own, Tw.e_ownR, Tw.e_stR2, Tw.e_sStore, Tw.e_stR, Tw.e_stR3, Tw.e_m1R, Tw.e_m1S, Tw.e_m1T, Tw.e_mt1, Tw.e_m0S, Tw.e_mt0, Tw.e_var, Tw.e_varR, Tw.e_move, Tw.e_moveR, Tw.e_K, Tw.e_nil, Tw.e_val, Tw.e_slot, Tw.e_slotR, Tw.e_gnil, Tw.e_gval, Tw.e_gvR, Tw.e_gslot, Tw.e_gsR, Tw.e_gR, Tw.e_gpR, Tw.e_N, Tw.e_vals0, Tw.e_vals1, Tw.e_tup, Tw.e_lst, Tw.e_and, Tw.e_andT, Tw.e_andF, Tw.e_or, Tw.e_orT, Tw.e_orF, Tw.e_not, Tw.e_notR, Tw.e_bE, Tw.e_bR, Tw.e_bAnd, Tw.e_bOr, Tw.e_bNot, Tw.e_bTrue, Tw.e_if, Tw.e_chR2, Tw.e_chRT, Tw.e_chRF, Tw.e_chain, Tw.e_part0, Tw.e_part, Tw.e_partR, Tw.e_sl, Tw.e_rev, Tw.e_kval, Tw.e_kval2, Tw.e_kN, Tw.e_ktup, Tw.e_klst, Tw.e_kand, Tw.e_kor, Tw.e_knot, Tw.e_kbE, Tw.e_kbAnd, Tw.e_kbOr, Tw.e_kbNot, Tw.e_kif, Tw.e_kpart, Tw.e_krev, Tw.e_kcall, Tw.e_ksRet, Tw.e_ksExpr, Tw.e_ksIf, Tw.e_ksAsg, Tw.e_ksFor, Tw.e_ksStore, Tw.e_kstR, Tw.e_km1T, Tw.e_kiSeq, Tw.e_kiRng, Tw.e_kiZip, Tw.e_kmake, Tw.e_kfset, Tw.e_kchRT, Tw.e_kchain2, Tw.e_kchain, Tw.e_ksl, Tw.e_ksl2, Tw.e_ksl3, Tw.e_ksPar, Tw.e_ksPar2, Tw.e_ksAug, Tw.e_ksAug2, Tw.e_kcp3, Tw.e_kcomp, Tw.e_kcomp2, Tw.e_coR, Tw.e_kco2, Tw.e_kco, Tw.e_co, Tw.e_callR, Tw.e_call, Tw.e_io0, Tw.e_io1, Tw.e_io1R, Tw.e_itR, Tw.e_iSeq, Tw.e_rgR, Tw.e_iRng, Tw.e_zpR, Tw.e_iZip, Tw.e_comp, Tw.e_comp2, Tw.e_wipe0, Tw.e_wipe1, Tw.e_bTp, Tw.e_bNil, Tw.e_bCons, Tw.e_mkR, Tw.e_make, Tw.e_fset, Tw.e_fsR, Tw.e_oo, Tw.e_ooR, Tw.e_coR2, Tw.tru_non, Tw.tru_bl, Tw.tru_int, Tw.tru_tup, Tw.tru_lst, Tw.asI_int, Tw.ints_nil, Tw.ints_cons, Tw.items_lst, Tw.items_tup, Tw.seqK_lst, Tw.seqK_tup, Tw.isN_int, Tw.isN_non, Tw.isN_tup, Tw.notN_int, Tw.notN_non, Tw.notN_tup, Tw.mul_int, Tw.add_int, Tw.sub_int, Tw.fdiv_int, Tw.mod_int, Tw.pow_int, Tw.lt_int, Tw.le_int, Tw.gt_int, Tw.ge_int, Tw.neg_int, Tw.imul_int, Tw.iadd_int, Tw.len_lst, Tw.len_tup, Tw.ix_lst, Tw.ix_tup, Tw.tuple_lst, Tw.tuple_tup, Tw.list_lst, Tw.list_tup, Tw.abs_int, Tw.intC_int, Tw.intC_bl, Tw.all_lst, Tw.any_lst, Tw.isi_2, Tw.tag_non, Tw.tag_bl, Tw.tag_int, Tw.tag_str, Tw.tag_tup, Tw.tag_lst, Tw.tag_obj, Tw.asT_ty, Tw.asT_cl, Tw.frz_int, Tw.frz_bl, Tw.frz_non, Tw.frz_ty, Tw.frz_cl, Tw.frz_scr, Tw.frz_tup, Tw.frz_lst, Tw.frz_obj, Tw.frzs_nil, Tw.frzs_cons, Tw.ok_int, Tw.ok_bl, Tw.ok_non, Tw.ok_tup, Tw.ok_lst, Tw.ok_obj, Tw.doks_nil, Tw.doks_cons, Tw.sl_scr, Tw.sl_lst, Tw.sl_tup, Tw.rev_lst, Tw.rev_tup, Tw.eq_int, Tw.ne_int, Tw.e_kcpB, Tw.e_cpB, Tw.e_compB, Tw.e_fgN, Tw.e_fgC, Tw.e_fgB, Tw.e_fgRt, Tw.e_fgR, Tw.e_for0, Tw.e_for1, Tw.e_cgF, Tw.e_cgT, Tw.e_cgR, Tw.e_neo, Tw.e_cg0, Tw.e_cg1, Tw.e_c2A, Tw.e_c2I, Tw.e_c2T, Tw.e_c2R, Tw.e_c20, Tw.e_c21, Tw.at5_0, Tw.at5_1, Tw.at5_2, Tw.at5_3, Tw.at5_4, Tw.ix5_1, Tw.ix5_2, Tw.ix5_3, Tw.ix5_4, Tw.ints_map, Tw.add_tup, Tw.add_lst, Tw.oks_rows, Tw.frzs_rows, Tw.rows_len, Tw.oks_int, Tw.frzs_int, Tw.oks_tI, Tw.ok_tI, Tw.frz_tI, Tw.e_bok, Tw.e_sbok, List.map_cons, List.map_nil, List.length_cons, List.length_nil, List.cons_append, List.nil_append, List.replicate, List.getElem?_cons_zero, List.getElem?_cons_succ, List.set_cons_zero, List.set_cons_succ, Option.bind_some, Option.map_some, Nat.zero_add, Nat.add_zero, Nat.reduceAdd, Nat.reduceSub, Nat.reduceLT, Nat.reduceLeDiff, Bool.and_true, Bool.true_and, Bool.and_self, Bool.not_true, Bool.not_false, Bool.false_and, Bool.and_false, Bool.or_true, Bool.true_or, Bool.or_false, Bool.false_or, if_true, if_false, Bool.false_eq_true, reduceCtorEq, ite_true, ite_false, decide_true, decide_false, decide_eq_true_eq, ne_eq, Int.reduceEq, not_false_eq_true, not_true_eq_false, List.length_map, Option.map_none, Int.reduceNeg]
  · rintro i s env his ⟨m, y2, y3, y4, rfl⟩
    rw [Nat.zero_add]
    have hs := h s (List.mem_of_getElem? his)
    have il : i < sizes.length := (List.getElem?_eq_some_iff.mp his).1
    have hr : rngOf [s] = some (0, s.toNat) := rngOf_1 (by omega)
    have lenA : (grow (allOf (sizes.take i)) s).length ≤ 4096 := by
      rw [← take_more his]
      exact allOf_len (fun x hx => (h x (List.mem_of_mem_take hx)).2) (by rw [List.length_take]; omega)
    rw [grow_len] at lenA
    have ls : lenOk s.toNat = true := lenOk_of (by omega)
    obtain ⟨env', ⟨z4, rfl⟩, e⟩ := for_ind (bd := bNm 4) (g := fun ns : List Int => D.tup (ns.map .int)) (body := sSeq (sExpr (fMt1 3 gExtend (fComp [5] (iRng [(fVar 2)]) (bNm 5) bTrue (fN gAdd [(.val (fVar 4)), (.val (fTup [(fVar 5)]))])))) sNil)
      (fun j env => ∃ y4, env = [some d0, some (.lst false (rows (allOf (sizes.take i)))), some (.int s), some (.lst true (rows (grow ((allOf (sizes.take i)).take j) s))), y4, none]) (allOf (sizes.take i)) 0
      [some d0, some (.lst false (rows (allOf (sizes.take i)))), some (.int s), some (.lst true []), y4, none] ⟨y4, by rw [List.take_zero]; rfl⟩ (by
        rintro j row env hj ⟨z4, rfl⟩
        rw [Nat.zero_add]
        have rl := row_of (by omega) (List.mem_of_getElem? hj)
        have jl : j < (allOf (sizes.take i)).length := (List.getElem?_eq_some_iff.mp hj).1
        refine ⟨_, ⟨some (.tup (row.map .int)), rfl⟩, fun ds => ?_⟩
        have l2 : lenOk (row.length + 1) = true := lenOk_of (by omega)
        have key := comp_map1 (vs := [5]) (b := bNm 5) (t := bTrue) (f := fN gAdd [.val (fVar 4), .val (fTup [fVar 5])]) (g := fun w : Nat => D.int (w : Int)) (env := [some d0, some (.lst false (rows (allOf (sizes.take i)))), some (.int s), some (.lst true (rows (grow ((allOf (sizes.take i)).take j) s))), some (.tup (row.map .int)), none])
          (fun w : Nat => D.tup (row.map .int ++ [.int (w : Int)])) (List.range s.toNat) fun w hw ds acc => by
            simp only [l2, Tw.e_run, Tw.e_rtR, Tw.e_rtX, Tw.e_rtN, Tw.e_io_nil, Tw.e_io_one, Tw.e_ioR1, Tw.e_seq, Tw.e_seqN, Tw.e_seqR, Tw.e_seqB, Tw.e_seqC, Tw.e_sNil, Tw.e_sBrk, Tw.e_sCont, Tw.e_sRet, Tw.e_sExpr, Tw.e_sIf, Tw.e_sAsg, Tw.e_nxR, Tw.e_bNm, Tw.e_sPar, Tw.e_sFor, Tw.e_sAug, Tw.e_augR, Tw.e_own, Tw.e_ownR, Tw.e_stR2, Tw.e_sStore, Tw.e_stR, Tw.e_stR3, Tw.e_m1R, Tw.e_m1S, Tw.e_m1T, Tw.e_mt1, Tw.e_m0S, Tw.e_mt0, Tw.e_var, Tw.e_varR, Tw.e_move, Tw.e_moveR, Tw.e_K, Tw.e_nil, Tw.e_val, Tw.e_slot, Tw.e_slotR, Tw.e_gnil, Tw.e_gval, Tw.e_gvR, Tw.e_gslot, Tw.e_gsR, Tw.e_gR, Tw.e_gpR, Tw.e_N, Tw.e_vals0, Tw.e_vals1, Tw.e_tup, Tw.e_lst, Tw.e_and, Tw.e_andT, Tw.e_andF, Tw.e_or, Tw.e_orT, Tw.e_orF, Tw.e_not, Tw.e_notR, Tw.e_bE, Tw.e_bR, Tw.e_bAnd, Tw.e_bOr, Tw.e_bNot, Tw.e_bTrue, Tw.e_if, Tw.e_chR2, Tw.e_chRT, Tw.e_chRF, Tw.e_chain, Tw.e_part0, Tw.e_part, Tw.e_partR, Tw.e_sl, Tw.e_rev, Tw.e_kval, Tw.e_kval2, Tw.e_kN, Tw.e_ktup, Tw.e_klst, Tw.e_kand, Tw.e_kor, Tw.e_knot, Tw.e_kbE, Tw.e_kbAnd, Tw.e_kbOr, Tw.e_kbNot, Tw.e_kif, Tw.e_kpart, Tw.e_krev, Tw.e_kcall, Tw.e_ksRet, Tw.e_ksExpr, Tw.e_ksIf, Tw.e_ksAsg, Tw.e_ksFor, Tw.e_ksStore, Tw.e_kstR, Tw.e_km1T, Tw.e_kiSeq, Tw.e_kiRng, Tw.e_kiZip, Tw.e_kmake, Tw.e_kfset, Tw.e_kchRT, Tw.e_kchain2, Tw.e_kchain, Tw.e_ksl, Tw.e_ksl2, Tw.e_ksl3, Tw.e_ksPar, Tw.e_ksPar2, Tw.e_ksAug, Tw.e_ksAug2, Tw.e_kcp3, Tw.e_kcomp, Tw.e_kcomp2, Tw.e_coR, Tw.e_kco2, Tw.e_kco, Tw.e_co, Tw.e_callR, Tw.e_call, Tw.e_io0, Tw.e_io1, Tw.e_io1R, Tw.e_itR, Tw.e_iSeq, Tw.e_rgR, Tw.e_iRng, Tw.e_zpR, Tw.e_iZip, Tw.e_comp, Tw.e_comp2, Tw.e_wipe0, Tw.e_wipe1, Tw.e_bTp, Tw.e_bNil, Tw.e_bCons, Tw.e_mkR, Tw.e_make, Tw.e_fset, Tw.e_fsR, Tw.e_oo, Tw.e_ooR, Tw.e_coR2, Tw.tru_non, Tw.tru_bl, Tw.tru_int, Tw.tru_tup, Tw.tru_lst, Tw.asI_int, Tw.ints_nil, Tw.ints_cons, Tw.items_lst, Tw.items_tup, Tw.seqK_lst, Tw.seqK_tup, Tw.isN_int, Tw.isN_non, Tw.isN_tup, Tw.notN_int, Tw.notN_non, Tw.notN_tup, Tw.mul_int, Tw.add_int, Tw.sub_int, Tw.fdiv_int, Tw.mod_int, Tw.pow_int, Tw.lt_int, Tw.le_int, Tw.gt_int, Tw.ge_int, Tw.neg_int, Tw.imul_int, Tw.iadd_int, Tw.len_lst, Tw.len_tup, Tw.ix_lst, Tw.ix_tup, Tw.tuple_lst, Tw.tuple_tup, Tw.list_lst, Tw.list_tup, Tw.abs_int, Tw.intC_int, Tw.intC_bl, Tw.all_lst, Tw.any_lst, Tw.isi_2, Tw.tag_non, Tw.tag_bl, Tw.tag_int, Tw.tag_str, Tw.tag_tup, Tw.tag_lst, Tw.tag_obj, Tw.asT_ty, Tw.asT_cl, Tw.frz_int, Tw.frz_bl, Tw.frz_non, Tw.frz_ty, Tw.frz_cl, Tw.frz_scr, Tw.frz_tup, Tw.frz_lst, Tw.frz_obj, Tw.frzs_nil, Tw.frzs_cons, Tw.ok_int, Tw.ok_bl, Tw.ok_non, Tw.ok_tup, Tw.ok_lst, Tw.ok_obj, Tw.doks_nil, Tw.doks_cons, Tw.sl_scr, Tw.sl_lst, Tw.sl_tup, Tw.rev_lst, Tw.rev_tup, Tw.eq_int, Tw.ne_int, Tw.e_kcpB, Tw.e_cpB, Tw.e_compB, Tw.e_fgN, Tw.e_fgC, Tw.e_fgB, Tw.e_fgRt, Tw.e_fgR, Tw.e_for0, Tw.e_for1, Tw.e_cgF, Tw.e_cgT, Tw.e_cgR, Tw.e_neo, Tw.e_cg0, Tw.e_cg1, Tw.e_c2A, Tw.e_c2I, Tw.e_c2T, Tw.e_c2R, Tw.e_c20, Tw.e_c21, Tw.at5_0, Tw.at5_1, Tw.at5_2, Tw.at5_3, Tw.at5_4, Tw.ix5_1, Tw.ix5_2, Tw.ix5_3, Tw.ix5_4, Tw.ints_map, Tw.add_tup, Tw.add_lst, Tw.oks_rows, Tw.frzs_rows, Tw.rows_len, Tw.oks_int, Tw.frzs_int, Tw.oks_tI, Tw.ok_tI, Tw.frz_tI, Tw.e_bok, Tw.e_sbok, List.map_cons, List.map_nil, List.length_cons, List.length_nil, List.cons_append, List.nil_append, List.replicate, List.getElem?_cons_zero, List.getElem?_cons_succ, List.set_cons_zero, List.set_cons_succ, Option.bind_some, Option.map_some, Nat.zero_add, Nat.add_zero, Nat.reduceAdd, Nat.reduceSub, Nat.reduceLT, Nat.reduceLeDiff, Bool.and_true, Bool.true_and, Bool.and_self, Bool.not_true, Bool.not_false, Bool.false_and, Bool.and_false, Bool.or_true, Bool.true_or, Bool.or_false, Bool.false_or, if_true, if_false, Bool.false_eq_true, reduceCtorEq, ite_true, ite_false, decide_true, decide_false, decide_eq_true_eq, ne_eq, Int.reduceEq, not_false_eq_true, not_true_eq_false, List.length_map, Option.map_none, Int.reduceNeg]
        rw [← range_rows] at key
        have l3 : lenOk ((rows (grow ((allOf (sizes.take i)).take j) s)).length + (rows ((List.range s.toNat).map fun w : Nat => row ++ [(w : Int)])).length) = true := lenOk_of (by
          rw [rows_len, rows_len, grow_len, List.length_map, List.length_range, List.length_take]
          have : min j (allOf (sizes.take i)).length * s.toNat ≤ (allOf (sizes.take i)).length * s.toNat := Nat.mul_le_mul_right _ (Nat.min_le_right _ _)
          omega)
        rw [grow_more hj, rows_app]
        simp only [hr, rngD_0, ls, key, List.length_range, ext_lst, l3, List.length_map (f := fun w : Nat => D.int (w : Int)), Tw.e_run, Tw.e_rtR, Tw.e_rtX, Tw.e_rtN, Tw.e_io_nil, Tw.e_io_one, Tw.e_ioR1, Tw.e_seq, Tw.e_seqN, Tw.e_seqR, Tw.e_seqB, Tw.e_seqC, Tw.e_sNil, Tw.e_sBrk, Tw.e_sCont, Tw.e_sRet, Tw.e_sExpr, Tw.e_sIf, Tw.e_sAsg, Tw.e_nxR, Tw.e_bNm, Tw.e_sPar, Tw.e_sFor, Tw.e_sAug, Tw.e_augR, Tw.e_own, Tw.e_ownR, Tw.e_stR2, Tw.e_sStore, Tw.e_stR, Tw.e_stR3, Tw.e_m1R, Tw.e_m1S, Tw.e_m1T, Tw.e_mt1, Tw.e_m0S, Tw.e_mt0, Tw.e_var, Tw.e_varR, Tw.e_move, Tw.e_moveR, Tw.e_K, Tw.e_nil, Tw.e_val, Tw.e_slot, Tw.e_slotR, Tw.e_gnil, Tw.e_gval, Tw.e_gvR, Tw.e_gslot, Tw.e_gsR, Tw.e_gR, Tw.e_gpR, Tw.e_N, Tw.e_vals0, Tw.e_vals1, Tw.e_tup, Tw.e_lst, Tw.e_and, Tw.e_andT, Tw.e_andF, Tw.e_or, Tw.e_orT, Tw.e_orF, Tw.e_not, Tw.e_notR, Tw.e_bE, Tw.e_bR, Tw.e_bAnd, Tw.e_bOr, Tw.e_bNot, Tw.e_bTrue, Tw.e_if, Tw.e_chR2, Tw.e_chRT, Tw.e_chRF, Tw.e_chain, Tw.e_part0, Tw.e_part, Tw.e_partR, Tw.e_sl, Tw.e_rev, Tw.e_kval, Tw.e_kval2, Tw.e_kN, Tw.e_ktup, Tw.e_klst, Tw.e_kand, Tw.e_kor, Tw.e_knot, Tw.e_kbE, Tw.e_kbAnd, Tw.e_kbOr, Tw.e_kbNot, Tw.e_kif, Tw.e_kpart, Tw.e_krev, Tw.e_kcall, Tw.e_ksRet, Tw.e_ksExpr, Tw.e_ksIf, Tw.e_ksAsg, Tw.e_ksFor, Tw.e_ksStore, Tw.e_kstR, Tw.e_km1T, Tw.e_kiSeq, Tw.e_kiRng, Tw.e_kiZip, Tw.e_kmake, Tw.e_kfset, Tw.e_kchRT, Tw.e_kchain2, Tw.e_kchain, Tw.e_ksl, Tw.e_ksl2, Tw.e_ksl3, Tw.e_ksPar, Tw.e_ksPar2, Tw.e_ksAug, Tw.e_ksAug2, Tw.e_kcp3, Tw.e_kcomp, Tw.e_kcomp2, Tw.e_coR, Tw.e_kco2, Tw.e_kco, Tw.e_co, Tw.e_callR, Tw.e_call, Tw.e_io0, Tw.e_io1, Tw.e_io1R, Tw.e_itR, Tw.e_iSeq, Tw.e_rgR, Tw.e_iRng, Tw.e_zpR, Tw.e_iZip, Tw.e_comp, Tw.e_comp2, Tw.e_wipe0, Tw.e_wipe1, Tw.e_bTp, Tw.e_bNil, Tw.e_bCons, Tw.e_mkR, Tw.e_make, Tw.e_fset, Tw.e_fsR, Tw.e_oo, Tw.e_ooR, Tw.e_coR2, Tw.tru_non, Tw.tru_bl, Tw.tru_int, Tw.tru_tup, Tw.tru_lst, Tw.asI_int, Tw.ints_nil, Tw.ints_cons, Tw.items_lst, Tw.items_tup, Tw.seqK_lst, Tw.seqK_tup, Tw.isN_int, Tw.isN_non, Tw.isN_tup, Tw.notN_int, Tw.notN_non, Tw.notN_tup, Tw.mul_int, Tw.add_int, Tw.sub_int, Tw.fdiv_int, Tw.mod_int, Tw.pow_int, Tw.lt_int, Tw.le_int, Tw.gt_int, Tw.ge_int, Tw.neg_int, Tw.imul_int, Tw.iadd_int, Tw.len_lst, Tw.len_tup, Tw.ix_lst, Tw.ix_tup, Tw.tuple_lst, Tw.tuple_tup, Tw.list_lst, Tw.list_tup, Tw.abs_int, Tw.intC_int, Tw.intC_bl, Tw.all_lst, Tw.any_lst, Tw.isi_2, Tw.tag_non, Tw.tag_bl, Tw.tag_int, Tw.tag_str, Tw.tag_tup, Tw.tag_lst, Tw.tag_obj, Tw.asT_ty, Tw.asT_cl, Tw.frz_int, Tw.frz_bl, Tw.frz_non, Tw.frz_ty, Tw.frz_cl, Tw.frz_scr, Tw.frz_tup, Tw.frz_lst, Tw.frz_obj, Tw.frzs_nil, Tw.frzs_cons, Tw.ok_int, Tw.ok_bl, Tw.ok_non, Tw.ok_tup, Tw.ok_lst, Tw.ok_obj, Tw.doks_nil, Tw.doks_cons, Tw.sl_scr, Tw.sl_lst, Tw.sl_tup, Tw.rev_lst, Tw.rev_tup, Tw.eq_int, Tw.ne_int, Tw.e_kcpB, Tw.e_cpB, Tw.e_compB, Tw.e_fgN, Tw.e_fgC, Tw.e_fgB, Tw.e_fgRt, Tw.e_fgR, Tw.e_for0, Tw.e_for1, Tw.e_cgF, Tw.e_cgT, Tw.e_cgR, Tw.e_neo, Tw.e_cg0, Tw.e_cg1, Tw.e_c2A, Tw.e_c2I, Tw.e_c2T, Tw.e_c2R, Tw.e_c20, Tw.e_c21, Tw.at5_0, Tw.at5_1, Tw.at5_2, Tw.at5_3, Tw.at5_4, Tw.ix5_1, Tw.ix5_2, Tw.ix5_3, Tw.ix5_4, Tw.ints_map, Tw.add_tup, Tw.add_lst, Tw.oks_rows, Tw.frzs_rows, Tw.oks_int, Tw.frzs_int, Tw.oks_tI, Tw.ok_tI, Tw.frz_tI, Tw.e_bok, Tw.e_sbok, List.map_cons, List.map_nil, List.length_cons, List.length_nil, List.cons_append, List.nil_append, List.replicate, List.getElem?_cons_zero, List.getElem?_cons_succ, List.set_cons_zero, List.set_cons_succ, Option.bind_some, Option.map_some, Nat.zero_add, Nat.add_zero, Nat.reduceAdd, Nat.reduceSub, Nat.reduceLT, Nat.reduceLeDiff, Bool.and_true, Bool.true_and, Bool.and_self, Bool.not_true, Bool.not_false, Bool.false_and, Bool.and_false, Bool.or_true, Bool.true_or, Bool.or_false, Bool.false_or, if_true, if_false, Bool.false_eq_true, reduceCtorEq, ite_true, ite_false, decide_true, decide_false, decide_eq_true_eq, ne_eq, Int.reduceEq, not_false_eq_true, not_true_eq_false, Option.map_none, Int.reduceNeg])
    rw [Nat.zero_add, List.take_length] at e
    have e' : forGo (bNm 4) (sSeq (sExpr (fMt1 3 gExtend (fComp [5] (iRng [(fVar 2)]) (bNm 5) bTrue (fN gAdd [(.val (fVar 4)), (.val (fTup [(fVar 5)]))])))) sNil) (rows (allOf (sizes.take i))) [some d0, some (.lst false (rows (allOf (sizes.take i)))), some (.int s), some (.lst true []), y4, none] = _ := e
    refine ⟨_, ⟨false, some (.int s), some (.lst false (rows (allOf (sizes.take (i + 1))))), z4, rfl⟩, fun ds => ?_⟩
    rw [take_more his]
    simp only [e', Tw.e_run, Tw.e_rtR, Tw.e_rtX, Tw.e_rtN, Tw.e_io_nil, Tw.e_io_one, Tw.e_ioR1, Tw.e_seq, Tw.e_seqN, Tw.e_seqR, Tw.e_seqB, Tw.e_seqC, Tw.e_sNil, Tw.e_sBrk, Tw.e_sCont, Tw.e_sRet, Tw.e_sExpr, Tw.e_sIf, Tw.e_sAsg, Tw.e_nxR, Tw.e_bNm, Tw.e_sPar, Tw.e_sFor, Tw.e_sAug, Tw.e_augR, Tw.e_own, Tw.e_ownR, Tw.e_stR2, Tw.e_sStore, Tw.e_stR, Tw.e_stR3, Tw.e_m1R, Tw.e_m1S, Tw.e_m1T, Tw.e_mt1, Tw.e_m0S, Tw.e_mt0, Tw.e_var, Tw.e_varR, Tw.e_move, Tw.e_moveR, Tw.e_K, Tw.e_nil, Tw.e_val, Tw.e_slot, Tw.e_slotR, Tw.e_gnil, Tw.e_gval, Tw.e_gvR, Tw.e_gslot, Tw.e_gsR, Tw.e_gR, Tw.e_gpR, Tw.e_N, Tw.e_vals0, Tw.e_vals1, Tw.e_tup, Tw.e_lst, Tw.e_and, Tw.e_andT, Tw.e_andF, Tw.e_or, Tw.e_orT, Tw.e_orF, Tw.e_not, Tw.e_notR, Tw.e_bE, Tw.e_bR, Tw.e_bAnd, Tw.e_bOr, Tw.e_bNot, Tw.e_bTrue, Tw.e_if, Tw.e_chR2, Tw.e_chRT, Tw.e_chRF, Tw.e_chain, Tw.e_part0, Tw.e_part, Tw.e_partR, Tw.e_sl, Tw.e_rev, Tw.e_kval, Tw.e_kval2, Tw.e_kN, Tw.e_ktup, Tw.e_klst, Tw.e_kand, Tw.e_kor, Tw.e_knot, Tw.e_kbE, Tw.e_kbAnd, Tw.e_kbOr, Tw.e_kbNot, Tw.e_kif, Tw.e_kpart, Tw.e_krev, Tw.e_kcall, Tw.e_ksRet, Tw.e_ksExpr, Tw.e_ksIf, Tw.e_ksAsg, Tw.e_ksFor, Tw.e_ksStore, Tw.e_kstR, Tw.e_km1T, Tw.e_kiSeq, Tw.e_kiRng, Tw.e_kiZip, Tw.e_kmake, Tw.e_kfset, Tw.e_kchRT, Tw.e_kchain2, Tw.e_kchain, Tw.e_ksl, Tw.e_ksl2, Tw.e_ksl3, Tw.e_ksPar, Tw.e_ksPar2, Tw.e_ksAug, Tw.e_ksAug2, Tw.e_kcp3, Tw.e_kcomp, Tw.e_kcomp2, Tw.e_coR, Tw.e_kco2, Tw.e_kco, Tw.e_co, Tw.e_callR, Tw.e_call, Tw.e_io0, Tw.e_io1, Tw.e_io1R, Tw.e_itR, Tw.e_iSeq, Tw.e_rgR, Tw.e_iRng, Tw.e_zpR, Tw.e_iZip, Tw.e_comp, Tw.e_comp2, Tw.e_wipe0, Tw.e_wipe1, Tw.e_bTp, Tw.e_bNil, Tw.e_bCons, Tw.e_mkR, Tw.e_make, Tw.e_fset, Tw.e_fsR, Tw.e_oo, Tw.e_ooR, Tw.e_coR2, Tw.tru_non, Tw.tru_bl, Tw.tru_int, Tw.tru_tup, Tw.tru_lst, Tw.asI_int, Tw.ints_nil, Tw.ints_cons, Tw.items_lst, Tw.items_tup, Tw.seqK_lst, Tw.seqK_tup, Tw.isN_int, Tw.isN_non, Tw.isN_tup, Tw.notN_int, Tw.notN_non, Tw.notN_tup, Tw.mul_int, Tw.add_int, Tw.sub_int, Tw.fdiv_int, Tw.mod_int, Tw.pow_int, Tw.lt_int, Tw.le_int, Tw.gt_int, Tw.ge_int, Tw.neg_int, Tw.imul_int, Tw.iadd_int, Tw.len_lst, Tw.len_tup, Tw.ix_lst, Tw.ix_tup, Tw.tuple_lst, Tw.tuple_tup, Tw.list_lst, Tw.list_tup, Tw.abs_int, Tw.intC_int, Tw.intC_bl, Tw.all_lst, Tw.any_lst, Tw.isi_2, Tw.tag_non, Tw.tag_bl, Tw.tag_int, Tw.tag_str, Tw.tag_tup, Tw.tag_lst, Tw.tag_obj, Tw.asT_ty, Tw.asT_cl, Tw.frz_int, Tw.frz_bl, Tw.frz_non, Tw.frz_ty, Tw.frz_cl, Tw.frz_scr, Tw.frz_tup, Tw.frz_lst, Tw.frz_obj, Tw.frzs_nil, Tw.frzs_cons, Tw.ok_int, Tw.ok_bl, Tw.ok_non, Tw.ok_tup, Tw.ok_lst, Tw.ok_obj, Tw.doks_nil, Tw.doks_cons, Tw.sl_scr, Tw.sl_lst, Tw.sl_tup, Tw.rev_lst, Tw.rev_tup, Tw.eq_int, Tw.ne_int, Tw.e_kcpB, Tw.e_cpB, Tw.e_compB, Tw.e_fgN, Tw.e_fgC, Tw.e_fgB, Tw.e_fgRt, Tw.e_fgR, Tw.e_for0, Tw.e_for1, Tw.e_cgF, Tw.e_cgT, Tw.e_cgR, Tw.e_neo, Tw.e_cg0, Tw.e_cg1, Tw.e_c2A, Tw.e_c2I, Tw.e_c2T, Tw.e_c2R, Tw.e_c20, Tw.e_c21, Tw.at5_0, Tw.at5_1, Tw.at5_2, Tw.at5_3, Tw.at5_4, Tw.ix5_1, Tw.ix5_2, Tw.ix5_3, Tw.ix5_4, Tw.ints_map, Tw.add_tup, Tw.add_lst, Tw.oks_rows, Tw.frzs_rows, Tw.rows_len, Tw.oks_int, Tw.frzs_int, Tw.oks_tI, Tw.ok_tI, Tw.frz_tI, Tw.e_bok, Tw.e_sbok, List.map_cons, List.map_nil, List.length_cons, List.length_nil, List.cons_append, List.nil_append, List.replicate, List.getElem?_cons_zero, List.getElem?_cons_succ, List.set_cons_zero, List.set_cons_succ, Option.bind_some, Option.map_some, Nat.zero_add, Nat.add_zero, Nat.reduceAdd, Nat.reduceSub, Nat.reduceLT, Nat.reduceLeDiff, Bool.and_true, Bool.true_and, Bool.and_self, Bool.not_true, Bool.not_false, Bool.false_and, Bool.and_false, Bool.or_true, Bool.true_or, Bool.or_false, Bool.false_or, if_true, if_false, Bool.false_eq_true, reduceCtorEq, ite_true, ite_false, decide_true, decide_false, decide_eq_true_eq, ne_eq, Int.reduceEq, not_false_eq_true, not_true_eq_false, List.length_map, Option.map_none, Int.reduceNeg]
end K01
namespace K01
open PySem PySem.Spec PyProof.Rows L2 Tw
theorem all_ok' {d d0 : D} {sizes : List Int} (hd : D.frz d = d0) (hi : D.items d0 = some (sizes.map .int)) (h : ∀ s ∈ sizes, 0 ≤ s ∧ s ≤ 4) (hl : sizes.length ≤ 6) : ∃ m, h__law_all [d] = .ret (.lst m (rows (allOf sizes))) [] := by
  rcases all_ok hd hi h hl with e | e
  · exact ⟨_, e⟩
  · exact ⟨_, e⟩
theorem ljoints_ok {sizes lot : List Int} (hb : ∀ s ∈ sizes, 0 ≤ s ∧ s ≤ 4) (hl : ∀ p ∈ lot, 0 ≤ p ∧ p < sizes.length) (l : lot.length ≤ 6) : ∃ m, h__law_joints [.tup (sizes.map .int), .tup (lot.map .int)] = .ret (.lst m (rows (allOf (atLot sizes lot)))) [] := by
  have l1 : lenOk lot.length = true := lenOk_of (by omega)
  have key := at_comp (vs := []) hl
  obtain ⟨m, e⟩ := all_ok' (d := .lst true ((atLot sizes lot).map .int)) (d0 := .lst false ((atLot sizes lot).map .int)) (sizes := atLot sizes lot) (by rw [Tw.frz_lst, frzs_int]) (by rw [Tw.items_lst, oks_int]; rfl) (at_b hb hl) (by unfold atLot; rw [List.length_map]; exact l)
  exact ⟨m, by simp only [h__law_joints, b__law_joints, l1, key, e, Tw.e_run, Tw.e_rtR, Tw.e_rtX, Tw.e_rtN, Tw.e_io_nil, Tw.e_io_one, Tw.e_ioR1, Tw.e_seq, Tw.e_seqN, Tw.e_seqR, Tw.e_seqB, Tw.e_seqC, Tw.e_sNil, Tw.e_sBrk, Tw.e_sCont, Tw.e_sRet, Tw.e_sExpr, Tw.e_sIf, Tw.e_sAsg, Tw.e_nxR, Tw.e_bNm, Tw.e_sPar, Tw.e_sFor, Tw.e_sAug, Tw.e_augR, Tw.e_own, Tw.e_ownR, Tw.e_stR2, Tw.e_sStore, Tw.e_stR, Tw.e_stR3, Tw.e_m1R, Tw.e_m1S, Tw.e_m1T, Tw.e_mt1, Tw.e_m0S, Tw.e_mt0, Tw.e_var, Tw.e_varR, Tw.e_move, Tw.e_moveR, Tw.e_K, Tw.e_nil, Tw.e_val, Tw.e_slot, Tw.e_slotR, Tw.e_gnil, Tw.e_gval, Tw.e_gvR, Tw.e_gslot, Tw.e_gsR, Tw.e_gR, Tw.e_gpR, Tw.e_N, Tw.e_vals0, Tw.e_vals1, Tw.e_tup, Tw.e_lst, Tw.e_and, Tw.e_andT, Tw.e_andF, Tw.e_or, Tw.e_orT, Tw.e_orF, Tw.e_not, Tw.e_notR, Tw.e_bE, Tw.e_bR, Tw.e_bAnd, Tw.e_bOr, Tw.e_bNot, Tw.e_bTrue, Tw.e_if, Tw.e_chR2, Tw.e_chRT, Tw.e_chRF, Tw.e_chain, Tw.e_part0, Tw.e_part, Tw.e_partR, Tw.e_sl, Tw.e_rev, Tw.e_kval, Tw.e_kval2, Tw.e_kN, Tw.e_ktup, Tw.e_klst, Tw.e_kand, Tw.e_kor, Tw.e_knot, Tw.e_kbE, Tw.e_kbAnd, Tw.e_kbOr, Tw.e_kbNot, Tw.e_kif, Tw.e_kpart, Tw.e_krev, Tw.e_kcall, Tw.e_ksRet, Tw.e_ksExpr, Tw.e_ksIf, Tw.e_ksAsg, Tw.e_ksFor, Tw.e_ksStore, Tw.e_kstR, Tw.e_km1T, Tw.e_kiSeq, Tw.e_kiRng, Tw.e_kiZip, Tw.e_kmake, Tw.e_kfset, Tw.e_kchRT, Tw.e_kchain2, Tw.e_kchain, Tw.e_ksl, Tw.e_ksl2, Tw.e_ksl3, Tw.e_ksPar, Tw.e_ksPar2, Tw.e_ksAug, Tw.e_ksAug2, Tw.e_kcp3, Tw.e_kcomp, Tw.e_kcomp2, Tw.e_coR, Tw.e_kco2, Tw.e_kco, Tw.e_co, Tw.e_callR, Tw.e_call, Tw.e_io0, Tw.e_io1, Tw.e_io1R, Tw.e_itR, Tw.e_iSeq, Tw.e_rgR, Tw.e_iRng, Tw.e_zpR, Tw.e_iZip, Tw.e_comp, Tw.e_comp2, Tw.e_wipe0, Tw.e_wipe1, Tw.e_bTp, Tw.e_bNil, Tw.e_bCons, Tw.e_mkR, Tw.e_make, Tw.e_fset, Tw.e_fsR, Tw.e_oo, Tw.e_ooR, Tw.e_coR2, Tw.tru_non, Tw.tru_bl, Tw.tru_int, Tw.tru_tup, Tw.tru_lst, Tw.asI_int, Tw.ints_nil, Tw.ints_cons, Tw.items_lst, Tw.items_tup, Tw.seqK_lst, Tw.seqK_tup, Tw.isN_int, Tw.isN_non, Tw.isN_tup, Tw.notN_int, Tw.notN_non, Tw.notN_tup, Tw.mul_int, Tw.add_int, Tw.sub_int, Tw.fdiv_int, Tw.mod_int, Tw.pow_int, Tw.lt_int, Tw.le_int, Tw.gt_int, Tw.ge_int, Tw.neg_int, Tw.imul_int, Tw.iadd_int, Tw.len_lst, Tw.len_tup, Tw.ix_lst, Tw.ix_tup, Tw.tuple_lst, Tw.tuple_tup, Tw.list_lst, Tw.list_tup, Tw.abs_int, Tw.intC_int, Tw.intC_bl, Tw.all_lst, Tw.any_lst, Tw.isi_2, Tw.tag_non, Tw.tag_bl, Tw.tag_int, Tw.tag_str, Tw.tag_tup, Tw.tag_lst, Tw.tag_obj, Tw.asT_ty, Tw.asT_cl, Tw.frz_int, Tw.frz_bl, Tw.frz_non, Tw.frz_ty, Tw.frz_cl, Tw.frz_scr, Tw.frz_tup, Tw.frz_lst, Tw.frz_obj, Tw.frzs_nil, Tw.frzs_cons, Tw.ok_int, Tw.ok_bl, Tw.ok_non, Tw.ok_tup, Tw.ok_lst, Tw.ok_obj, Tw.doks_nil, Tw.doks_cons, Tw.sl_scr, Tw.sl_lst, Tw.sl_tup, Tw.rev_lst, Tw.rev_tup, Tw.eq_int, Tw.ne_int, Tw.e_kcpB, Tw.e_cpB, Tw.e_compB, Tw.e_fgN, Tw.e_fgC, Tw.e_fgB, Tw.e_fgRt, Tw.e_fgR, Tw.e_for0, Tw.e_for1, Tw.e_cgF, Tw.e_cgT, Tw.e_cgR, Tw.e_neo, Tw.e_cg0, Tw.e_cg1, Tw.e_c2A, Tw.e_c2I, Tw.e_c2T, Tw.e_c2R, Tw.e_c20, Tw.e_c21, Tw.at5_0, Tw.at5_1, Tw.at5_2, Tw.at5_3, Tw.at5_4, Tw.ix5_1, Tw.ix5_2, Tw.ix5_3, Tw.ix5_4, Tw.ints_map, Tw.add_tup, Tw.add_lst, Tw.oks_rows, Tw.frzs_rows, Tw.rows_len, Tw.oks_int, Tw.frzs_int, Tw.oks_tI, Tw.ok_tI, Tw.frz_tI, Tw.e_bok, Tw.e_sbok, List.map_cons, List.map_nil, List.length_cons, List.length_nil, List.cons_append, List.nil_append, List.replicate, List.getElem?_cons_zero, List.getElem?_cons_succ, List.set_cons_zero, List.set_cons_succ, Option.bind_some, Option.map_some, Nat.zero_add, Nat.add_zero, Nat.reduceAdd, Nat.reduceSub, Nat.reduceLT, Nat.reduceLeDiff, Bool.and_true, Bool.true_and, Bool.and_self, Bool.not_true, Bool.not_false, Bool.false_and, Bool.and_false, Bool.or_true, Bool.true_or, Bool.or_false, Bool.false_or, if_true, if_false, Bool.false_eq_true, reduceCtorEq, ite_true, ite_false, decide_true, decide_false, decide_eq_true_eq, ne_eq, Int.reduceEq, not_false_eq_true, not_true_eq_false, List.length_map, Option.map_none, Int.reduceNeg]⟩
/-! ### all lots -/
def lots : Nat → List (List Int)
  | 0 => [[]]
  | k + 1 => lots k ++ (lots k).map fun l => l ++ [(k : Int)]
theorem lots_len : ∀ k, (lots k).length = 2 ^ k
  | 0 => rfl
  | k + 1 => by rw [lots, List.length_append, List.length_map, lots_len k, Nat.pow_succ]; omega
theorem up_more : ∀ {l : List Int} {a m m' : Int}, Up a l m → a + 1 ≤ m → m + 1 ≤ m' → Up a (l ++ [m]) m'
  | [], a, m, m', _, h, h2 => ⟨h, by omega, trivial⟩
  | x :: r, a, m, m', ⟨h1, h2, h3⟩, h, h4 => ⟨h1, by omega, up_more h3 (by omega) h4⟩
theorem up_mono : ∀ {l : List Int} {a m m' : Int}, Up a l m → m ≤ m' → Up a l m'
  | [], _, _, _, _, _ => trivial
  | x :: r, a, m, m', ⟨h1, h2, h3⟩, h => ⟨h1, by omega, up_mono h3 h⟩
theorem lots_up : ∀ (k : Nat) (l : List Int), l ∈ lots k → Up (-1) l k
  | 0, l, h => by rw [List.mem_singleton.mp h]; trivial
  | k + 1, l, h => by
    rw [lots, List.mem_append, List.mem_map] at h
    rcases h with h | ⟨l', h, rfl⟩
    · exact up_mono (lots_up k l h) (by omega)
    · exact up_more (lots_up k l' h) (by omega) (by omega)
theorem map_rows (ls : List (List Int)) (k : Int) : rows (ls.map fun l => l ++ [k]) = ls.map fun l => D.tup (l.map .int ++ [.int k]) := by
  unfold rows
  rw [List.map_map]
  exact List.map_congr_left fun w _ => by simp
theorem lots_ok {n : Nat} (h : n ≤ 6) : h__law_lots [.int n] = .ret (.lst true (rows (lots n))) [] := by
  obtain ⟨env', ⟨y, rfl⟩, e⟩ := for_ind (bd := bNm 2) (g := fun i : Nat => D.int (i : Int)) (body := sSeq (sAsg (bNm 1) (fN gAdd [(.val (fVar 1)), (.val (fComp [3] (iSeq (fVar 1)) (bNm 3) bTrue (fN gAdd [(.val (fVar 3)), (.val (fTup [(fVar 2)]))])))])) sNil)
    (fun i env => ∃ y, env = [some (.int n), some (.lst true (rows (lots i))), y, none]) (List.range n) 0 [some (.int n), some (.lst true [.tup []]), none, none] ⟨none, rfl⟩ (by
      rintro i x env hi ⟨y, rfl⟩
      rw [Nat.zero_add]
      obtain ⟨il, rfl⟩ : i < n ∧ x = i := by
        obtain ⟨a, b⟩ := List.getElem?_eq_some_iff.mp hi
        rw [List.length_range] at a
        rw [List.getElem_range] at b
        exact ⟨a, b.symm⟩
      have p : 2 ^ x ≤ 2 ^ 6 := Nat.pow_le_pow_right (by decide) (by omega)
      have e64 : (2 : Nat) ^ 6 = 64 := by decide
      rw [e64] at p
      have ll := lots_len x
      refine ⟨_, ⟨some (.int x), rfl⟩, fun ds => ?_⟩
      have l1 : lenOk (rows (lots x)).length = true := lenOk_of (by rw [rows_len]; omega)
      have key := comp_map1 (vs := [3]) (b := bNm 3) (t := bTrue) (f := fN gAdd [.val (fVar 3), .val (fTup [fVar 2])]) (g := fun ns : List Int => D.tup (ns.map .int)) (env := [some (.int n), some (.lst false (rows (lots x))), some (.int x), none])
        (fun l => D.tup (l.map .int ++ [.int (x : Int)])) (lots x) fun l hl ds acc => by
          have hu := up_len (lots_up x l hl) (by omega)
          have l2 : lenOk (l.length + 1) = true := lenOk_of (by omega)
          simp only [l2, Tw.e_run, Tw.e_rtR, Tw.e_rtX, Tw.e_rtN, Tw.e_io_nil, Tw.e_io_one, Tw.e_ioR1, Tw.e_seq, Tw.e_seqN, Tw.e_seqR, Tw.e_seqB, Tw.e_seqC, Tw.e_sNil, Tw.e_sBrk, Tw.e_sCont, Tw.e_sRet, Tw.e_sExpr, Tw.e_sIf, Tw.e_sAsg, Tw.e_nxR, Tw.e_bNm, Tw.e_sPar, Tw.e_sFor, Tw.e_sAug, Tw.e_augR, Tw.e_own, Tw.e_ownR, Tw.e_stR2, Tw.e_sStore, Tw.e_stR, Tw.e_stR3, Tw.e_m1R, Tw.e_m1S, Tw.e_m1T, Tw.e_mt1, Tw.e_m0S, Tw.e_mt0, Tw.e_var, Tw.e_varR, Tw.e_move, Tw.e_moveR, Tw.e_K, Tw.e_nil, Tw.e_val, Tw.e_slot, Tw.e_slotR, Tw.e_gnil, Tw.e_gval, Tw.e_gvR, Tw.e_gslot, Tw.e_gsR, Tw.e_gR, Tw.e_gpR, Tw.e_N, Tw.e_vals0, Tw.e_vals1, Tw.e_tup, Tw.e_lst, Tw.e_and, Tw.e_andT, Tw.e_andF, Tw.e_or, Tw.e_orT, Tw.e_orF, Tw.e_not, Tw.e_notR, Tw.e_bE, Tw.e_bR, Tw.e_bAnd, Tw.e_bOr, Tw.e_bNot, Tw.e_bTrue, Tw.e_if, Tw.e_chR2, Tw.e_chRT, Tw.e_chRF, Tw.e_chain, Tw.e_part0, Tw.e_part, Tw.e_partR, Tw.e_sl, Tw.e_rev, Tw.e_kval, Tw.e_kval2, Tw.e_kN, Tw.e_ktup, Tw.e_klst, Tw.e_kand, Tw.e_kor, Tw.e_knot, Tw.e_kbE, Tw.e_kbAnd, Tw.e_kbOr, Tw.e_kbNot, Tw.e_kif, Tw.e_kpart, Tw.e_krev, Tw.e_kcall, Tw.e_ksRet, Tw.e_ksExpr, Tw.e_ksIf, Tw.e_ksAsg, Tw.e_ksFor, Tw.e_ksStore, Tw.e_kstR, Tw.e_km1T, Tw.e_kiSeq, Tw.e_kiRng, Tw.e_kiZip, Tw.e_kmake, Tw.e_kfset, Tw.e_kchRT, Tw.e_kchain2, Tw.e_kchain, Tw.e_ksl, Tw.e_ksl2, Tw.e_ksl3, Tw.e_ksPar, Tw.e_ksPar2, Tw.e_ksAug, Tw.e_ksAug2, Tw.e_kcp3, Tw.e_kcomp, Tw.e_kcomp2, Tw.e_coR, Tw.e_kco2, Tw.e_kco, Tw.e_co, Tw.e_callR, Tw.e_call, Tw.e_io0, Tw.e_io1, Tw.e_io1R, Tw.e_itR, Tw.e_iSeq, Tw.e_rgR, Tw.e_iRng, Tw.e_zpR, Tw.e_iZip, Tw.e_comp, Tw.e_comp2, Tw.e_wipe0, Tw.e_wipe1, Tw.e_bTp, Tw.e_bNil, Tw.e_bCons, Tw.e_mkR, Tw.e_make, Tw.e_fset, Tw.e_fsR, Tw.e_oo, Tw.e_ooR, Tw.e_coR2, Tw.tru_non, Tw.tru_bl, Tw.tru_int, Tw.tru_tup, Tw.tru_lst, Tw.asI_int, Tw.ints_nil, Tw.ints_cons, Tw.items_lst, Tw.items_tup, Tw.seqK_lst, Tw.seqK_tup, Tw.isN_int, Tw.isN_non, Tw.isN_tup, Tw.notN_int, Tw.notN_non, Tw.notN_tup, Tw.mul_int, Tw.add_int, Tw.sub_int, Tw.fdiv_int, Tw.mod_int, Tw.pow_int, Tw.lt_int, Tw.le_int, Tw.gt_int, Tw.ge_int, Tw.neg_int, Tw.imul_int, Tw.iadd_int, Tw.len_lst, Tw.len_tup, Tw.ix_lst, Tw.ix_tup, Tw.tuple_lst, Tw.tuple_tup, Tw.list_lst, Tw.list_tup, Tw.abs_int, Tw.intC_int, Tw.intC_bl, Tw.all_lst, Tw.any_lst, Tw.isi_2, Tw.tag_non, Tw.tag_bl, Tw.tag_int, Tw.tag_str, Tw.tag_tup, Tw.tag_lst, Tw.tag_obj, Tw.asT_ty, Tw.asT_cl, Tw.frz_int, Tw.frz_bl, Tw.frz_non, Tw.frz_ty, Tw.frz_cl, Tw.frz_scr, Tw.frz_tup, Tw.frz_lst, Tw.frz_obj, Tw.frzs_nil, Tw.frzs_cons, Tw.ok_int, Tw.ok_bl, Tw.ok_non, Tw.ok_tup, Tw.ok_lst, Tw.ok_obj, Tw.doks_nil, Tw.doks_cons, Tw.sl_scr, Tw.sl_lst, Tw.sl_tup, Tw.rev_lst, Tw.rev_tup, Tw.eq_int, Tw.ne_int, Tw.e_kcpB, Tw.e_cpB, Tw.e_compB, Tw.e_fgN, Tw.e_fgC, Tw.e_fgB, Tw.e_fgRt, Tw.e_fgR, Tw.e_for0, Tw.e_for1, Tw.e_cgF, Tw.e_cgT, Tw.e_cgR, Tw.e_neo, Tw.e_cg0, Tw.e_cg1, Tw.e_c2A, Tw.e_c2I, Tw.e_c2T, Tw.e_c2R, Tw.e_c20, Tw.e_c21, Tw.at5_0, Tw.at5_1, Tw.at5_2, Tw.at5_3, Tw.at5_4, Tw.ix5_1, Tw.ix5_2, Tw.ix5_3, Tw.ix5_4, Tw.ints_map, Tw.add_tup, Tw.add_lst, Tw.oks_rows, Tw.frzs_rows, Tw.rows_len, Tw.oks_int, Tw.frzs_int, Tw.oks_tI, Tw.ok_tI, Tw.frz_tI, Tw.e_bok, Tw.e_sbok, List.map_cons, List.map_nil, List.length_cons, List.length_nil, List.cons_append, List.nil_append, List.replicate, List.getElem?_cons_zero, List.getElem?_cons_succ, List.set_cons_zero, List.set_cons_succ, Option.bind_some, Option.map_some, Nat.zero_add, Nat.add_zero, Nat.reduceAdd, Nat.reduceSub, Nat.reduceLT, Nat.reduceLeDiff, Bool.and_true, Bool.true_and, Bool.and_self, Bool.not_true, Bool.not_false, Bool.false_and, Bool.and_false, Bool.or_true, Bool.true_or, Bool.or_false, Bool.false_or, if_true, if_false, Bool.false_eq_true, reduceCtorEq, ite_true, ite_false, decide_true, decide_false, decide_eq_true_eq, ne_eq, Int.reduceEq, not_false_eq_true, not_true_eq_false, List.length_map, Option.map_none, Int.reduceNeg]
      rw [← map_rows] at key
      have key' : compGo [3] (bNm 3) bTrue (fN gAdd [.val (fVar 3), .val (fTup [fVar 2])]) (rows (lots x)) [] [some (.int n), some (.lst false (rows (lots x))), some (.int x), none] = _ := key
      have l3 : lenOk ((rows (lots x)).length + (rows ((lots x).map fun l => l ++ [(x : Int)])).length) = true := lenOk_of (by rw [rows_len, rows_len, List.length_map]; omega)
      rw [lots, rows_app]
      simp only [l1, key', l3, Tw.e_run, Tw.e_rtR, Tw.e_rtX, Tw.e_rtN, Tw.e_io_nil, Tw.e_io_one, Tw.e_ioR1, Tw.e_seq, Tw.e_seqN, Tw.e_seqR, Tw.e_seqB, Tw.e_seqC, Tw.e_sNil, Tw.e_sBrk, Tw.e_sCont, Tw.e_sRet, Tw.e_sExpr, Tw.e_sIf, Tw.e_sAsg, Tw.e_nxR, Tw.e_bNm, Tw.e_sPar, Tw.e_sFor, Tw.e_sAug, Tw.e_augR, Tw.e_own, Tw.e_ownR, Tw.e_stR2, Tw.e_sStore, Tw.e_stR, Tw.e_stR3, Tw.e_m1R, Tw.e_m1S, Tw.e_m1T, Tw.e_mt1, Tw.e_m0S, Tw.e_mt0, Tw.e_var, Tw.e_varR, Tw.e_move, Tw.e_moveR, Tw.e_K, Tw.e_nil, Tw.e_val, Tw.e_slot, Tw.e_slotR, Tw.e_gnil, Tw.e_gval, Tw.e_gvR, Tw.e_gslot, Tw.e_gsR, Tw.e_gR, Tw.e_gpR, Tw.e_N, Tw.e_vals0, Tw.e_vals1, Tw.e_tup, Tw.e_lst, Tw.e_and, Tw.e_andT, Tw.e_andF, Tw.e_or, Tw.e_orT, Tw.e_orF, Tw.e_not, Tw.e_notR, Tw.e_bE, Tw.e_bR, Tw.e_bAnd, Tw.e_bOr, Tw.e_bNot, Tw.e_bTrue, Tw.e_if, Tw.e_chR2, Tw.e_chRT, Tw.e_chRF, Tw.e_chain, Tw.e_part0, Tw.e_part, Tw.e_partR, Tw.e_sl, Tw.e_rev, Tw.e_kval, Tw.e_kval2, Tw.e_kN, Tw.e_ktup, Tw.e_klst, Tw.e_kand, Tw.e_kor, Tw.e_knot, Tw.e_kbE, Tw.e_kbAnd, Tw.e_kbOr, Tw.e_kbNot, Tw.e_kif, Tw.e_kpart, Tw.e_krev, Tw.e_kcall, Tw.e_ksRet, Tw.e_ksExpr, Tw.e_ksIf, Tw.e_ksAsg, Tw.e_ksFor, Tw.e_ksStore, Tw.e_kstR, Tw.e_km1T, Tw.e_kiSeq, Tw.e_kiRng, Tw.e_kiZip, Tw.e_kmake, Tw.e_kfset, Tw.e_kchRT, Tw.e_kchain2, Tw.e_kchain, Tw.e_ksl, Tw.e_ksl2, Tw.e_ksl3, Tw.e_ksPar, Tw.e_ksPar2, Tw.e_ksAug, Tw.e_ksAug2, Tw.e_kcp3, Tw.e_kcomp, Tw.e_kcomp2, Tw.e_coR, Tw.e_kco2, Tw.e_kco, Tw.e_co, Tw.e_callR, Tw.e_call, Tw.e_io0, Tw.e_io1, Tw.e_io1R, Tw.e_itR, Tw.e_iSeq, Tw.e_rgR, Tw.e_iRng, Tw.e_zpR, Tw.e_iZip, Tw.e_comp, Tw.e_comp2, Tw.e_wipe0, Tw.e_wipe1, Tw.e_bTp, Tw.e_bNil, Tw.e_bCons, Tw.e_mkR, Tw.e_make, Tw.e_fset, Tw.e_fsR, Tw.e_oo, Tw.e_ooR, Tw.e_coR2, Tw.tru_non, Tw.tru_bl, Tw.tru_int, Tw.tru_tup, Tw.tru_lst, Tw.asI_int, Tw.ints_nil, Tw.ints_cons, Tw.items_lst, Tw.items_tup, Tw.seqK_lst, Tw.seqK_tup, Tw.isN_int, Tw.isN_non, Tw.isN_tup, Tw.notN_int, Tw.notN_non, Tw.notN_tup, Tw.mul_int, Tw.add_int, Tw.sub_int, Tw.fdiv_int, Tw.mod_int, Tw.pow_int, Tw.lt_int, Tw.le_int, Tw.gt_int, Tw.ge_int, Tw.neg_int, Tw.imul_int, Tw.iadd_int, Tw.len_lst, Tw.len_tup, Tw.ix_lst, Tw.ix_tup, Tw.tuple_lst, Tw.tuple_tup, Tw.list_lst, Tw.list_tup, Tw.abs_int, Tw.intC_int, Tw.intC_bl, Tw.all_lst, Tw.any_lst, Tw.isi_2, Tw.tag_non, Tw.tag_bl, Tw.tag_int, Tw.tag_str, Tw.tag_tup, Tw.tag_lst, Tw.tag_obj, Tw.asT_ty, Tw.asT_cl, Tw.frz_int, Tw.frz_bl, Tw.frz_non, Tw.frz_ty, Tw.frz_cl, Tw.frz_scr, Tw.frz_tup, Tw.frz_lst, Tw.frz_obj, Tw.frzs_nil, Tw.frzs_cons, Tw.ok_int, Tw.ok_bl, Tw.ok_non, Tw.ok_tup, Tw.ok_lst, Tw.ok_obj, Tw.doks_nil, Tw.doks_cons, Tw.sl_scr, Tw.sl_lst, Tw.sl_tup, Tw.rev_lst, Tw.rev_tup, Tw.eq_int, Tw.ne_int, Tw.e_kcpB, Tw.e_cpB, Tw.e_compB, Tw.e_fgN, Tw.e_fgC, Tw.e_fgB, Tw.e_fgRt, Tw.e_fgR, Tw.e_for0, Tw.e_for1, Tw.e_cgF, Tw.e_cgT, Tw.e_cgR, Tw.e_neo, Tw.e_cg0, Tw.e_cg1, Tw.e_c2A, Tw.e_c2I, Tw.e_c2T, Tw.e_c2R, Tw.e_c20, Tw.e_c21, Tw.at5_0, Tw.at5_1, Tw.at5_2, Tw.at5_3, Tw.at5_4, Tw.ix5_1, Tw.ix5_2, Tw.ix5_3, Tw.ix5_4, Tw.ints_map, Tw.add_tup, Tw.add_lst, Tw.oks_rows, Tw.frzs_rows, Tw.oks_int, Tw.frzs_int, Tw.oks_tI, Tw.ok_tI, Tw.frz_tI, Tw.e_bok, Tw.e_sbok, List.map_cons, List.map_nil, List.length_cons, List.length_nil, List.cons_append, List.nil_append, List.replicate, List.getElem?_cons_zero, List.getElem?_cons_succ, List.set_cons_zero, List.set_cons_succ, Option.bind_some, Option.map_some, Nat.zero_add, Nat.add_zero, Nat.reduceAdd, Nat.reduceSub, Nat.reduceLT, Nat.reduceLeDiff, Bool.and_true, Bool.true_and, Bool.and_self, Bool.not_true, Bool.not_false, Bool.false_and, Bool.and_false, Bool.or_true, Bool.true_or, Bool.or_false, Bool.false_or, if_true, if_false, Bool.false_eq_true, reduceCtorEq, ite_true, ite_false, decide_true, decide_false, decide_eq_true_eq, ne_eq, Int.reduceEq, not_false_eq_true, not_true_eq_false, List.length_map, Option.map_none, Int.reduceNeg])
  rw [Nat.zero_add, List.length_range] at e
  have hr : rngOf [(n : Int)] = some (0, n) := rngOf_n (by omega)
  simp only [h__law_lots, b__law_lots, hr, rngD_0, e, Tw.e_run, Tw.e_rtR, Tw.e_rtX, Tw.e_rtN, Tw.e_io_nil, Tw.e_io_one, Tw.e_ioR1, Tw.e_seq, Tw.e_seqN, Tw.e_seqR, Tw.e_seqB, Tw.e_seqC, Tw.e_sNil, Tw.e_sBrk, Tw.e_sCont, Tw.e_sRet, Tw.e_sExpr, Tw.e_sIf, Tw.e_sAsg, Tw.e_nxR, Tw.e_bNm, Tw.e_sPar, Tw.e_sFor, Tw.e_sAug, Tw.e_augR, Tw.e_own, Tw.e_ownR, Tw.e_stR2, Tw.e_sStore, Tw.e_stR, Tw.e_stR3, Tw.e_m1R, Tw.e_m1S, Tw.e_m1T, Tw.e_mt1, Tw.e_m0S, Tw.e_mt0, Tw.e_var, Tw.e_varR, Tw.e_move, Tw.e_moveR, Tw.e_K, Tw.e_nil, Tw.e_val, Tw.e_slot, Tw.e_slotR, Tw.e_gnil, Tw.e_gval, Tw.e_gvR, Tw.e_gslot, Tw.e_gsR, Tw.e_gR, Tw.e_gpR, Tw.e_N, Tw.e_vals0, Tw.e_vals1, Tw.e_tup, Tw.e_lst, Tw.e_and, Tw.e_andT, Tw.e_andF, Tw.e_or, Tw.e_orT, Tw.e_orF, Tw.e_not, Tw.e_notR, Tw.e_bE, Tw.e_bR, Tw.e_bAnd, Tw.e_bOr, Tw.e_bNot, Tw.e_bTrue, Tw.e_if, Tw.e_chR2, Tw.e_chRT, Tw.e_chRF, Tw.e_chain, Tw.e_part0, Tw.e_part, Tw.e_partR, Tw.e_sl, Tw.e_rev, Tw.e_kval, Tw.e_kval2, Tw.e_kN, Tw.e_ktup, Tw.e_klst, Tw.e_kand, Tw.e_kor, Tw.e_knot, Tw.e_kbE, Tw.e_kbAnd, Tw.e_kbOr, Tw.e_kbNot, Tw.e_kif, Tw.e_kpart, Tw.e_krev, Tw.e_kcall, Tw.e_ksRet, Tw.e_ksExpr, Tw.e_ksIf, Tw.e_ksAsg, Tw.e_ksFor, Tw.e_ksStore, Tw.e_kstR, Tw.e_km1T, Tw.e_kiSeq, Tw.e_kiRng, Tw.e_kiZip, Tw.e_kmake, Tw.e_kfset, Tw.e_kchRT, Tw.e_kchain2, Tw.e_kchain, Tw.e_ksl, Tw.e_ksl2, Tw.e_ksl3, Tw.e_ksPar, Tw.e_ksPar2, Tw.e_ksAug, Tw.e_ksAug2, Tw.e_kcp3, Tw.e_kcomp, Tw.e_kcomp2, Tw.e_coR, Tw.e_kco2, Tw.e_kco, Tw.e_co, Tw.e_callR, Tw.e_call, Tw.e_io0, Tw.e_io1, Tw.e_io1R, Tw.e_itR, Tw.e_iSeq, Tw.e_rgR, Tw.e_iRng, Tw.e_zpR, Tw.e_iZip, Tw.e_comp, Tw.e_comp2, Tw.e_wipe0, Tw.e_wipe1, Tw.e_bTp, Tw.e_bNil, Tw.e_bCons, Tw.e_mkR, Tw.e_make, Tw.e_fset, Tw.e_fsR, Tw.e_oo, Tw.e_ooR, Tw.e_coR2, Tw.tru_non, Tw.tru_bl, Tw.tru_int, Tw.tru_tup, Tw.tru_lst, Tw.asI_int, Tw.ints_nil, Tw.ints_cons, Tw.items_lst, Tw.items_tup, Tw.seqK_lst, Tw.seqK_tup, Tw.isN_int, Tw.isN_non, Tw.isN_tup, Tw.notN_int, Tw.notN_non, Tw.notN_tup, Tw.mul_int, Tw.add_int, Tw.sub_int, Tw.fdiv_int, Tw.mod_int, Tw.pow_int, Tw.lt_int, Tw.le_int, Tw.gt_int, Tw.ge_int, Tw.neg_int, Tw.imul_int, Tw.iadd_int, Tw.len_lst, Tw.len_tup, Tw.ix_lst, Tw.ix_tup, Tw.tuple_lst, Tw.tuple_tup, Tw.list_lst, Tw.list_tup, Tw.abs_int, Tw.intC_int, Tw.intC_bl, Tw.all_lst, Tw.any_lst, Tw.isi_2, Tw.tag_non, Tw.tag_bl, Tw.tag_int, Tw.tag_str, Tw.tag_tup, Tw.tag_lst, Tw.tag_obj, Tw.asT_ty, Tw.asT_cl, Tw.frz_int, Tw.frz_bl, Tw.frz_non, Tw.frz_ty, Tw.frz_cl, Tw.frz_scr, Tw.frz_tup, Tw.frz_lst, Tw.frz_obj, Tw.frzs_nil, Tw.frzs_cons, Tw.ok_int, Tw.ok_bl, Tw.ok_non, Tw.ok_tup, Tw.ok_lst, Tw.ok_obj, Tw.doks_nil, Tw.doks_cons, Tw.sl_scr, Tw.sl_lst, Tw.sl_tup, Tw.rev_lst, Tw.rev_tup, Tw.eq_int, Tw.ne_int, Tw.e_kcpB, Tw.e_cpB, Tw.e_compB, Tw.e_fgN, Tw.e_fgC, Tw.e_fgB, Tw.e_fgRt, Tw.e_fgR, Tw.e_for0, Tw.e_for1, Tw.e_cgF, Tw.e_cgT, Tw.e_cgR, Tw.e_neo, Tw.e_cg0, Tw.e_cg1, Tw.e_c2A, Tw.e_c2I, Tw.e_c2T, Tw.e_c2R, Tw.e_c20, Tw.e_c21, Tw.at5_0, Tw.at5_1, Tw.at5_2, Tw.at5_3, Tw.at5_4, Tw.ix5_1, Tw.ix5_2, Tw.ix5_3, Tw.ix5_4, Tw.ints_map, Tw.add_tup, Tw.add_lst, Tw.oks_rows, Tw.frzs_rows, Tw.rows_len, Tw.oks_int, Tw.frzs_int, Tw.oks_tI, Tw.ok_tI, Tw.frz_tI, Tw.e_bok, Tw.e_sbok, List.map_cons, List.map_nil, List.length_cons, List.length_nil, List.cons_append, List.nil_append, List.replicate, List.getElem?_cons_zero, List.getElem?_cons_succ, List.set_cons_zero, List.set_cons_succ, Option.bind_some, Option.map_some, Nat.zero_add, Nat.add_zero, Nat.reduceAdd, Nat.reduceSub, Nat.reduceLT, Nat.reduceLeDiff, Bool.and_true, Bool.true_and, Bool.and_self, Bool.not_true, Bool.not_false, Bool.false_and, Bool.and_false, Bool.or_true, Bool.true_or, Bool.or_false, Bool.false_or, if_true, if_false, Bool.false_eq_true, reduceCtorEq, ite_true, ite_false, decide_true, decide_false, decide_eq_true_eq, ne_eq, Int.reduceEq, not_false_eq_true, not_true_eq_false, List.length_map, Option.map_none, Int.reduceNeg]
/-! ### counting -/
def countGo (sizes : List Int) (st : List Int × Int) : List Int × Int := sizes.foldl (fun st s => (st.1 ++ [st.2.fmod s], st.2.fdiv s)) st
def counted (sizes : List Int) (n : Int) : List Int := (countGo sizes.reverse ([], n)).1.reverse
theorem append_1 (ds : List D) (y : D) : gAppend ds y = if lenOk (ds.length + 1) then some (.non, ds ++ [y]) else none := rfl
theorem counted_ok {sizes : List Int} {n : Int} (h : ∀ s ∈ sizes, 2 ≤ s ∧ s ≤ 4) (hl : sizes.length ≤ 6) : h__law_counted [.tup (sizes.map .int), .int n] = .ret (.tup ((counted sizes n).map .int)) [] := by
  obtain ⟨env', ⟨y, hb, rfl⟩, e⟩ := for_ind (bd := bNm 3) (g := D.int) (body := sSeq (sExpr (fMt1 2 gAppend (fN gMod [(.val (fN gIntC [(.val (fVar 1))])), (.val (fVar 3))]))) (sSeq (sAsg (bNm 1) (fN gFdiv [(.val (fN gIntC [(.val (fVar 1))])), (.val (fVar 3))])) sNil))
    (fun i env => ∃ y, (countGo (sizes.reverse.take i) ([], n)).1.length = i ∧ env = [some (.tup (sizes.map .int)), some (.int (countGo (sizes.reverse.take i) ([], n)).2), some (.lst true ((countGo (sizes.reverse.take i) ([], n)).1.map .int)), y]) sizes.reverse 0
    [some (.tup (sizes.map .int)), some (.int n), some (.lst true []), none] ⟨none, rfl, rfl⟩ (by
      rintro i s env hi ⟨y, hb, rfl⟩
      rw [Nat.zero_add] at hb ⊢
      have hs := h s (List.mem_reverse.mp (List.mem_of_getElem? hi))
      have il : i < sizes.length := by have := (List.getElem?_eq_some_iff.mp hi).1; rwa [List.length_reverse] at this
      have e2 : countGo (sizes.reverse.take (i + 1)) ([], n) = ((countGo (sizes.reverse.take i) ([], n)).1 ++ [(countGo (sizes.reverse.take i) ([], n)).2.fmod s], (countGo (sizes.reverse.take i) ([], n)).2.fdiv s) := by
        unfold countGo
        rw [List.take_add_one, hi, List.foldl_append]
        rfl
      rw [e2]
      generalize countGo (sizes.reverse.take i) ([], n) = st at hb
      obtain ⟨l, q⟩ := st
      refine ⟨_, ⟨some (.int s), by rw [List.length_append, hb]; rfl, rfl⟩, fun ds => ?_⟩
      have c0 : s ≠ 0 := by omega
      have cd : CDivN q s := ⟨c0, by omega⟩
      have l1 : lenOk (l.length + 1) = true := lenOk_of (by have : l.length = i := hb; omega)
      have em : (l ++ [q.fmod s]).map D.int = l.map .int ++ [.int (q.fmod s)] := by simp
      rw [em]
      simp only [c0, cd, append_1, l1, Tw.e_run, Tw.e_rtR, Tw.e_rtX, Tw.e_rtN, Tw.e_io_nil, Tw.e_io_one, Tw.e_ioR1, Tw.e_seq, Tw.e_seqN, Tw.e_seqR, Tw.e_seqB, Tw.e_seqC, Tw.e_sNil, Tw.e_sBrk, Tw.e_sCont, Tw.e_sRet, Tw.e_sExpr, Tw.e_sIf, Tw.e_sAsg, Tw.e_nxR, Tw.e_bNm, Tw.e_sPar, Tw.e_sFor, Tw.e_sAug, Tw.e_augR, Tw.e_own, Tw.e_ownR, Tw.e_stR2, Tw.e_sStore, Tw.e_stR, Tw.e_stR3, Tw.e_m1R, Tw.e_m1S, Tw.e_m1T, Tw.e_mt1, Tw.e_m0S, Tw.e_mt0, Tw.e_var, Tw.e_varR, Tw.e_move, Tw.e_moveR, Tw.e_K, Tw.e_nil, Tw.e_val, Tw.e_slot, Tw.e_slotR, Tw.e_gnil, Tw.e_gval, Tw.e_gvR, Tw.e_gslot, Tw.e_gsR, Tw.e_gR, Tw.e_gpR, Tw.e_N, Tw.e_vals0, Tw.e_vals1, Tw.e_tup, Tw.e_lst, Tw.e_and, Tw.e_andT, Tw.e_andF, Tw.e_or, Tw.e_orT, Tw.e_orF, Tw.e_not, Tw.e_notR, Tw.e_bE, Tw.e_bR, Tw.e_bAnd, Tw.e_bOr, Tw.e_bNot, Tw.e_bTrue, Tw.e_if, Tw.e_chR2, Tw.e_chRT, Tw.e_chRF, Tw.e_chain, Tw.e_part0, Tw.e_part, Tw.e_partR, Tw.e_sl, Tw.e_rev, Tw.e_kval, Tw.e_kval2, Tw.e_kN, Tw.e_ktup, Tw.e_klst, Tw.e_kand, Tw.e_kor, Tw.e_knot, Tw.e_kbE, Tw.e_kbAnd, Tw.e_kbOr, Tw.e_kbNot, Tw.e_kif, Tw.e_kpart, Tw.e_krev, Tw.e_kcall, Tw.e_ksRet, Tw.e_ksExpr, Tw.e_ksIf, Tw.e_ksAsg, Tw.e_ksFor, Tw.e_ksStore, Tw.e_kstR, Tw.e_km1T, Tw.e_kiSeq, Tw.e_kiRng, Tw.e_kiZip, Tw.e_kmake, Tw.e_kfset, Tw.e_kchRT, Tw.e_kchain2, Tw.e_kchain, Tw.e_ksl, Tw.e_ksl2, Tw.e_ksl3, Tw.e_ksPar, Tw.e_ksPar2, Tw.e_ksAug, Tw.e_ksAug2, Tw.e_kcp3, Tw.e_kcomp, Tw.e_kcomp2, Tw.e_coR, Tw.e_kco2, Tw.e_kco, Tw.e_co, Tw.e_callR, Tw.e_call, Tw.e_io0, Tw.e_io1, Tw.e_io1R, Tw.e_itR, Tw.e_iSeq, Tw.e_rgR, Tw.e_iRng, Tw.e_zpR, Tw.e_iZip, Tw.e_comp, Tw.e_comp2, Tw.e_wipe0, Tw.e_wipe1, Tw.e_bTp, Tw.e_bNil, Tw.e_bCons, Tw.e_mkR, Tw.e_make, Tw.e_fset, Tw.e_fsR, Tw.e_oo, Tw.e_ooR, Tw.e_coR2, Tw.tru_non, Tw.tru_bl, Tw.tru_int, Tw.tru_tup, Tw.tru_lst, Tw.asI_int, Tw.ints_nil, Tw.ints_cons, Tw.items_lst, Tw.items_tup, Tw.seqK_lst, Tw.seqK_tup, Tw.isN_int, Tw.isN_non, Tw.isN_tup, Tw.notN_int, Tw.notN_non, Tw.notN_tup, Tw.mul_int, Tw.add_int, Tw.sub_int, Tw.fdiv_int, Tw.mod_int, Tw.pow_int, Tw.lt_int, Tw.le_int, Tw.gt_int, Tw.ge_int, Tw.neg_int, Tw.imul_int, Tw.iadd_int, Tw.len_lst, Tw.len_tup, Tw.ix_lst, Tw.ix_tup, Tw.tuple_lst, Tw.tuple_tup, Tw.list_lst, Tw.list_tup, Tw.abs_int, Tw.intC_int, Tw.intC_bl, Tw.all_lst, Tw.any_lst, Tw.isi_2, Tw.tag_non, Tw.tag_bl, Tw.tag_int, Tw.tag_str, Tw.tag_tup, Tw.tag_lst, Tw.tag_obj, Tw.asT_ty, Tw.asT_cl, Tw.frz_int, Tw.frz_bl, Tw.frz_non, Tw.frz_ty, Tw.frz_cl, Tw.frz_scr, Tw.frz_tup, Tw.frz_lst, Tw.frz_obj, Tw.frzs_nil, Tw.frzs_cons, Tw.ok_int, Tw.ok_bl, Tw.ok_non, Tw.ok_tup, Tw.ok_lst, Tw.ok_obj, Tw.doks_nil, Tw.doks_cons, Tw.sl_scr, Tw.sl_lst, Tw.sl_tup, Tw.rev_lst, Tw.rev_tup, Tw.eq_int, Tw.ne_int, Tw.e_kcpB, Tw.e_cpB, Tw.e_compB, Tw.e_fgN, Tw.e_fgC, Tw.e_fgB, Tw.e_fgRt, Tw.e_fgR, Tw.e_for0, Tw.e_for1, Tw.e_cgF, Tw.e_cgT, Tw.e_cgR, Tw.e_neo, Tw.e_cg0, Tw.e_cg1, Tw.e_c2A, Tw.e_c2I, Tw.e_c2T, Tw.e_c2R, Tw.e_c20, Tw.e_c21, Tw.at5_0, Tw.at5_1, Tw.at5_2, Tw.at5_3, Tw.at5_4, Tw.ix5_1, Tw.ix5_2, Tw.ix5_3, Tw.ix5_4, Tw.ints_map, Tw.add_tup, Tw.add_lst, Tw.oks_rows, Tw.frzs_rows, Tw.rows_len, Tw.oks_int, Tw.frzs_int, Tw.oks_tI, Tw.ok_tI, Tw.frz_tI, Tw.e_bok, Tw.e_sbok, List.map_cons, List.map_nil, List.length_cons, List.length_nil, List.cons_append, List.nil_append, List.replicate, List.getElem?_cons_zero, List.getElem?_cons_succ, List.set_cons_zero, List.set_cons_succ, Option.bind_some, Option.map_some, Nat.zero_add, Nat.add_zero, Nat.reduceAdd, Nat.reduceSub, Nat.reduceLT, Nat.reduceLeDiff, Bool.and_true, Bool.true_and, Bool.and_self, Bool.not_true, Bool.not_false, Bool.false_and, Bool.and_false, Bool.or_true, Bool.true_or, Bool.or_false, Bool.false_or, if_true, if_false, Bool.false_eq_true, reduceCtorEq, ite_true, ite_false, decide_true, decide_false, decide_eq_true_eq, ne_eq, Int.reduceEq, not_false_eq_true, not_true_eq_false, List.length_map, Option.map_none, Int.reduceNeg])
  rw [Nat.zero_add, List.take_length] at e
  have l3 : D.oks (sizes.map D.int).reverse = true := by rw [← List.map_reverse]; exact oks_int _
  unfold counted
  have l2 : D.oks ((countGo sizes.reverse ([], n)).1.map .int).reverse = true := by rw [← List.map_reverse]; exact oks_int _
  rw [List.map_reverse]
  rw [List.map_reverse] at e
  simp only [h__law_counted, b__law_counted, e, l2, l3, Tw.e_run, Tw.e_rtR, Tw.e_rtX, Tw.e_rtN, Tw.e_io_nil, Tw.e_io_one, Tw.e_ioR1, Tw.e_seq, Tw.e_seqN, Tw.e_seqR, Tw.e_seqB, Tw.e_seqC, Tw.e_sNil, Tw.e_sBrk, Tw.e_sCont, Tw.e_sRet, Tw.e_sExpr, Tw.e_sIf, Tw.e_sAsg, Tw.e_nxR, Tw.e_bNm, Tw.e_sPar, Tw.e_sFor, Tw.e_sAug, Tw.e_augR, Tw.e_own, Tw.e_ownR, Tw.e_stR2, Tw.e_sStore, Tw.e_stR, Tw.e_stR3, Tw.e_m1R, Tw.e_m1S, Tw.e_m1T, Tw.e_mt1, Tw.e_m0S, Tw.e_mt0, Tw.e_var, Tw.e_varR, Tw.e_move, Tw.e_moveR, Tw.e_K, Tw.e_nil, Tw.e_val, Tw.e_slot, Tw.e_slotR, Tw.e_gnil, Tw.e_gval, Tw.e_gvR, Tw.e_gslot, Tw.e_gsR, Tw.e_gR, Tw.e_gpR, Tw.e_N, Tw.e_vals0, Tw.e_vals1, Tw.e_tup, Tw.e_lst, Tw.e_and, Tw.e_andT, Tw.e_andF, Tw.e_or, Tw.e_orT, Tw.e_orF, Tw.e_not, Tw.e_notR, Tw.e_bE, Tw.e_bR, Tw.e_bAnd, Tw.e_bOr, Tw.e_bNot, Tw.e_bTrue, Tw.e_if, Tw.e_chR2, Tw.e_chRT, Tw.e_chRF, Tw.e_chain, Tw.e_part0, Tw.e_part, Tw.e_partR, Tw.e_sl, Tw.e_rev, Tw.e_kval, Tw.e_kval2, Tw.e_kN, Tw.e_ktup, Tw.e_klst, Tw.e_kand, Tw.e_kor, Tw.e_knot, Tw.e_kbE, Tw.e_kbAnd, Tw.e_kbOr, Tw.e_kbNot, Tw.e_kif, Tw.e_kpart, Tw.e_krev, Tw.e_kcall, Tw.e_ksRet, Tw.e_ksExpr, Tw.e_ksIf, Tw.e_ksAsg, Tw.e_ksFor, Tw.e_ksStore, Tw.e_kstR, Tw.e_km1T, Tw.e_kiSeq, Tw.e_kiRng, Tw.e_kiZip, Tw.e_kmake, Tw.e_kfset, Tw.e_kchRT, Tw.e_kchain2, Tw.e_kchain, Tw.e_ksl, Tw.e_ksl2, Tw.e_ksl3, Tw.e_ksPar, Tw.e_ksPar2, Tw.e_ksAug, Tw.e_ksAug2, Tw.e_kcp3, Tw.e_kcomp, Tw.e_kcomp2, Tw.e_coR, Tw.e_kco2, Tw.e_kco, Tw.e_co, Tw.e_callR, Tw.e_call, Tw.e_io0, Tw.e_io1, Tw.e_io1R, Tw.e_itR, Tw.e_iSeq, Tw.e_rgR, Tw.e_iRng, Tw.e_zpR, Tw.e_iZip, Tw.e_comp, Tw.e_comp2, Tw.e_wipe0, Tw.e_wipe1, Tw.e_bTp, Tw.e_bNil, Tw.e_bCons, Tw.e_mkR, Tw.e_make, Tw.e_fset, Tw.e_fsR, Tw.e_oo, Tw.e_ooR, Tw.e_coR2, Tw.tru_non, Tw.tru_bl, Tw.tru_int, Tw.tru_tup, Tw.tru_lst, Tw.asI_int, Tw.ints_nil, Tw.ints_cons, Tw.items_lst, Tw.items_tup, Tw.seqK_lst, Tw.seqK_tup, Tw.isN_int, Tw.isN_non, Tw.isN_tup, Tw.notN_int, Tw.notN_non, Tw.notN_tup, Tw.mul_int, Tw.add_int, Tw.sub_int, Tw.fdiv_int, Tw.mod_int, Tw.pow_int, Tw.lt_int, Tw.le_int, Tw.gt_int, Tw.ge_int, Tw.neg_int, Tw.imul_int, Tw.iadd_int, Tw.len_lst, Tw.len_tup, Tw.ix_lst, Tw.ix_tup, Tw.tuple_lst, Tw.tuple_tup, Tw.list_lst, Tw.list_tup, Tw.abs_int, Tw.intC_int, Tw.intC_bl, Tw.all_lst, Tw.any_lst, Tw.isi_2, Tw.tag_non, Tw.tag_bl, Tw.tag_int, Tw.tag_str, Tw.tag_tup, Tw.tag_lst, Tw.tag_obj, Tw.asT_ty, Tw.asT_cl, Tw.frz_int, Tw.frz_bl, Tw.frz_non, Tw.frz_ty, Tw.frz_cl, Tw.frz_scr, Tw.frz_tup, Tw.frz_lst, Tw.frz_obj, Tw.frzs_nil, Tw.frzs_cons, Tw.ok_int, Tw.ok_bl, Tw.ok_non, Tw.ok_tup, Tw.ok_lst, Tw.ok_obj, Tw.doks_nil, Tw.doks_cons, Tw.sl_scr, Tw.sl_lst, Tw.sl_tup, Tw.rev_lst, Tw.rev_tup, Tw.eq_int, Tw.ne_int, Tw.e_kcpB, Tw.e_cpB, Tw.e_compB, Tw.e_fgN, Tw.e_fgC, Tw.e_fgB, Tw.e_fgRt, Tw.e_fgR, Tw.e_for0, Tw.e_for1, Tw.e_cgF, Tw.e_cgT, Tw.e_cgR, Tw.e_neo, Tw.e_cg0, Tw.e_cg1, Tw.e_c2A, Tw.e_c2I, Tw.e_c2T, Tw.e_c2R, Tw.e_c20, Tw.e_c21, Tw.at5_0, Tw.at5_1, Tw.at5_2, Tw.at5_3, Tw.at5_4, Tw.ix5_1, Tw.ix5_2, Tw.ix5_3, Tw.ix5_4, Tw.ints_map, Tw.add_tup, Tw.add_lst, Tw.oks_rows, Tw.frzs_rows, Tw.rows_len, Tw.oks_int, Tw.frzs_int, Tw.oks_tI, Tw.ok_tI, Tw.frz_tI, Tw.e_bok, Tw.e_sbok, List.map_cons, List.map_nil, List.length_cons, List.length_nil, List.cons_append, List.nil_append, List.replicate, List.getElem?_cons_zero, List.getElem?_cons_succ, List.set_cons_zero, List.set_cons_succ, Option.bind_some, Option.map_some, Nat.zero_add, Nat.add_zero, Nat.reduceAdd, Nat.reduceSub, Nat.reduceLT, Nat.reduceLeDiff, Bool.and_true, Bool.true_and, Bool.and_self, Bool.not_true, Bool.not_false, Bool.false_and, Bool.and_false, Bool.or_true, Bool.true_or, Bool.or_false, Bool.false_or, if_true, if_false, Bool.false_eq_true, reduceCtorEq, ite_true, ite_false, decide_true, decide_false, decide_eq_true_eq, ne_eq, Int.reduceEq, not_false_eq_true, not_true_eq_false, List.length_map, Option.map_none, Int.reduceNeg]
end K01
namespace K01
open PySem PySem.Spec PyProof.Rows L2 Tw
def prodI (sizes : List Int) : Int := sizes.foldl (· * ·) 1
theorem prodI_app (a : List Int) (s : Int) : prodI (a ++ [s]) = prodI a * s := by unfold prodI; rw [List.foldl_append]; rfl
theorem countGo_app : ∀ (r : List Int) (l : List Int) (q : Int), (countGo r (l, q)).1 = l ++ (countGo r ([], q)).1
  | [], l, q => by simp [countGo]
  | x :: r, l, q => by
    have e1 := countGo_app r (l ++ [q.fmod x]) (q.fdiv x)
    have e2 := countGo_app r ([] ++ [q.fmod x]) (q.fdiv x)
    show (countGo r (l ++ [q.fmod x], q.fdiv x)).1 = l ++ (countGo r ([] ++ [q.fmod x], q.fdiv x)).1
    rw [e1, e2, List.append_assoc]; rfl
theorem counted_app (a : List Int) (s n : Int) : counted (a ++ [s]) n = counted a (n.fdiv s) ++ [n.fmod s] := by
  unfold counted
  rw [List.reverse_append]
  show (countGo a.reverse ([] ++ [n.fmod s], n.fdiv s)).1.reverse = _
  rw [countGo_app, List.reverse_append]; rfl
theorem range_mul (P k : Nat) : List.range (P * k) = (List.range P).flatMap fun q => (List.range k).map fun w => k * q + w := by
  induction P with
  | zero => simp
  | succ P ih =>
    rw [Nat.add_mul, Nat.one_mul, List.range_add, ih, List.range_succ, List.flatMap_append, List.flatMap_singleton, Nat.mul_comm P k]
theorem div_rest {k q w : Nat} (h : w < k) : ((k * q + w : Nat) : Int).fdiv k = q ∧ ((k * q + w : Nat) : Int).fmod k = w := by
  have k0 : 0 < k := by omega
  rw [Int.fdiv_eq_ediv_of_nonneg _ (by omega), Int.fmod_eq_emod_of_nonneg _ (by omega), ← Int.natCast_ediv, ← Int.natCast_emod, Nat.mul_add_div k0, Nat.mul_add_mod, Nat.div_eq_of_lt h, Nat.mod_eq_of_lt h]
  exact ⟨rfl, rfl⟩
theorem counted_allR : ∀ r : List Int, (∀ s ∈ r, 0 < s) → ∃ P : Nat, prodI r.reverse = P ∧ (List.range P).map (fun n : Nat => counted r.reverse n) = allOf r.reverse
  | [], _ => ⟨1, rfl, rfl⟩
  | s :: t, h => by
    obtain ⟨P, e1, e2⟩ := counted_allR t fun x hx => h x (List.mem_cons_of_mem _ hx)
    have s0 := h s List.mem_cons_self
    obtain ⟨k, rfl⟩ : ∃ k : Nat, s = k := ⟨s.toNat, by omega⟩
    refine ⟨P * k, by rw [List.reverse_cons, prodI_app, e1]; simp, ?_⟩
    rw [List.reverse_cons, allOf_app, ← e2, range_mul]
    unfold grow
    rw [List.map_flatMap, List.flatMap_map, Int.toNat_natCast]
    refine congrArg (fun f => List.flatMap f (List.range P)) (funext fun q => ?_)
    rw [List.map_map]
    refine List.map_congr_left fun w hw => ?_
    have := div_rest (q := q) (List.mem_range.mp hw)
    show counted (t.reverse ++ [(k : Int)]) ((k * q + w : Nat) : Int) = _
    rw [counted_app, this.1, this.2]
theorem counted_all {sizes : List Int} (h : ∀ s ∈ sizes, 0 < s) : ∃ P : Nat, prodI sizes = P ∧ (List.range P).map (fun n : Nat => counted sizes n) = allOf sizes := by
  have := counted_allR sizes.reverse fun s hs => h s (List.mem_reverse.mp hs)
  rwa [List.reverse_reverse] at this
def numOf (sizes c : List Int) : Int := (sizes.zip c).foldl (fun a p => a * p.1 + p.2) 0
theorem counted_len : ∀ r : List Int, ∀ n, (counted r.reverse n).length = r.length
  | [], n => rfl
  | s :: t, n => by rw [List.reverse_cons, counted_app, List.length_append, counted_len t]; rfl
theorem numOf_countedR : ∀ r : List Int, (∀ s ∈ r, 0 < s) → ∀ n : Int, 0 ≤ n → n < prodI r.reverse → numOf r.reverse (counted r.reverse n) = n
  | [], _, n, h0, h1 => by
    have : prodI [].reverse = 1 := rfl
    rw [this] at h1
    show (0 : Int) = n
    omega
  | s :: t, h, n, h0, h1 => by
    have s0 := h s List.mem_cons_self
    rw [List.reverse_cons, prodI_app] at h1
    have ih := numOf_countedR t (fun x hx => h x (List.mem_cons_of_mem _ hx)) (n.fdiv s) (by rw [Int.fdiv_eq_ediv_of_nonneg _ (by omega)]; exact Int.ediv_nonneg h0 (by omega)) (by rw [Int.fdiv_eq_ediv_of_nonneg _ (by omega)]; exact Int.ediv_lt_of_lt_mul s0 h1)
    rw [List.reverse_cons, counted_app]
    unfold numOf at ih ⊢
    rw [List.zip_append (by rw [counted_len, List.length_reverse]), List.foldl_append, ih]
    show n.fdiv s * s + n.fmod s = n
    rw [Int.fdiv_eq_ediv_of_nonneg _ (by omega), Int.fmod_eq_emod_of_nonneg _ (by omega), Int.mul_comm]
    exact Int.mul_ediv_add_emod n s
theorem counted_inR : ∀ r : List Int, (∀ s ∈ r, 0 < s) → ∀ n : Int, ∀ p ∈ r.reverse.zip (counted r.reverse n), 0 ≤ p.2 ∧ p.2 ≤ p.1 - 1
  | [], _, n, p, hp => by cases hp
  | s :: t, h, n, p, hp => by
    have s0 := h s List.mem_cons_self
    rw [List.reverse_cons, counted_app, List.zip_append (by rw [counted_len, List.length_reverse]), List.mem_append] at hp
    rcases hp with hp | hp
    · exact counted_inR t (fun x hx => h x (List.mem_cons_of_mem _ hx)) _ p hp
    · rw [List.zip_cons_cons, List.zip_nil_left, List.mem_singleton] at hp
      subst hp
      have h1 := Int.fmod_nonneg_of_pos n s0
      have h2 := Int.fmod_lt_of_pos n s0
      exact ⟨h1, by show n.fmod s ≤ s - 1; omega⟩
/-! the defs -/
theorem zip_ints (a c : List Int) : zipOf [.tup (a.map .int), .tup (c.map .int)] = some (true, a.map .int, c.map .int) := by
  simp only [zipOf, Tw.seqK_tup, oks_int, if_true, Option.bind_some]
theorem zipD_ints (a c : List Int) : zipD (a.map .int) (c.map .int) = (a.zip c).map fun p => D.tup [.int p.1, .int p.2] := by
  unfold zipD
  rw [List.zip_map, List.map_map]
  rfl
theorem number_ok {sizes c : List Int} (h : ∀ s ∈ sizes, 0 < s ∧ s ≤ 4) : h_number_of [.tup (sizes.map .int), .tup (c.map .int)] = .ret (.int (numOf sizes c)) [] := by
  obtain ⟨env', ⟨y, z, rfl⟩, e⟩ := for_fold (bd := bTp (bCons (bNm 3) (bCons (bNm 4) bNil))) (g := fun p : Int × Int => D.tup [.int p.1, .int p.2]) (body := sSeq (sAsg (bNm 2) (fN gAdd [(.val (fN gMul [(.val (fVar 2)), (.val (fVar 3))])), (.val (fVar 4))])) sNil)
    (fun (b : Int) env => ∃ y z, env = [some (.tup (sizes.map .int)), some (.tup (c.map .int)), some (.int b), y, z]) (fun a p => a * p.1 + p.2) (sizes.zip c) 0 [some (.tup (sizes.map .int)), some (.tup (c.map .int)), some (.int 0), none, none] ⟨none, none, rfl⟩ fun p hp b env he => by
      obtain ⟨y, z, rfl⟩ := he
      have hs := h p.1 (List.of_mem_zip hp).1
      have cm : CMul b p.1 := cm_lit _ _ (by omega)
      refine ⟨_, ⟨some (.int p.1), some (.int p.2), rfl⟩, fun ds => ?_⟩
      simp only [cm, Tw.add_int, Tw.e_run, Tw.e_rtR, Tw.e_rtX, Tw.e_rtN, Tw.e_io_nil, Tw.e_io_one, Tw.e_ioR1, Tw.e_seq, Tw.e_seqN, Tw.e_seqR, Tw.e_seqB, Tw.e_seqC, Tw.e_sNil, Tw.e_sBrk, Tw.e_sCont, Tw.e_sRet, Tw.e_sExpr, Tw.e_sIf, Tw.e_sAsg, Tw.e_nxR, Tw.e_bNm, Tw.e_sPar, Tw.e_sFor, Tw.e_sAug, Tw.e_augR, Tw.e_own, Tw.e_ownR, Tw.e_stR2, Tw.e_sStore, Tw.e_stR, Tw.e_stR3, Tw.e_m1R, Tw.e_m1S, Tw.e_m1T, Tw.e_mt1, Tw.e_m0S, Tw.e_mt0, Tw.e_var, Tw.e_varR, Tw.e_move, Tw.e_moveR, Tw.e_K, Tw.e_nil, Tw.e_val, Tw.e_slot, Tw.e_slotR, Tw.e_gnil, Tw.e_gval, Tw.e_gvR, Tw.e_gslot, Tw.e_gsR, Tw.e_gR, Tw.e_gpR, Tw.e_N, Tw.e_vals0, Tw.e_vals1, Tw.e_tup, Tw.e_lst, Tw.e_and, Tw.e_andT, Tw.e_andF, Tw.e_or, Tw.e_orT, Tw.e_orF, Tw.e_not, Tw.e_notR, Tw.e_bE, Tw.e_bR, Tw.e_bAnd, Tw.e_bOr, Tw.e_bNot, Tw.e_bTrue, Tw.e_if, Tw.e_chR2, Tw.e_chRT, Tw.e_chRF, Tw.e_chain, Tw.e_part0, Tw.e_part, Tw.e_partR, Tw.e_sl, Tw.e_rev, Tw.e_kval, Tw.e_kval2, Tw.e_kN, Tw.e_ktup, Tw.e_klst, Tw.e_kand, Tw.e_kor, Tw.e_knot, Tw.e_kbE, Tw.e_kbAnd, Tw.e_kbOr, Tw.e_kbNot, Tw.e_kif, Tw.e_kpart, Tw.e_krev, Tw.e_kcall, Tw.e_ksRet, Tw.e_ksExpr, Tw.e_ksIf, Tw.e_ksAsg, Tw.e_ksFor, Tw.e_ksStore, Tw.e_kstR, Tw.e_km1T, Tw.e_kiSeq, Tw.e_kiRng, Tw.e_kiZip, Tw.e_kmake, Tw.e_kfset, Tw.e_kchRT, Tw.e_kchain2, Tw.e_kchain, Tw.e_ksl, Tw.e_ksl2, Tw.e_ksl3, Tw.e_ksPar, Tw.e_ksPar2, Tw.e_ksAug, Tw.e_ksAug2, Tw.e_kcp3, Tw.e_kcomp, Tw.e_kcomp2, Tw.e_coR, Tw.e_kco2, Tw.e_kco, Tw.e_co, Tw.e_callR, Tw.e_call, Tw.e_io0, Tw.e_io1, Tw.e_io1R, Tw.e_itR, Tw.e_iSeq, Tw.e_rgR, Tw.e_iRng, Tw.e_zpR, Tw.e_iZip, Tw.e_comp, Tw.e_comp2, Tw.e_wipe0, Tw.e_wipe1, Tw.e_bTp, Tw.e_bNil, Tw.e_bCons, Tw.e_mkR, Tw.e_make, Tw.e_fset, Tw.e_fsR, Tw.e_oo, Tw.e_ooR, Tw.e_coR2, Tw.tru_non, Tw.tru_bl, Tw.tru_int, Tw.tru_tup, Tw.tru_lst, Tw.asI_int, Tw.ints_nil, Tw.ints_cons, Tw.items_lst, Tw.items_tup, Tw.seqK_lst, Tw.seqK_tup, Tw.isN_int, Tw.isN_non, Tw.isN_tup, Tw.notN_int, Tw.notN_non, Tw.notN_tup, Tw.mul_int, Tw.add_int, Tw.sub_int, Tw.fdiv_int, Tw.mod_int, Tw.pow_int, Tw.lt_int, Tw.le_int, Tw.gt_int, Tw.ge_int, Tw.neg_int, Tw.imul_int, Tw.iadd_int, Tw.len_lst, Tw.len_tup, Tw.ix_lst, Tw.ix_tup, Tw.tuple_lst, Tw.tuple_tup, Tw.list_lst, Tw.list_tup, Tw.abs_int, Tw.intC_int, Tw.intC_bl, Tw.all_lst, Tw.any_lst, Tw.isi_2, Tw.tag_non, Tw.tag_bl, Tw.tag_int, Tw.tag_str, Tw.tag_tup, Tw.tag_lst, Tw.tag_obj, Tw.asT_ty, Tw.asT_cl, Tw.frz_int, Tw.frz_bl, Tw.frz_non, Tw.frz_ty, Tw.frz_cl, Tw.frz_scr, Tw.frz_tup, Tw.frz_lst, Tw.frz_obj, Tw.frzs_nil, Tw.frzs_cons, Tw.ok_int, Tw.ok_bl, Tw.ok_non, Tw.ok_tup, Tw.ok_lst, Tw.ok_obj, Tw.doks_nil, Tw.doks_cons, Tw.sl_scr, Tw.sl_lst, Tw.sl_tup, Tw.rev_lst, Tw.rev_tup, Tw.eq_int, Tw.ne_int, Tw.e_kcpB, Tw.e_cpB, Tw.e_compB, Tw.e_fgN, Tw.e_fgC, Tw.e_fgB, Tw.e_fgRt, Tw.e_fgR, Tw.e_for0, Tw.e_for1, Tw.e_cgF, Tw.e_cgT, Tw.e_cgR, Tw.e_neo, Tw.e_cg0, Tw.e_cg1, Tw.e_c2A, Tw.e_c2I, Tw.e_c2T, Tw.e_c2R, Tw.e_c20, Tw.e_c21, Tw.at5_0, Tw.at5_1, Tw.at5_2, Tw.at5_3, Tw.at5_4, Tw.ix5_1, Tw.ix5_2, Tw.ix5_3, Tw.ix5_4, Tw.ints_map, Tw.add_tup, Tw.add_lst, Tw.oks_rows, Tw.frzs_rows, Tw.rows_len, Tw.oks_int, Tw.frzs_int, Tw.oks_tI, Tw.ok_tI, Tw.frz_tI, Tw.e_bok, Tw.e_sbok, List.map_cons, List.map_nil, List.length_cons, List.length_nil, List.cons_append, List.nil_append, List.replicate, List.getElem?_cons_zero, List.getElem?_cons_succ, List.set_cons_zero, List.set_cons_succ, Option.bind_some, Option.map_some, Nat.zero_add, Nat.add_zero, Nat.reduceAdd, Nat.reduceSub, Nat.reduceLT, Nat.reduceLeDiff, Bool.and_true, Bool.true_and, Bool.and_self, Bool.not_true, Bool.not_false, Bool.false_and, Bool.and_false, Bool.or_true, Bool.true_or, Bool.or_false, Bool.false_or, if_true, if_false, Bool.false_eq_true, reduceCtorEq, ite_true, ite_false, decide_true, decide_false, decide_eq_true_eq, ne_eq, Int.reduceEq, not_false_eq_true, not_true_eq_false, List.length_map, Option.map_none, Int.reduceNeg]
  simp only [h_number_of, b_number_of, zip_ints, zipD_ints, e, numOf, Tw.e_run, Tw.e_rtR, Tw.e_rtX, Tw.e_rtN, Tw.e_io_nil, Tw.e_io_one, Tw.e_ioR1, Tw.e_seq, Tw.e_seqN, Tw.e_seqR, Tw.e_seqB, Tw.e_seqC, Tw.e_sNil, Tw.e_sBrk, Tw.e_sCont, Tw.e_sRet, Tw.e_sExpr, Tw.e_sIf, Tw.e_sAsg, Tw.e_nxR, Tw.e_bNm, Tw.e_sPar, Tw.e_sFor, Tw.e_sAug, Tw.e_augR, Tw.e_own, Tw.e_ownR, Tw.e_stR2, Tw.e_sStore, Tw.e_stR, Tw.e_stR3, Tw.e_m1R, Tw.e_m1S, Tw.e_m1T, Tw.e_mt1, Tw.e_m0S, Tw.e_mt0, Tw.e_var, Tw.e_varR, Tw.e_move, Tw.e_moveR, Tw.e_K, Tw.e_nil, Tw.e_val, Tw.e_slot, Tw.e_slotR, Tw.e_gnil, Tw.e_gval, Tw.e_gvR, Tw.e_gslot, Tw.e_gsR, Tw.e_gR, Tw.e_gpR, Tw.e_N, Tw.e_vals0, Tw.e_vals1, Tw.e_tup, Tw.e_lst, Tw.e_and, Tw.e_andT, Tw.e_andF, Tw.e_or, Tw.e_orT, Tw.e_orF, Tw.e_not, Tw.e_notR, Tw.e_bE, Tw.e_bR, Tw.e_bAnd, Tw.e_bOr, Tw.e_bNot, Tw.e_bTrue, Tw.e_if, Tw.e_chR2, Tw.e_chRT, Tw.e_chRF, Tw.e_chain, Tw.e_part0, Tw.e_part, Tw.e_partR, Tw.e_sl, Tw.e_rev, Tw.e_kval, Tw.e_kval2, Tw.e_kN, Tw.e_ktup, Tw.e_klst, Tw.e_kand, Tw.e_kor, Tw.e_knot, Tw.e_kbE, Tw.e_kbAnd, Tw.e_kbOr, Tw.e_kbNot, Tw.e_kif, Tw.e_kpart, Tw.e_krev, Tw.e_kcall, Tw.e_ksRet, Tw.e_ksExpr, Tw.e_ksIf, Tw.e_ksAsg, Tw.e_ksFor, Tw.e_ksStore, Tw.e_kstR, Tw.e_km1T, Tw.e_kiSeq, Tw.e_kiRng, Tw.e_kiZip, Tw.e_kmake, Tw.e_kfset, Tw.e_kchRT, Tw.e_kchain2, Tw.e_kchain, Tw.e_ksl, Tw.e_ksl2, Tw.e_ksl3, Tw.e_ksPar, Tw.e_ksPar2, Tw.e_ksAug, Tw.e_ksAug2, Tw.e_kcp3, Tw.e_kcomp, Tw.e_kcomp2, Tw.e_coR, Tw.e_kco2, Tw.e_kco, Tw.e_co, Tw.e_callR, Tw.e_call, Tw.e_io0, Tw.e_io1, Tw.e_io1R, Tw.e_itR, Tw.e_iSeq, Tw.e_rgR, Tw.e_iRng, Tw.e_zpR, Tw.e_iZip, Tw.e_comp, Tw.e_comp2, Tw.e_wipe0, Tw.e_wipe1, Tw.e_bTp, Tw.e_bNil, Tw.e_bCons, Tw.e_mkR, Tw.e_make, Tw.e_fset, Tw.e_fsR, Tw.e_oo, Tw.e_ooR, Tw.e_coR2, Tw.tru_non, Tw.tru_bl, Tw.tru_int, Tw.tru_tup, Tw.tru_lst, Tw.asI_int, Tw.ints_nil, Tw.ints_cons, Tw.items_lst, Tw.items_tup, Tw.seqK_lst, Tw.seqK_tup, Tw.isN_int, Tw.isN_non, Tw.isN_tup, Tw.notN_int, Tw.notN_non, Tw.notN_tup, Tw.mul_int, Tw.add_int, Tw.sub_int, Tw.fdiv_int, Tw.mod_int, Tw.pow_int, Tw.lt_int, Tw.le_int, Tw.gt_int, Tw.ge_int, Tw.neg_int, Tw.imul_int, Tw.iadd_int, Tw.len_lst, Tw.len_tup, Tw.ix_lst, Tw.ix_tup, Tw.tuple_lst, Tw.tuple_tup, Tw.list_lst, Tw.list_tup, Tw.abs_int, Tw.intC_int, Tw.intC_bl, Tw.all_lst, Tw.any_lst, Tw.isi_2, Tw.tag_non, Tw.tag_bl, Tw.tag_int, Tw.tag_str, Tw.tag_tup, Tw.tag_lst, Tw.tag_obj, Tw.asT_ty, Tw.asT_cl, Tw.frz_int, Tw.frz_bl, Tw.frz_non, Tw.frz_ty, Tw.frz_cl, Tw.frz_scr, Tw.frz_tup, Tw.frz_lst, Tw.frz_obj, Tw.frzs_nil, Tw.frzs_cons, Tw.ok_int, Tw.ok_bl, Tw.ok_non, Tw.ok_tup, Tw.ok_lst, Tw.ok_obj, Tw.doks_nil, Tw.doks_cons, Tw.sl_scr, Tw.sl_lst, Tw.sl_tup, Tw.rev_lst, Tw.rev_tup, Tw.eq_int, Tw.ne_int, Tw.e_kcpB, Tw.e_cpB, Tw.e_compB, Tw.e_fgN, Tw.e_fgC, Tw.e_fgB, Tw.e_fgRt, Tw.e_fgR, Tw.e_for0, Tw.e_for1, Tw.e_cgF, Tw.e_cgT, Tw.e_cgR, Tw.e_neo, Tw.e_cg0, Tw.e_cg1, Tw.e_c2A, Tw.e_c2I, Tw.e_c2T, Tw.e_c2R, Tw.e_c20, Tw.e_c21, Tw.at5_0, Tw.at5_1, Tw.at5_2, Tw.at5_3, Tw.at5_4, Tw.ix5_1, Tw.ix5_2, Tw.ix5_3, Tw.ix5_4, Tw.ints_map, Tw.add_tup, Tw.add_lst, Tw.oks_rows, Tw.frzs_rows, Tw.rows_len, Tw.oks_int, Tw.frzs_int, Tw.oks_tI, Tw.ok_tI, Tw.frz_tI, Tw.e_bok, Tw.e_sbok, List.map_cons, List.map_nil, List.length_cons, List.length_nil, List.cons_append, List.nil_append, List.replicate, List.getElem?_cons_zero, List.getElem?_cons_succ, List.set_cons_zero, List.set_cons_succ, Option.bind_some, Option.map_some, Nat.zero_add, Nat.add_zero, Nat.reduceAdd, Nat.reduceSub, Nat.reduceLT, Nat.reduceLeDiff, Bool.and_true, Bool.true_and, Bool.and_self, Bool.not_true, Bool.not_false, Bool.false_and, Bool.and_false, Bool.or_true, Bool.true_or, Bool.or_false, Bool.false_or, if_true, if_false, Bool.false_eq_true, reduceCtorEq, ite_true, ite_false, decide_true, decide_false, decide_eq_true_eq, ne_eq, Int.reduceEq, not_false_eq_true, not_true_eq_false, List.length_map, Option.map_none, Int.reduceNeg]
theorem is_content_ok {sizes c : List Int} (hl : c.length = sizes.length) (l6 : sizes.length ≤ 6) (h : ∀ p ∈ sizes.zip c, 0 ≤ p.2 ∧ p.2 ≤ p.1 - 1) : h_is_content [.tup (sizes.map .int), .tup (c.map .int)] = .ret (.bl true) [] := by
  have l1 : lenOk (sizes.zip c).length = true := lenOk_of (by rw [List.length_zip]; omega)
  have key := comp_map1 (vs := [2, 3]) (b := bTp (bCons (bNm 2) (bCons (bNm 3) bNil))) (t := bTrue) (f := fCall [] h_is_within [(.val (fVar 3)), (.val (fK (.int 0))), (.val (fN Tw.gSub [(.val (fVar 2)), (.val (fK (.int 1)))]))]) (g := fun p : Int × Int => D.tup [.int p.1, .int p.2])
    (env := [some (.tup (sizes.map .int)), some (.tup (c.map .int)), none, none]) (fun _ => .bl true) (sizes.zip c) fun p hp ds acc => by
      have a1 := (h p hp).1
      have a2 := (h p hp).2
      simp only [within_ok, a1, a2, Tw.e_run, Tw.e_rtR, Tw.e_rtX, Tw.e_rtN, Tw.e_io_nil, Tw.e_io_one, Tw.e_ioR1, Tw.e_seq, Tw.e_seqN, Tw.e_seqR, Tw.e_seqB, Tw.e_seqC, Tw.e_sNil, Tw.e_sBrk, Tw.e_sCont, Tw.e_sRet, Tw.e_sExpr, Tw.e_sIf, Tw.e_sAsg, Tw.e_nxR, Tw.e_bNm, Tw.e_sPar, Tw.e_sFor, Tw.e_sAug, Tw.e_augR, Tw.e_own, Tw.e_ownR, Tw.e_stR2, Tw.e_sStore, Tw.e_stR, Tw.e_stR3, Tw.e_m1R, Tw.e_m1S, Tw.e_m1T, Tw.e_mt1, Tw.e_m0S, Tw.e_mt0, Tw.e_var, Tw.e_varR, Tw.e_move, Tw.e_moveR, Tw.e_K, Tw.e_nil, Tw.e_val, Tw.e_slot, Tw.e_slotR, Tw.e_gnil, Tw.e_gval, Tw.e_gvR, Tw.e_gslot, Tw.e_gsR, Tw.e_gR, Tw.e_gpR, Tw.e_N, Tw.e_vals0, Tw.e_vals1, Tw.e_tup, Tw.e_lst, Tw.e_and, Tw.e_andT, Tw.e_andF, Tw.e_or, Tw.e_orT, Tw.e_orF, Tw.e_not, Tw.e_notR, Tw.e_bE, Tw.e_bR, Tw.e_bAnd, Tw.e_bOr, Tw.e_bNot, Tw.e_bTrue, Tw.e_if, Tw.e_chR2, Tw.e_chRT, Tw.e_chRF, Tw.e_chain, Tw.e_part0, Tw.e_part, Tw.e_partR, Tw.e_sl, Tw.e_rev, Tw.e_kval, Tw.e_kval2, Tw.e_kN, Tw.e_ktup, Tw.e_klst, Tw.e_kand, Tw.e_kor, Tw.e_knot, Tw.e_kbE, Tw.e_kbAnd, Tw.e_kbOr, Tw.e_kbNot, Tw.e_kif, Tw.e_kpart, Tw.e_krev, Tw.e_kcall, Tw.e_ksRet, Tw.e_ksExpr, Tw.e_ksIf, Tw.e_ksAsg, Tw.e_ksFor, Tw.e_ksStore, Tw.e_kstR, Tw.e_km1T, Tw.e_kiSeq, Tw.e_kiRng, Tw.e_kiZip, Tw.e_kmake, Tw.e_kfset, Tw.e_kchRT, Tw.e_kchain2, Tw.e_kchain, Tw.e_ksl, Tw.e_ksl2, Tw.e_ksl3, Tw.e_ksPar, Tw.e_ksPar2, Tw.e_ksAug, Tw.e_ksAug2, Tw.e_kcp3, Tw.e_kcomp, Tw.e_kcomp2, Tw.e_coR, Tw.e_kco2, Tw.e_kco, Tw.e_co, Tw.e_callR, Tw.e_call, Tw.e_io0, Tw.e_io1, Tw.e_io1R, Tw.e_itR, Tw.e_iSeq, Tw.e_rgR, Tw.e_iRng, Tw.e_zpR, Tw.e_iZip, Tw.e_comp, Tw.e_comp2, Tw.e_wipe0, Tw.e_wipe1, Tw.e_bTp, Tw.e_bNil, Tw.e_bCons, Tw.e_mkR, Tw.e_make, Tw.e_fset, Tw.e_fsR, Tw.e_oo, Tw.e_ooR, Tw.e_coR2, Tw.tru_non, Tw.tru_bl, Tw.tru_int, Tw.tru_tup, Tw.tru_lst, Tw.asI_int, Tw.ints_nil, Tw.ints_cons, Tw.items_lst, Tw.items_tup, Tw.seqK_lst, Tw.seqK_tup, Tw.isN_int, Tw.isN_non, Tw.isN_tup, Tw.notN_int, Tw.notN_non, Tw.notN_tup, Tw.mul_int, Tw.add_int, Tw.sub_int, Tw.fdiv_int, Tw.mod_int, Tw.pow_int, Tw.lt_int, Tw.le_int, Tw.gt_int, Tw.ge_int, Tw.neg_int, Tw.imul_int, Tw.iadd_int, Tw.len_lst, Tw.len_tup, Tw.ix_lst, Tw.ix_tup, Tw.tuple_lst, Tw.tuple_tup, Tw.list_lst, Tw.list_tup, Tw.abs_int, Tw.intC_int, Tw.intC_bl, Tw.all_lst, Tw.any_lst, Tw.isi_2, Tw.tag_non, Tw.tag_bl, Tw.tag_int, Tw.tag_str, Tw.tag_tup, Tw.tag_lst, Tw.tag_obj, Tw.asT_ty, Tw.asT_cl, Tw.frz_int, Tw.frz_bl, Tw.frz_non, Tw.frz_ty, Tw.frz_cl, Tw.frz_scr, Tw.frz_tup, Tw.frz_lst, Tw.frz_obj, Tw.frzs_nil, Tw.frzs_cons, Tw.ok_int, Tw.ok_bl, Tw.ok_non, Tw.ok_tup, Tw.ok_lst, Tw.ok_obj, Tw.doks_nil, Tw.doks_cons, Tw.sl_scr, Tw.sl_lst, Tw.sl_tup, Tw.rev_lst, Tw.rev_tup, Tw.eq_int, Tw.ne_int, Tw.e_kcpB, Tw.e_cpB, Tw.e_compB, Tw.e_fgN, Tw.e_fgC, Tw.e_fgB, Tw.e_fgRt, Tw.e_fgR, Tw.e_for0, Tw.e_for1, Tw.e_cgF, Tw.e_cgT, Tw.e_cgR, Tw.e_neo, Tw.e_cg0, Tw.e_cg1, Tw.e_c2A, Tw.e_c2I, Tw.e_c2T, Tw.e_c2R, Tw.e_c20, Tw.e_c21, Tw.at5_0, Tw.at5_1, Tw.at5_2, Tw.at5_3, Tw.at5_4, Tw.ix5_1, Tw.ix5_2, Tw.ix5_3, Tw.ix5_4, Tw.ints_map, Tw.add_tup, Tw.add_lst, Tw.oks_rows, Tw.frzs_rows, Tw.rows_len, Tw.oks_int, Tw.frzs_int, Tw.oks_tI, Tw.ok_tI, Tw.frz_tI, Tw.e_bok, Tw.e_sbok, List.map_cons, List.map_nil, List.length_cons, List.length_nil, List.cons_append, List.nil_append, List.replicate, List.getElem?_cons_zero, List.getElem?_cons_succ, List.set_cons_zero, List.set_cons_succ, Option.bind_some, Option.map_some, Nat.zero_add, Nat.add_zero, Nat.reduceAdd, Nat.reduceSub, Nat.reduceLT, Nat.reduceLeDiff, Bool.and_true, Bool.true_and, Bool.and_self, Bool.not_true, Bool.not_false, Bool.false_and, Bool.and_false, Bool.or_true, Bool.true_or, Bool.or_false, Bool.false_or, if_true, if_false, Bool.false_eq_true, reduceCtorEq, ite_true, ite_false, decide_true, decide_false, decide_eq_true_eq, ne_eq, Int.reduceEq, not_false_eq_true, not_true_eq_false, List.length_map, Option.map_none, Int.reduceNeg]
  have e : ((sizes.zip c).map fun _ => true).all id = true := by simp
  simp only [h_is_content, b_is_content, isa_20, hl, zip_ints, zipD_ints, l1, key, bools_mapP, e, Tw.e_run, Tw.e_rtR, Tw.e_rtX, Tw.e_rtN, Tw.e_io_nil, Tw.e_io_one, Tw.e_ioR1, Tw.e_seq, Tw.e_seqN, Tw.e_seqR, Tw.e_seqB, Tw.e_seqC, Tw.e_sNil, Tw.e_sBrk, Tw.e_sCont, Tw.e_sRet, Tw.e_sExpr, Tw.e_sIf, Tw.e_sAsg, Tw.e_nxR, Tw.e_bNm, Tw.e_sPar, Tw.e_sFor, Tw.e_sAug, Tw.e_augR, Tw.e_own, Tw.e_ownR, Tw.e_stR2, Tw.e_sStore, Tw.e_stR, Tw.e_stR3, Tw.e_m1R, Tw.e_m1S, Tw.e_m1T, Tw.e_mt1, Tw.e_m0S, Tw.e_mt0, Tw.e_var, Tw.e_varR, Tw.e_move, Tw.e_moveR, Tw.e_K, Tw.e_nil, Tw.e_val, Tw.e_slot, Tw.e_slotR, Tw.e_gnil, Tw.e_gval, Tw.e_gvR, Tw.e_gslot, Tw.e_gsR, Tw.e_gR, Tw.e_gpR, Tw.e_N, Tw.e_vals0, Tw.e_vals1, Tw.e_tup, Tw.e_lst, Tw.e_and, Tw.e_andT, Tw.e_andF, Tw.e_or, Tw.e_orT, Tw.e_orF, Tw.e_not, Tw.e_notR, Tw.e_bE, Tw.e_bR, Tw.e_bAnd, Tw.e_bOr, Tw.e_bNot, Tw.e_bTrue, Tw.e_if, Tw.e_chR2, Tw.e_chRT, Tw.e_chRF, Tw.e_chain, Tw.e_part0, Tw.e_part, Tw.e_partR, Tw.e_sl, Tw.e_rev, Tw.e_kval, Tw.e_kval2, Tw.e_kN, Tw.e_ktup, Tw.e_klst, Tw.e_kand, Tw.e_kor, Tw.e_knot, Tw.e_kbE, Tw.e_kbAnd, Tw.e_kbOr, Tw.e_kbNot, Tw.e_kif, Tw.e_kpart, Tw.e_krev, Tw.e_kcall, Tw.e_ksRet, Tw.e_ksExpr, Tw.e_ksIf, Tw.e_ksAsg, Tw.e_ksFor, Tw.e_ksStore, Tw.e_kstR, Tw.e_km1T, Tw.e_kiSeq, Tw.e_kiRng, Tw.e_kiZip, Tw.e_kmake, Tw.e_kfset, Tw.e_kchRT, Tw.e_kchain2, Tw.e_kchain, Tw.e_ksl, Tw.e_ksl2, Tw.e_ksl3, Tw.e_ksPar, Tw.e_ksPar2, Tw.e_ksAug, Tw.e_ksAug2, Tw.e_kcp3, Tw.e_kcomp, Tw.e_kcomp2, Tw.e_coR, Tw.e_kco2, Tw.e_kco, Tw.e_co, Tw.e_callR, Tw.e_call, Tw.e_io0, Tw.e_io1, Tw.e_io1R, Tw.e_itR, Tw.e_iSeq, Tw.e_rgR, Tw.e_iRng, Tw.e_zpR, Tw.e_iZip, Tw.e_comp, Tw.e_comp2, Tw.e_wipe0, Tw.e_wipe1, Tw.e_bTp, Tw.e_bNil, Tw.e_bCons, Tw.e_mkR, Tw.e_make, Tw.e_fset, Tw.e_fsR, Tw.e_oo, Tw.e_ooR, Tw.e_coR2, Tw.tru_non, Tw.tru_bl, Tw.tru_int, Tw.tru_tup, Tw.tru_lst, Tw.asI_int, Tw.ints_nil, Tw.ints_cons, Tw.items_lst, Tw.items_tup, Tw.seqK_lst, Tw.seqK_tup, Tw.isN_int, Tw.isN_non, Tw.isN_tup, Tw.notN_int, Tw.notN_non, Tw.notN_tup, Tw.mul_int, Tw.add_int, Tw.sub_int, Tw.fdiv_int, Tw.mod_int, Tw.pow_int, Tw.lt_int, Tw.le_int, Tw.gt_int, Tw.ge_int, Tw.neg_int, Tw.imul_int, Tw.iadd_int, Tw.len_lst, Tw.len_tup, Tw.ix_lst, Tw.ix_tup, Tw.tuple_lst, Tw.tuple_tup, Tw.list_lst, Tw.list_tup, Tw.abs_int, Tw.intC_int, Tw.intC_bl, Tw.all_lst, Tw.any_lst, Tw.isi_2, Tw.tag_non, Tw.tag_bl, Tw.tag_int, Tw.tag_str, Tw.tag_tup, Tw.tag_lst, Tw.tag_obj, Tw.asT_ty, Tw.asT_cl, Tw.frz_int, Tw.frz_bl, Tw.frz_non, Tw.frz_ty, Tw.frz_cl, Tw.frz_scr, Tw.frz_tup, Tw.frz_lst, Tw.frz_obj, Tw.frzs_nil, Tw.frzs_cons, Tw.ok_int, Tw.ok_bl, Tw.ok_non, Tw.ok_tup, Tw.ok_lst, Tw.ok_obj, Tw.doks_nil, Tw.doks_cons, Tw.sl_scr, Tw.sl_lst, Tw.sl_tup, Tw.rev_lst, Tw.rev_tup, Tw.eq_int, Tw.ne_int, Tw.e_kcpB, Tw.e_cpB, Tw.e_compB, Tw.e_fgN, Tw.e_fgC, Tw.e_fgB, Tw.e_fgRt, Tw.e_fgR, Tw.e_for0, Tw.e_for1, Tw.e_cgF, Tw.e_cgT, Tw.e_cgR, Tw.e_neo, Tw.e_cg0, Tw.e_cg1, Tw.e_c2A, Tw.e_c2I, Tw.e_c2T, Tw.e_c2R, Tw.e_c20, Tw.e_c21, Tw.at5_0, Tw.at5_1, Tw.at5_2, Tw.at5_3, Tw.at5_4, Tw.ix5_1, Tw.ix5_2, Tw.ix5_3, Tw.ix5_4, Tw.ints_map, Tw.add_tup, Tw.add_lst, Tw.oks_rows, Tw.frzs_rows, Tw.rows_len, Tw.oks_int, Tw.frzs_int, Tw.oks_tI, Tw.ok_tI, Tw.frz_tI, Tw.e_bok, Tw.e_sbok, List.map_cons, List.map_nil, List.length_cons, List.length_nil, List.cons_append, List.nil_append, List.replicate, List.getElem?_cons_zero, List.getElem?_cons_succ, List.set_cons_zero, List.set_cons_succ, Option.bind_some, Option.map_some, Nat.zero_add, Nat.add_zero, Nat.reduceAdd, Nat.reduceSub, Nat.reduceLT, Nat.reduceLeDiff, Bool.and_true, Bool.true_and, Bool.and_self, Bool.not_true, Bool.not_false, Bool.false_and, Bool.and_false, Bool.or_true, Bool.true_or, Bool.or_false, Bool.false_or, if_true, if_false, Bool.false_eq_true, reduceCtorEq, ite_true, ite_false, decide_true, decide_false, decide_eq_true_eq, ne_eq, Int.reduceEq, not_false_eq_true, not_true_eq_false, List.length_map, Option.map_none, Int.reduceNeg]
end K01
namespace K01
open PySem PySem.Spec PyProof.Rows L2 Tw
theorem Sz.pos {ns : List Int} (h : Sz ns) : ∀ s ∈ ns, 0 < s := fun s hs => by have := h.2.2 s hs; omega
theorem eq_rows {m m' : Bool} (ls : List (List Int)) : gEq [.lst m (rows ls), .lst m' (rows ls)] = some (.bl true) := (eq_same (n := 2) (num_lst (num_rows ls)) (by decide) (py_lst m' m _)).1
theorem ne_rows {m m' : Bool} (ls : List (List Int)) : gNe [.lst m (rows ls), .lst m' (rows ls)] = some (.bl false) := (eq_same (n := 2) (num_lst (num_rows ls)) (by decide) (py_lst m' m _)).2
theorem ne_trows (ls : List (List Int)) : gNe [.tup (rows ls), .tup (rows ls)] = some (.bl false) := (eq_same (n := 2) (num_tup (num_rows ls)) (by decide) rfl).2
theorem ne_ints (ls : List Int) : gNe [.tup (ls.map .int), .tup (ls.map .int)] = some (.bl false) := (eq_same (n := 1) (num_tup (num_ints ls)) (by decide) rfl).2
theorem allOf_P {sizes : List Int} {P : Nat} (h : Sz sizes) (e2 : (List.range P).map (fun n : Nat => counted sizes n) = allOf sizes) : P ≤ 4096 := by
  have := allOf_len (sizes := sizes) (fun s hs => (h.b s hs).2) h.2.1
  rwa [← e2, List.length_map, List.length_range] at this
theorem prod_loop {sizes : List Int} {A : D} {y3 y4 y5 y6 : Option D} (h : Sz sizes) : ∃ y, forGo (bNm 2) (sSeq (sAsg (bNm 1) (fN gMul [(.val (fVar 1)), (.val (fVar 2))])) sNil) (sizes.map .int) [some A, some (.int 1), none, y3, y4, y5, y6] = .next [some A, some (.int (prodI sizes)), y, y3, y4, y5, y6] := by
  obtain ⟨env', ⟨y, rfl⟩, e⟩ := for_fold (bd := bNm 2) (g := D.int) (body := sSeq (sAsg (bNm 1) (fN gMul [(.val (fVar 1)), (.val (fVar 2))])) sNil) (fun (b : Int) env => ∃ y, env = [some A, some (.int b), y, y3, y4, y5, y6]) (· * ·) sizes 1 [some A, some (.int 1), none, y3, y4, y5, y6] ⟨none, rfl⟩ fun s hs b env he => by
    obtain ⟨y, rfl⟩ := he
    refine ⟨_, ⟨some (.int s), rfl⟩, fun ds => ?_⟩
    have := h.2.2 s hs
    have c : CMul b s := cm_lit _ _ (by omega)
    simp only [c, Tw.e_run, Tw.e_rtR, Tw.e_rtX, Tw.e_rtN, Tw.e_io_nil, Tw.e_io_one, Tw.e_ioR1, Tw.e_seq, Tw.e_seqN, Tw.e_seqR, Tw.e_seqB, Tw.e_seqC, Tw.e_sNil, Tw.e_sBrk, Tw.e_sCont, Tw.e_sRet, Tw.e_sExpr, Tw.e_sIf, Tw.e_sAsg, Tw.e_nxR, Tw.e_bNm, Tw.e_sPar, Tw.e_sFor, Tw.e_sAug, Tw.e_augR, Tw.e_own, Tw.e_ownR, Tw.e_stR2, Tw.e_sStore, Tw.e_stR, Tw.e_stR3, Tw.e_m1R, Tw.e_m1S, Tw.e_m1T, Tw.e_mt1, Tw.e_m0S, Tw.e_mt0, Tw.e_var, Tw.e_varR, Tw.e_move, Tw.e_moveR, Tw.e_K, Tw.e_nil, Tw.e_val, Tw.e_slot, Tw.e_slotR, Tw.e_gnil, Tw.e_gval, Tw.e_gvR, Tw.e_gslot, Tw.e_gsR, Tw.e_gR, Tw.e_gpR, Tw.e_N, Tw.e_vals0, Tw.e_vals1, Tw.e_tup, Tw.e_lst, Tw.e_and, Tw.e_andT, Tw.e_andF, Tw.e_or, Tw.e_orT, Tw.e_orF, Tw.e_not, Tw.e_notR, Tw.e_bE, Tw.e_bR, Tw.e_bAnd, Tw.e_bOr, Tw.e_bNot, Tw.e_bTrue, Tw.e_if, Tw.e_chR2, Tw.e_chRT, Tw.e_chRF, Tw.e_chain, Tw.e_part0, Tw.e_part, Tw.e_partR, Tw.e_sl, Tw.e_rev, Tw.e_kval, Tw.e_kval2, Tw.e_kN, Tw.e_ktup, Tw.e_klst, Tw.e_kand, Tw.e_kor, Tw.e_knot, Tw.e_kbE, Tw.e_kbAnd, Tw.e_kbOr, Tw.e_kbNot, Tw.e_kif, Tw.e_kpart, Tw.e_krev, Tw.e_kcall, Tw.e_ksRet, Tw.e_ksExpr, Tw.e_ksIf, Tw.e_ksAsg, Tw.e_ksFor, Tw.e_ksStore, Tw.e_kstR, Tw.e_km1T, Tw.e_kiSeq, Tw.e_kiRng, Tw.e_kiZip, Tw.e_kmake, Tw.e_kfset, Tw.e_kchRT, Tw.e_kchain2, Tw.e_kchain, Tw.e_ksl, Tw.e_ksl2, Tw.e_ksl3, Tw.e_ksPar, Tw.e_ksPar2, Tw.e_ksAug, Tw.e_ksAug2, Tw.e_kcp3, Tw.e_kcomp, Tw.e_kcomp2, Tw.e_coR, Tw.e_kco2, Tw.e_kco, Tw.e_co, Tw.e_callR, Tw.e_call, Tw.e_io0, Tw.e_io1, Tw.e_io1R, Tw.e_itR, Tw.e_iSeq, Tw.e_rgR, Tw.e_iRng, Tw.e_zpR, Tw.e_iZip, Tw.e_comp, Tw.e_comp2, Tw.e_wipe0, Tw.e_wipe1, Tw.e_bTp, Tw.e_bNil, Tw.e_bCons, Tw.e_mkR, Tw.e_make, Tw.e_fset, Tw.e_fsR, Tw.e_oo, Tw.e_ooR, Tw.e_coR2, Tw.tru_non, Tw.tru_bl, Tw.tru_int, Tw.tru_tup, Tw.tru_lst, Tw.asI_int, Tw.ints_nil, Tw.ints_cons, Tw.items_lst, Tw.items_tup, Tw.seqK_lst, Tw.seqK_tup, Tw.isN_int, Tw.isN_non, Tw.isN_tup, Tw.notN_int, Tw.notN_non, Tw.notN_tup, Tw.mul_int, Tw.add_int, Tw.sub_int, Tw.fdiv_int, Tw.mod_int, Tw.pow_int, Tw.lt_int, Tw.le_int, Tw.gt_int, Tw.ge_int, Tw.neg_int, Tw.imul_int, Tw.iadd_int, Tw.len_lst, Tw.len_tup, Tw.ix_lst, Tw.ix_tup, Tw.tuple_lst, Tw.tuple_tup, Tw.list_lst, Tw.list_tup, Tw.abs_int, Tw.intC_int, Tw.intC_bl, Tw.all_lst, Tw.any_lst, Tw.isi_2, Tw.tag_non, Tw.tag_bl, Tw.tag_int, Tw.tag_str, Tw.tag_tup, Tw.tag_lst, Tw.tag_obj, Tw.asT_ty, Tw.asT_cl, Tw.frz_int, Tw.frz_bl, Tw.frz_non, Tw.frz_ty, Tw.frz_cl, Tw.frz_scr, Tw.frz_tup, Tw.frz_lst, Tw.frz_obj, Tw.frzs_nil, Tw.frzs_cons, Tw.ok_int, Tw.ok_bl, Tw.ok_non, Tw.ok_tup, Tw.ok_lst, Tw.ok_obj, Tw.doks_nil, Tw.doks_cons, Tw.sl_scr, Tw.sl_lst, Tw.sl_tup, Tw.rev_lst, Tw.rev_tup, Tw.eq_int, Tw.ne_int, Tw.e_kcpB, Tw.e_cpB, Tw.e_compB, Tw.e_fgN, Tw.e_fgC, Tw.e_fgB, Tw.e_fgRt, Tw.e_fgR, Tw.e_for0, Tw.e_for1, Tw.e_cgF, Tw.e_cgT, Tw.e_cgR, Tw.e_neo, Tw.e_cg0, Tw.e_cg1, Tw.e_c2A, Tw.e_c2I, Tw.e_c2T, Tw.e_c2R, Tw.e_c20, Tw.e_c21, Tw.at5_0, Tw.at5_1, Tw.at5_2, Tw.at5_3, Tw.at5_4, Tw.ix5_1, Tw.ix5_2, Tw.ix5_3, Tw.ix5_4, Tw.ints_map, Tw.add_tup, Tw.add_lst, Tw.oks_rows, Tw.frzs_rows, Tw.rows_len, Tw.oks_int, Tw.frzs_int, Tw.oks_tI, Tw.ok_tI, Tw.frz_tI, Tw.e_bok, Tw.e_sbok, List.map_cons, List.map_nil, List.length_cons, List.length_nil, List.cons_append, List.nil_append, List.replicate, List.getElem?_cons_zero, List.getElem?_cons_succ, List.set_cons_zero, List.set_cons_succ, Option.bind_some, Option.map_some, Nat.zero_add, Nat.add_zero, Nat.reduceAdd, Nat.reduceSub, Nat.reduceLT, Nat.reduceLeDiff, Bool.and_true, Bool.true_and, Bool.and_self, Bool.not_true, Bool.not_false, Bool.false_and, Bool.and_false, Bool.or_true, Bool.true_or, Bool.or_false, Bool.false_or, if_true, if_false, Bool.false_eq_true, reduceCtorEq, ite_true, ite_false, decide_true, decide_false, decide_eq_true_eq, ne_eq, Int.reduceEq, not_false_eq_true, not_true_eq_false, List.length_map, Option.map_none, Int.reduceNeg]
  exact ⟨y, e⟩
theorem listed_ok {sizes : List Int} (h : Sz sizes) : h__law_listed_right [.tup (sizes.map .int)] = .ret (.bl true) [] := by
  obtain ⟨P, e1, e2⟩ := counted_all h.pos
  have hP := allOf_P h e2
  obtain ⟨y, e⟩ := prod_loop (A := .tup (sizes.map .int)) (y3 := none) (y4 := none) (y5 := none) (y6 := none) h
  rw [e1] at e
  have hr : rngOf [(P : Int)] = some (0, P) := rngOf_n (by omega)
  have hr2 : rngOf [(sizes.length : Int)] = some (0, sizes.length) := rngOf_n (by have := h.2.1; omega)
  have l1 : lenOk P = true := lenOk_of (by omega)
  have l2 : lenOk sizes.length = true := lenOk_of (by have := h.2.1; omega)
  have k1 := comp_map1 (vs := [4]) (b := bNm 4) (t := bTrue) (f := fCall [] h__law_counted [(.val (fVar 0)), (.val (fVar 4))]) (g := fun n : Nat => D.int (n : Int)) (env := [some (.tup (sizes.map .int)), some (.int P), y, none, none, none, none])
    (fun n : Nat => D.tup ((counted sizes n).map .int)) (List.range P) fun n hn ds acc => by
      have ec := counted_ok (n := (n : Int)) h.2.2 h.2.1
      simp only [ec, Tw.e_run, Tw.e_rtR, Tw.e_rtX, Tw.e_rtN, Tw.e_io_nil, Tw.e_io_one, Tw.e_ioR1, Tw.e_seq, Tw.e_seqN, Tw.e_seqR, Tw.e_seqB, Tw.e_seqC, Tw.e_sNil, Tw.e_sBrk, Tw.e_sCont, Tw.e_sRet, Tw.e_sExpr, Tw.e_sIf, Tw.e_sAsg, Tw.e_nxR, Tw.e_bNm, Tw.e_sPar, Tw.e_sFor, Tw.e_sAug, Tw.e_augR, Tw.e_own, Tw.e_ownR, Tw.e_stR2, Tw.e_sStore, Tw.e_stR, Tw.e_stR3, Tw.e_m1R, Tw.e_m1S, Tw.e_m1T, Tw.e_mt1, Tw.e_m0S, Tw.e_mt0, Tw.e_var, Tw.e_varR, Tw.e_move, Tw.e_moveR, Tw.e_K, Tw.e_nil, Tw.e_val, Tw.e_slot, Tw.e_slotR, Tw.e_gnil, Tw.e_gval, Tw.e_gvR, Tw.e_gslot, Tw.e_gsR, Tw.e_gR, Tw.e_gpR, Tw.e_N, Tw.e_vals0, Tw.e_vals1, Tw.e_tup, Tw.e_lst, Tw.e_and, Tw.e_andT, Tw.e_andF, Tw.e_or, Tw.e_orT, Tw.e_orF, Tw.e_not, Tw.e_notR, Tw.e_bE, Tw.e_bR, Tw.e_bAnd, Tw.e_bOr, Tw.e_bNot, Tw.e_bTrue, Tw.e_if, Tw.e_chR2, Tw.e_chRT, Tw.e_chRF, Tw.e_chain, Tw.e_part0, Tw.e_part, Tw.e_partR, Tw.e_sl, Tw.e_rev, Tw.e_kval, Tw.e_kval2, Tw.e_kN, Tw.e_ktup, Tw.e_klst, Tw.e_kand, Tw.e_kor, Tw.e_knot, Tw.e_kbE, Tw.e_kbAnd, Tw.e_kbOr, Tw.e_kbNot, Tw.e_kif, Tw.e_kpart, Tw.e_krev, Tw.e_kcall, Tw.e_ksRet, Tw.e_ksExpr, Tw.e_ksIf, Tw.e_ksAsg, Tw.e_ksFor, Tw.e_ksStore, Tw.e_kstR, Tw.e_km1T, Tw.e_kiSeq, Tw.e_kiRng, Tw.e_kiZip, Tw.e_kmake, Tw.e_kfset, Tw.e_kchRT, Tw.e_kchain2, Tw.e_kchain, Tw.e_ksl, Tw.e_ksl2, Tw.e_ksl3, Tw.e_ksPar, Tw.e_ksPar2, Tw.e_ksAug, Tw.e_ksAug2, Tw.e_kcp3, Tw.e_kcomp, Tw.e_kcomp2, Tw.e_coR, Tw.e_kco2, Tw.e_kco, Tw.e_co, Tw.e_callR, Tw.e_call, Tw.e_io0, Tw.e_io1, Tw.e_io1R, Tw.e_itR, Tw.e_iSeq, Tw.e_rgR, Tw.e_iRng, Tw.e_zpR, Tw.e_iZip, Tw.e_comp, Tw.e_comp2, Tw.e_wipe0, Tw.e_wipe1, Tw.e_bTp, Tw.e_bNil, Tw.e_bCons, Tw.e_mkR, Tw.e_make, Tw.e_fset, Tw.e_fsR, Tw.e_oo, Tw.e_ooR, Tw.e_coR2, Tw.tru_non, Tw.tru_bl, Tw.tru_int, Tw.tru_tup, Tw.tru_lst, Tw.asI_int, Tw.ints_nil, Tw.ints_cons, Tw.items_lst, Tw.items_tup, Tw.seqK_lst, Tw.seqK_tup, Tw.isN_int, Tw.isN_non, Tw.isN_tup, Tw.notN_int, Tw.notN_non, Tw.notN_tup, Tw.mul_int, Tw.add_int, Tw.sub_int, Tw.fdiv_int, Tw.mod_int, Tw.pow_int, Tw.lt_int, Tw.le_int, Tw.gt_int, Tw.ge_int, Tw.neg_int, Tw.imul_int, Tw.iadd_int, Tw.len_lst, Tw.len_tup, Tw.ix_lst, Tw.ix_tup, Tw.tuple_lst, Tw.tuple_tup, Tw.list_lst, Tw.list_tup, Tw.abs_int, Tw.intC_int, Tw.intC_bl, Tw.all_lst, Tw.any_lst, Tw.isi_2, Tw.tag_non, Tw.tag_bl, Tw.tag_int, Tw.tag_str, Tw.tag_tup, Tw.tag_lst, Tw.tag_obj, Tw.asT_ty, Tw.asT_cl, Tw.frz_int, Tw.frz_bl, Tw.frz_non, Tw.frz_ty, Tw.frz_cl, Tw.frz_scr, Tw.frz_tup, Tw.frz_lst, Tw.frz_obj, Tw.frzs_nil, Tw.frzs_cons, Tw.ok_int, Tw.ok_bl, Tw.ok_non, Tw.ok_tup, Tw.ok_lst, Tw.ok_obj, Tw.doks_nil, Tw.doks_cons, Tw.sl_scr, Tw.sl_lst, Tw.sl_tup, Tw.rev_lst, Tw.rev_tup, Tw.eq_int, Tw.ne_int, Tw.e_kcpB, Tw.e_cpB, Tw.e_compB, Tw.e_fgN, Tw.e_fgC, Tw.e_fgB, Tw.e_fgRt, Tw.e_fgR, Tw.e_for0, Tw.e_for1, Tw.e_cgF, Tw.e_cgT, Tw.e_cgR, Tw.e_neo, Tw.e_cg0, Tw.e_cg1, Tw.e_c2A, Tw.e_c2I, Tw.e_c2T, Tw.e_c2R, Tw.e_c20, Tw.e_c21, Tw.at5_0, Tw.at5_1, Tw.at5_2, Tw.at5_3, Tw.at5_4, Tw.ix5_1, Tw.ix5_2, Tw.ix5_3, Tw.ix5_4, Tw.ints_map, Tw.add_tup, Tw.add_lst, Tw.oks_rows, Tw.frzs_rows, Tw.rows_len, Tw.oks_int, Tw.frzs_int, Tw.oks_tI, Tw.ok_tI, Tw.frz_tI, Tw.e_bok, Tw.e_sbok, List.map_cons, List.map_nil, List.length_cons, List.length_nil, List.cons_append, List.nil_append, List.replicate, List.getElem?_cons_zero, List.getElem?_cons_succ, List.set_cons_zero, List.set_cons_succ, Option.bind_some, Option.map_some, Nat.zero_add, Nat.add_zero, Nat.reduceAdd, Nat.reduceSub, Nat.reduceLT, Nat.reduceLeDiff, Bool.and_true, Bool.true_and, Bool.and_self, Bool.not_true, Bool.not_false, Bool.false_and, Bool.and_false, Bool.or_true, Bool.true_or, Bool.or_false, Bool.false_or, if_true, if_false, Bool.false_eq_true, reduceCtorEq, ite_true, ite_false, decide_true, decide_false, decide_eq_true_eq, ne_eq, Int.reduceEq, not_false_eq_true, not_true_eq_false, List.length_map, Option.map_none, Int.reduceNeg]
  have er : (List.range P).map (fun n : Nat => D.tup ((counted sizes n).map .int)) = rows (allOf sizes) := by
    rw [← e2]; unfold rows; rw [List.map_map]; rfl
  rw [er] at k1
  have ec := contents_ok h
  have es := singles_ok h
  have k2 := fun (A B : Option D) => comp_map1 (vs := [6]) (b := bNm 6) (t := bTrue) (f := fTup [fVar 6]) (g := fun i : Nat => D.int (i : Int)) (env := [some (.tup (sizes.map .int)), some (.int P), y, A, none, B, none]) (fun i : Nat => .tup [.int (i : Int)]) (List.range sizes.length) fun x hx ds acc => by
    simp only [Tw.e_run, Tw.e_rtR, Tw.e_rtX, Tw.e_rtN, Tw.e_io_nil, Tw.e_io_one, Tw.e_ioR1, Tw.e_seq, Tw.e_seqN, Tw.e_seqR, Tw.e_seqB, Tw.e_seqC, Tw.e_sNil, Tw.e_sBrk, Tw.e_sCont, Tw.e_sRet, Tw.e_sExpr, Tw.e_sIf, Tw.e_sAsg, Tw.e_nxR, Tw.e_bNm, Tw.e_sPar, Tw.e_sFor, Tw.e_sAug, Tw.e_augR, Tw.e_own, Tw.e_ownR, Tw.e_stR2, Tw.e_sStore, Tw.e_stR, Tw.e_stR3, Tw.e_m1R, Tw.e_m1S, Tw.e_m1T, Tw.e_mt1, Tw.e_m0S, Tw.e_mt0, Tw.e_var, Tw.e_varR, Tw.e_move, Tw.e_moveR, Tw.e_K, Tw.e_nil, Tw.e_val, Tw.e_slot, Tw.e_slotR, Tw.e_gnil, Tw.e_gval, Tw.e_gvR, Tw.e_gslot, Tw.e_gsR, Tw.e_gR, Tw.e_gpR, Tw.e_N, Tw.e_vals0, Tw.e_vals1, Tw.e_tup, Tw.e_lst, Tw.e_and, Tw.e_andT, Tw.e_andF, Tw.e_or, Tw.e_orT, Tw.e_orF, Tw.e_not, Tw.e_notR, Tw.e_bE, Tw.e_bR, Tw.e_bAnd, Tw.e_bOr, Tw.e_bNot, Tw.e_bTrue, Tw.e_if, Tw.e_chR2, Tw.e_chRT, Tw.e_chRF, Tw.e_chain, Tw.e_part0, Tw.e_part, Tw.e_partR, Tw.e_sl, Tw.e_rev, Tw.e_kval, Tw.e_kval2, Tw.e_kN, Tw.e_ktup, Tw.e_klst, Tw.e_kand, Tw.e_kor, Tw.e_knot, Tw.e_kbE, Tw.e_kbAnd, Tw.e_kbOr, Tw.e_kbNot, Tw.e_kif, Tw.e_kpart, Tw.e_krev, Tw.e_kcall, Tw.e_ksRet, Tw.e_ksExpr, Tw.e_ksIf, Tw.e_ksAsg, Tw.e_ksFor, Tw.e_ksStore, Tw.e_kstR, Tw.e_km1T, Tw.e_kiSeq, Tw.e_kiRng, Tw.e_kiZip, Tw.e_kmake, Tw.e_kfset, Tw.e_kchRT, Tw.e_kchain2, Tw.e_kchain, Tw.e_ksl, Tw.e_ksl2, Tw.e_ksl3, Tw.e_ksPar, Tw.e_ksPar2, Tw.e_ksAug, Tw.e_ksAug2, Tw.e_kcp3, Tw.e_kcomp, Tw.e_kcomp2, Tw.e_coR, Tw.e_kco2, Tw.e_kco, Tw.e_co, Tw.e_callR, Tw.e_call, Tw.e_io0, Tw.e_io1, Tw.e_io1R, Tw.e_itR, Tw.e_iSeq, Tw.e_rgR, Tw.e_iRng, Tw.e_zpR, Tw.e_iZip, Tw.e_comp, Tw.e_comp2, Tw.e_wipe0, Tw.e_wipe1, Tw.e_bTp, Tw.e_bNil, Tw.e_bCons, Tw.e_mkR, Tw.e_make, Tw.e_fset, Tw.e_fsR, Tw.e_oo, Tw.e_ooR, Tw.e_coR2, Tw.tru_non, Tw.tru_bl, Tw.tru_int, Tw.tru_tup, Tw.tru_lst, Tw.asI_int, Tw.ints_nil, Tw.ints_cons, Tw.items_lst, Tw.items_tup, Tw.seqK_lst, Tw.seqK_tup, Tw.isN_int, Tw.isN_non, Tw.isN_tup, Tw.notN_int, Tw.notN_non, Tw.notN_tup, Tw.mul_int, Tw.add_int, Tw.sub_int, Tw.fdiv_int, Tw.mod_int, Tw.pow_int, Tw.lt_int, Tw.le_int, Tw.gt_int, Tw.ge_int, Tw.neg_int, Tw.imul_int, Tw.iadd_int, Tw.len_lst, Tw.len_tup, Tw.ix_lst, Tw.ix_tup, Tw.tuple_lst, Tw.tuple_tup, Tw.list_lst, Tw.list_tup, Tw.abs_int, Tw.intC_int, Tw.intC_bl, Tw.all_lst, Tw.any_lst, Tw.isi_2, Tw.tag_non, Tw.tag_bl, Tw.tag_int, Tw.tag_str, Tw.tag_tup, Tw.tag_lst, Tw.tag_obj, Tw.asT_ty, Tw.asT_cl, Tw.frz_int, Tw.frz_bl, Tw.frz_non, Tw.frz_ty, Tw.frz_cl, Tw.frz_scr, Tw.frz_tup, Tw.frz_lst, Tw.frz_obj, Tw.frzs_nil, Tw.frzs_cons, Tw.ok_int, Tw.ok_bl, Tw.ok_non, Tw.ok_tup, Tw.ok_lst, Tw.ok_obj, Tw.doks_nil, Tw.doks_cons, Tw.sl_scr, Tw.sl_lst, Tw.sl_tup, Tw.rev_lst, Tw.rev_tup, Tw.eq_int, Tw.ne_int, Tw.e_kcpB, Tw.e_cpB, Tw.e_compB, Tw.e_fgN, Tw.e_fgC, Tw.e_fgB, Tw.e_fgRt, Tw.e_fgR, Tw.e_for0, Tw.e_for1, Tw.e_cgF, Tw.e_cgT, Tw.e_cgR, Tw.e_neo, Tw.e_cg0, Tw.e_cg1, Tw.e_c2A, Tw.e_c2I, Tw.e_c2T, Tw.e_c2R, Tw.e_c20, Tw.e_c21, Tw.at5_0, Tw.at5_1, Tw.at5_2, Tw.at5_3, Tw.at5_4, Tw.ix5_1, Tw.ix5_2, Tw.ix5_3, Tw.ix5_4, Tw.ints_map, Tw.add_tup, Tw.add_lst, Tw.oks_rows, Tw.frzs_rows, Tw.rows_len, Tw.oks_int, Tw.frzs_int, Tw.oks_tI, Tw.ok_tI, Tw.frz_tI, Tw.e_bok, Tw.e_sbok, List.map_cons, List.map_nil, List.length_cons, List.length_nil, List.cons_append, List.nil_append, List.replicate, List.getElem?_cons_zero, List.getElem?_cons_succ, List.set_cons_zero, List.set_cons_succ, Option.bind_some, Option.map_some, Nat.zero_add, Nat.add_zero, Nat.reduceAdd, Nat.reduceSub, Nat.reduceLT, Nat.reduceLeDiff, Bool.and_true, Bool.true_and, Bool.and_self, Bool.not_true, Bool.not_false, Bool.false_and, Bool.and_false, Bool.or_true, Bool.true_or, Bool.or_false, Bool.false_or, if_true, if_false, Bool.false_eq_true, reduceCtorEq, ite_true, ite_false, decide_true, decide_false, decide_eq_true_eq, ne_eq, Int.reduceEq, not_false_eq_true, not_true_eq_false, List.length_map, Option.map_none, Int.reduceNeg]
  have er2 : rows ((List.range sizes.length).map fun i : Nat => [(i : Int)]) = (List.range sizes.length).map fun i : Nat => D.tup [.int (i : Int)] := by
    unfold rows; rw [List.map_map]; rfl
  rw [← er2] at k2
  have l3 : lenOk ((allOf sizes).length + 1) = true := lenOk_of (by have := allOf_len (sizes := sizes) (fun s hs => (h.b s hs).2) h.2.1; omega)
  simp only [h__law_listed_right, b__law_listed_right, e, hr, hr2, rngD_0, List.length_range, l1, l2, k1, k2, ec, es, isa_29, ne_rows, ne_trows, eq_rows, append_1, l3, Tw.e_run, Tw.e_rtR, Tw.e_rtX, Tw.e_rtN, Tw.e_io_nil, Tw.e_io_one, Tw.e_ioR1, Tw.e_seq, Tw.e_seqN, Tw.e_seqR, Tw.e_seqB, Tw.e_seqC, Tw.e_sNil, Tw.e_sBrk, Tw.e_sCont, Tw.e_sRet, Tw.e_sExpr, Tw.e_sIf, Tw.e_sAsg, Tw.e_nxR, Tw.e_bNm, Tw.e_sPar, Tw.e_sFor, Tw.e_sAug, Tw.e_augR, Tw.e_own, Tw.e_ownR, Tw.e_stR2, Tw.e_sStore, Tw.e_stR, Tw.e_stR3, Tw.e_m1R, Tw.e_m1S, Tw.e_m1T, Tw.e_mt1, Tw.e_m0S, Tw.e_mt0, Tw.e_var, Tw.e_varR, Tw.e_move, Tw.e_moveR, Tw.e_K, Tw.e_nil, Tw.e_val, Tw.e_slot, Tw.e_slotR, Tw.e_gnil, Tw.e_gval, Tw.e_gvR, Tw.e_gslot, Tw.e_gsR, Tw.e_gR, Tw.e_gpR, Tw.e_N, Tw.e_vals0, Tw.e_vals1, Tw.e_tup, Tw.e_lst, Tw.e_and, Tw.e_andT, Tw.e_andF, Tw.e_or, Tw.e_orT, Tw.e_orF, Tw.e_not, Tw.e_notR, Tw.e_bE, Tw.e_bR, Tw.e_bAnd, Tw.e_bOr, Tw.e_bNot, Tw.e_bTrue, Tw.e_if, Tw.e_chR2, Tw.e_chRT, Tw.e_chRF, Tw.e_chain, Tw.e_part0, Tw.e_part, Tw.e_partR, Tw.e_sl, Tw.e_rev, Tw.e_kval, Tw.e_kval2, Tw.e_kN, Tw.e_ktup, Tw.e_klst, Tw.e_kand, Tw.e_kor, Tw.e_knot, Tw.e_kbE, Tw.e_kbAnd, Tw.e_kbOr, Tw.e_kbNot, Tw.e_kif, Tw.e_kpart, Tw.e_krev, Tw.e_kcall, Tw.e_ksRet, Tw.e_ksExpr, Tw.e_ksIf, Tw.e_ksAsg, Tw.e_ksFor, Tw.e_ksStore, Tw.e_kstR, Tw.e_km1T, Tw.e_kiSeq, Tw.e_kiRng, Tw.e_kiZip, Tw.e_kmake, Tw.e_kfset, Tw.e_kchRT, Tw.e_kchain2, Tw.e_kchain, Tw.e_ksl, Tw.e_ksl2, Tw.e_ksl3, Tw.e_ksPar, Tw.e_ksPar2, Tw.e_ksAug, Tw.e_ksAug2, Tw.e_kcp3, Tw.e_kcomp, Tw.e_kcomp2, Tw.e_coR, Tw.e_kco2, Tw.e_kco, Tw.e_co, Tw.e_callR, Tw.e_call, Tw.e_io0, Tw.e_io1, Tw.e_io1R, Tw.e_itR, Tw.e_iSeq, Tw.e_rgR, Tw.e_iRng, Tw.e_zpR, Tw.e_iZip, Tw.e_comp, Tw.e_comp2, Tw.e_wipe0, Tw.e_wipe1, Tw.e_bTp, Tw.e_bNil, Tw.e_bCons, Tw.e_mkR, Tw.e_make, Tw.e_fset, Tw.e_fsR, Tw.e_oo, Tw.e_ooR, Tw.e_coR2, Tw.tru_non, Tw.tru_bl, Tw.tru_int, Tw.tru_tup, Tw.tru_lst, Tw.asI_int, Tw.ints_nil, Tw.ints_cons, Tw.items_lst, Tw.items_tup, Tw.seqK_lst, Tw.seqK_tup, Tw.isN_int, Tw.isN_non, Tw.isN_tup, Tw.notN_int, Tw.notN_non, Tw.notN_tup, Tw.mul_int, Tw.add_int, Tw.sub_int, Tw.fdiv_int, Tw.mod_int, Tw.pow_int, Tw.lt_int, Tw.le_int, Tw.gt_int, Tw.ge_int, Tw.neg_int, Tw.imul_int, Tw.iadd_int, Tw.len_lst, Tw.len_tup, Tw.ix_lst, Tw.ix_tup, Tw.tuple_lst, Tw.tuple_tup, Tw.list_lst, Tw.list_tup, Tw.abs_int, Tw.intC_int, Tw.intC_bl, Tw.all_lst, Tw.any_lst, Tw.isi_2, Tw.tag_non, Tw.tag_bl, Tw.tag_int, Tw.tag_str, Tw.tag_tup, Tw.tag_lst, Tw.tag_obj, Tw.asT_ty, Tw.asT_cl, Tw.frz_int, Tw.frz_bl, Tw.frz_non, Tw.frz_ty, Tw.frz_cl, Tw.frz_scr, Tw.frz_tup, Tw.frz_lst, Tw.frz_obj, Tw.frzs_nil, Tw.frzs_cons, Tw.ok_int, Tw.ok_bl, Tw.ok_non, Tw.ok_tup, Tw.ok_lst, Tw.ok_obj, Tw.doks_nil, Tw.doks_cons, Tw.sl_scr, Tw.sl_lst, Tw.sl_tup, Tw.rev_lst, Tw.rev_tup, Tw.eq_int, Tw.ne_int, Tw.e_kcpB, Tw.e_cpB, Tw.e_compB, Tw.e_fgN, Tw.e_fgC, Tw.e_fgB, Tw.e_fgRt, Tw.e_fgR, Tw.e_for0, Tw.e_for1, Tw.e_cgF, Tw.e_cgT, Tw.e_cgR, Tw.e_neo, Tw.e_cg0, Tw.e_cg1, Tw.e_c2A, Tw.e_c2I, Tw.e_c2T, Tw.e_c2R, Tw.e_c20, Tw.e_c21, Tw.at5_0, Tw.at5_1, Tw.at5_2, Tw.at5_3, Tw.at5_4, Tw.ix5_1, Tw.ix5_2, Tw.ix5_3, Tw.ix5_4, Tw.ints_map, Tw.add_tup, Tw.add_lst, Tw.oks_rows, Tw.frzs_rows, Tw.rows_len, Tw.oks_int, Tw.frzs_int, Tw.oks_tI, Tw.ok_tI, Tw.frz_tI, Tw.e_bok, Tw.e_sbok, List.map_cons, List.map_nil, List.length_cons, List.length_nil, List.cons_append, List.nil_append, List.replicate, List.getElem?_cons_zero, List.getElem?_cons_succ, List.set_cons_zero, List.set_cons_succ, Option.bind_some, Option.map_some, Nat.zero_add, Nat.add_zero, Nat.reduceAdd, Nat.reduceSub, Nat.reduceLT, Nat.reduceLeDiff, Bool.and_true, Bool.true_and, Bool.and_self, Bool.not_true, Bool.not_false, Bool.false_and, Bool.and_false, Bool.or_true, Bool.true_or, Bool.or_false, Bool.false_or, if_true, if_false, Bool.false_eq_true, reduceCtorEq, ite_true, ite_false, decide_true, decide_false, decide_eq_true_eq, ne_eq, Int.reduceEq, not_false_eq_true, not_true_eq_false, List.length_map, Option.map_none, Int.reduceNeg]
/-! ### questions -/
def qst (m : Bool) (sizes some' : List Int) : D := .obj m 0 ["sizes", "answers"] [.tup (sizes.map .int), .tup (some'.map .int)]
theorem init_ok {sizes an : List Int} (h : Sz sizes) (hl : (an.length : Int) = prodI sizes) (hl2 : an.length ≤ 4096) (ha : ∀ a ∈ an, 0 ≤ a ∧ a ≤ 7) : h_Question_init [.obj true 0 [] [], .tup (sizes.map .int), .tup (an.map .int)] = .ret .non [qst true sizes an] := by
  have e1 := check_sizes_ok h
  have e2 := many_ok h
  have e3 : sizes.foldl (· * ·) 1 = (an.length : Int) := hl.symm
  rw [e3] at e2
  have l1 : lenOk an.length = true := lenOk_of (by omega)
  have key := comp_map1 (vs := [3]) (b := bNm 3) (t := bTrue) (f := fCall [] h_is_within [(.val (fVar 3)), (.val (fK (.int 0))), (.val (fK (.int 7)))]) (g := D.int) (env := [some (.obj true 0 [] []), some (.tup (sizes.map .int)), some (.tup (an.map .int)), none]) (fun _ => .bl true) an fun a ha' ds acc => by
    have a1 := (ha a ha').1
    have a2 := (ha a ha').2
    simp only [within_ok, a1, a2, Tw.e_run, Tw.e_rtR, Tw.e_rtX, Tw.e_rtN, Tw.e_io_nil, Tw.e_io_one, Tw.e_ioR1, Tw.e_seq, Tw.e_seqN, Tw.e_seqR, Tw.e_seqB, Tw.e_seqC, Tw.e_sNil, Tw.e_sBrk, Tw.e_sCont, Tw.e_sRet, Tw.e_sExpr, Tw.e_sIf, Tw.e_sAsg, Tw.e_nxR, Tw.e_bNm, Tw.e_sPar, Tw.e_sFor, Tw.e_sAug, Tw.e_augR, Tw.e_own, Tw.e_ownR, Tw.e_stR2, Tw.e_sStore, Tw.e_stR, Tw.e_stR3, Tw.e_m1R, Tw.e_m1S, Tw.e_m1T, Tw.e_mt1, Tw.e_m0S, Tw.e_mt0, Tw.e_var, Tw.e_varR, Tw.e_move, Tw.e_moveR, Tw.e_K, Tw.e_nil, Tw.e_val, Tw.e_slot, Tw.e_slotR, Tw.e_gnil, Tw.e_gval, Tw.e_gvR, Tw.e_gslot, Tw.e_gsR, Tw.e_gR, Tw.e_gpR, Tw.e_N, Tw.e_vals0, Tw.e_vals1, Tw.e_tup, Tw.e_lst, Tw.e_and, Tw.e_andT, Tw.e_andF, Tw.e_or, Tw.e_orT, Tw.e_orF, Tw.e_not, Tw.e_notR, Tw.e_bE, Tw.e_bR, Tw.e_bAnd, Tw.e_bOr, Tw.e_bNot, Tw.e_bTrue, Tw.e_if, Tw.e_chR2, Tw.e_chRT, Tw.e_chRF, Tw.e_chain, Tw.e_part0, Tw.e_part, Tw.e_partR, Tw.e_sl, Tw.e_rev, Tw.e_kval, Tw.e_kval2, Tw.e_kN, Tw.e_ktup, Tw.e_klst, Tw.e_kand, Tw.e_kor, Tw.e_knot, Tw.e_kbE, Tw.e_kbAnd, Tw.e_kbOr, Tw.e_kbNot, Tw.e_kif, Tw.e_kpart, Tw.e_krev, Tw.e_kcall, Tw.e_ksRet, Tw.e_ksExpr, Tw.e_ksIf, Tw.e_ksAsg, Tw.e_ksFor, Tw.e_ksStore, Tw.e_kstR, Tw.e_km1T, Tw.e_kiSeq, Tw.e_kiRng, Tw.e_kiZip, Tw.e_kmake, Tw.e_kfset, Tw.e_kchRT, Tw.e_kchain2, Tw.e_kchain, Tw.e_ksl, Tw.e_ksl2, Tw.e_ksl3, Tw.e_ksPar, Tw.e_ksPar2, Tw.e_ksAug, Tw.e_ksAug2, Tw.e_kcp3, Tw.e_kcomp, Tw.e_kcomp2, Tw.e_coR, Tw.e_kco2, Tw.e_kco, Tw.e_co, Tw.e_callR, Tw.e_call, Tw.e_io0, Tw.e_io1, Tw.e_io1R, Tw.e_itR, Tw.e_iSeq, Tw.e_rgR, Tw.e_iRng, Tw.e_zpR, Tw.e_iZip, Tw.e_comp, Tw.e_comp2, Tw.e_wipe0, Tw.e_wipe1, Tw.e_bTp, Tw.e_bNil, Tw.e_bCons, Tw.e_mkR, Tw.e_make, Tw.e_fset, Tw.e_fsR, Tw.e_oo, Tw.e_ooR, Tw.e_coR2, Tw.tru_non, Tw.tru_bl, Tw.tru_int, Tw.tru_tup, Tw.tru_lst, Tw.asI_int, Tw.ints_nil, Tw.ints_cons, Tw.items_lst, Tw.items_tup, Tw.seqK_lst, Tw.seqK_tup, Tw.isN_int, Tw.isN_non, Tw.isN_tup, Tw.notN_int, Tw.notN_non, Tw.notN_tup, Tw.mul_int, Tw.add_int, Tw.sub_int, Tw.fdiv_int, Tw.mod_int, Tw.pow_int, Tw.lt_int, Tw.le_int, Tw.gt_int, Tw.ge_int, Tw.neg_int, Tw.imul_int, Tw.iadd_int, Tw.len_lst, Tw.len_tup, Tw.ix_lst, Tw.ix_tup, Tw.tuple_lst, Tw.tuple_tup, Tw.list_lst, Tw.list_tup, Tw.abs_int, Tw.intC_int, Tw.intC_bl, Tw.all_lst, Tw.any_lst, Tw.isi_2, Tw.tag_non, Tw.tag_bl, Tw.tag_int, Tw.tag_str, Tw.tag_tup, Tw.tag_lst, Tw.tag_obj, Tw.asT_ty, Tw.asT_cl, Tw.frz_int, Tw.frz_bl, Tw.frz_non, Tw.frz_ty, Tw.frz_cl, Tw.frz_scr, Tw.frz_tup, Tw.frz_lst, Tw.frz_obj, Tw.frzs_nil, Tw.frzs_cons, Tw.ok_int, Tw.ok_bl, Tw.ok_non, Tw.ok_tup, Tw.ok_lst, Tw.ok_obj, Tw.doks_nil, Tw.doks_cons, Tw.sl_scr, Tw.sl_lst, Tw.sl_tup, Tw.rev_lst, Tw.rev_tup, Tw.eq_int, Tw.ne_int, Tw.e_kcpB, Tw.e_cpB, Tw.e_compB, Tw.e_fgN, Tw.e_fgC, Tw.e_fgB, Tw.e_fgRt, Tw.e_fgR, Tw.e_for0, Tw.e_for1, Tw.e_cgF, Tw.e_cgT, Tw.e_cgR, Tw.e_neo, Tw.e_cg0, Tw.e_cg1, Tw.e_c2A, Tw.e_c2I, Tw.e_c2T, Tw.e_c2R, Tw.e_c20, Tw.e_c21, Tw.at5_0, Tw.at5_1, Tw.at5_2, Tw.at5_3, Tw.at5_4, Tw.ix5_1, Tw.ix5_2, Tw.ix5_3, Tw.ix5_4, Tw.ints_map, Tw.add_tup, Tw.add_lst, Tw.oks_rows, Tw.frzs_rows, Tw.rows_len, Tw.oks_int, Tw.frzs_int, Tw.oks_tI, Tw.ok_tI, Tw.frz_tI, Tw.e_bok, Tw.e_sbok, List.map_cons, List.map_nil, List.length_cons, List.length_nil, List.cons_append, List.nil_append, List.replicate, List.getElem?_cons_zero, List.getElem?_cons_succ, List.set_cons_zero, List.set_cons_succ, Option.bind_some, Option.map_some, Nat.zero_add, Nat.add_zero, Nat.reduceAdd, Nat.reduceSub, Nat.reduceLT, Nat.reduceLeDiff, Bool.and_true, Bool.true_and, Bool.and_self, Bool.not_true, Bool.not_false, Bool.false_and, Bool.and_false, Bool.or_true, Bool.true_or, Bool.or_false, Bool.false_or, if_true, if_false, Bool.false_eq_true, reduceCtorEq, ite_true, ite_false, decide_true, decide_false, decide_eq_true_eq, ne_eq, Int.reduceEq, not_false_eq_true, not_true_eq_false, List.length_map, Option.map_none, Int.reduceNeg]
  have e4 : (an.map fun _ => true).all id = true := by simp
  have p1 : putN "sizes" [] = (["sizes"] : List Str) := rfl
  have p2 : putD "sizes" (.tup (sizes.map .int)) [] [] = [.tup (sizes.map .int)] := rfl
  have p3 : putN "answers" ["sizes"] = (["sizes", "answers"] : List Str) := by decide
  have p4 : putD "answers" (.tup (an.map .int)) ["sizes"] [.tup (sizes.map .int)] = [.tup (sizes.map .int), .tup (an.map .int)] := rfl
  have p5 : oldOk "sizes" [] [] = true := rfl
  have p6 : oldOk "answers" ["sizes"] [.tup (sizes.map .int)] = true := rfl
  have o1 : own_sizes 0 = true := rfl
  have o2 : own_answers 0 = true := rfl
  simp only [h_Question_init, b_Question_init, e1, e2, isa_20, l1, key, bools_mapP, e4, p1, p2, p3, p4, p5, p6, o1, o2, qst, Tw.e_run, Tw.e_rtR, Tw.e_rtX, Tw.e_rtN, Tw.e_io_nil, Tw.e_io_one, Tw.e_ioR1, Tw.e_seq, Tw.e_seqN, Tw.e_seqR, Tw.e_seqB, Tw.e_seqC, Tw.e_sNil, Tw.e_sBrk, Tw.e_sCont, Tw.e_sRet, Tw.e_sExpr, Tw.e_sIf, Tw.e_sAsg, Tw.e_nxR, Tw.e_bNm, Tw.e_sPar, Tw.e_sFor, Tw.e_sAug, Tw.e_augR, Tw.e_own, Tw.e_ownR, Tw.e_stR2, Tw.e_sStore, Tw.e_stR, Tw.e_stR3, Tw.e_m1R, Tw.e_m1S, Tw.e_m1T, Tw.e_mt1, Tw.e_m0S, Tw.e_mt0, Tw.e_var, Tw.e_varR, Tw.e_move, Tw.e_moveR, Tw.e_K, Tw.e_nil, Tw.e_val, Tw.e_slot, Tw.e_slotR, Tw.e_gnil, Tw.e_gval, Tw.e_gvR, Tw.e_gslot, Tw.e_gsR, Tw.e_gR, Tw.e_gpR, Tw.e_N, Tw.e_vals0, Tw.e_vals1, Tw.e_tup, Tw.e_lst, Tw.e_and, Tw.e_andT, Tw.e_andF, Tw.e_or, Tw.e_orT, Tw.e_orF, Tw.e_not, Tw.e_notR, Tw.e_bE, Tw.e_bR, Tw.e_bAnd, Tw.e_bOr, Tw.e_bNot, Tw.e_bTrue, Tw.e_if, Tw.e_chR2, Tw.e_chRT, Tw.e_chRF, Tw.e_chain, Tw.e_part0, Tw.e_part, Tw.e_partR, Tw.e_sl, Tw.e_rev, Tw.e_kval, Tw.e_kval2, Tw.e_kN, Tw.e_ktup, Tw.e_klst, Tw.e_kand, Tw.e_kor, Tw.e_knot, Tw.e_kbE, Tw.e_kbAnd, Tw.e_kbOr, Tw.e_kbNot, Tw.e_kif, Tw.e_kpart, Tw.e_krev, Tw.e_kcall, Tw.e_ksRet, Tw.e_ksExpr, Tw.e_ksIf, Tw.e_ksAsg, Tw.e_ksFor, Tw.e_ksStore, Tw.e_kstR, Tw.e_km1T, Tw.e_kiSeq, Tw.e_kiRng, Tw.e_kiZip, Tw.e_kmake, Tw.e_kfset, Tw.e_kchRT, Tw.e_kchain2, Tw.e_kchain, Tw.e_ksl, Tw.e_ksl2, Tw.e_ksl3, Tw.e_ksPar, Tw.e_ksPar2, Tw.e_ksAug, Tw.e_ksAug2, Tw.e_kcp3, Tw.e_kcomp, Tw.e_kcomp2, Tw.e_coR, Tw.e_kco2, Tw.e_kco, Tw.e_co, Tw.e_callR, Tw.e_call, Tw.e_io0, Tw.e_io1, Tw.e_io1R, Tw.e_itR, Tw.e_iSeq, Tw.e_rgR, Tw.e_iRng, Tw.e_zpR, Tw.e_iZip, Tw.e_comp, Tw.e_comp2, Tw.e_wipe0, Tw.e_wipe1, Tw.e_bTp, Tw.e_bNil, Tw.e_bCons, Tw.e_mkR, Tw.e_make, Tw.e_fset, Tw.e_fsR, Tw.e_oo, Tw.e_ooR, Tw.e_coR2, Tw.tru_non, Tw.tru_bl, Tw.tru_int, Tw.tru_tup, Tw.tru_lst, Tw.asI_int, Tw.ints_nil, Tw.ints_cons, Tw.items_lst, Tw.items_tup, Tw.seqK_lst, Tw.seqK_tup, Tw.isN_int, Tw.isN_non, Tw.isN_tup, Tw.notN_int, Tw.notN_non, Tw.notN_tup, Tw.mul_int, Tw.add_int, Tw.sub_int, Tw.fdiv_int, Tw.mod_int, Tw.pow_int, Tw.lt_int, Tw.le_int, Tw.gt_int, Tw.ge_int, Tw.neg_int, Tw.imul_int, Tw.iadd_int, Tw.len_lst, Tw.len_tup, Tw.ix_lst, Tw.ix_tup, Tw.tuple_lst, Tw.tuple_tup, Tw.list_lst, Tw.list_tup, Tw.abs_int, Tw.intC_int, Tw.intC_bl, Tw.all_lst, Tw.any_lst, Tw.isi_2, Tw.tag_non, Tw.tag_bl, Tw.tag_int, Tw.tag_str, Tw.tag_tup, Tw.tag_lst, Tw.tag_obj, Tw.asT_ty, Tw.asT_cl, Tw.frz_int, Tw.frz_bl, Tw.frz_non, Tw.frz_ty, Tw.frz_cl, Tw.frz_scr, Tw.frz_tup, Tw.frz_lst, Tw.frz_obj, Tw.frzs_nil, Tw.frzs_cons, Tw.ok_int, Tw.ok_bl, Tw.ok_non, Tw.ok_tup, Tw.ok_lst, Tw.ok_obj, Tw.doks_nil, Tw.doks_cons, Tw.sl_scr, Tw.sl_lst, Tw.sl_tup, Tw.rev_lst, Tw.rev_tup, Tw.eq_int, Tw.ne_int, Tw.e_kcpB, Tw.e_cpB, Tw.e_compB, Tw.e_fgN, Tw.e_fgC, Tw.e_fgB, Tw.e_fgRt, Tw.e_fgR, Tw.e_for0, Tw.e_for1, Tw.e_cgF, Tw.e_cgT, Tw.e_cgR, Tw.e_neo, Tw.e_cg0, Tw.e_cg1, Tw.e_c2A, Tw.e_c2I, Tw.e_c2T, Tw.e_c2R, Tw.e_c20, Tw.e_c21, Tw.at5_0, Tw.at5_1, Tw.at5_2, Tw.at5_3, Tw.at5_4, Tw.ix5_1, Tw.ix5_2, Tw.ix5_3, Tw.ix5_4, Tw.ints_map, Tw.add_tup, Tw.add_lst, Tw.oks_rows, Tw.frzs_rows, Tw.rows_len, Tw.oks_int, Tw.frzs_int, Tw.oks_tI, Tw.ok_tI, Tw.frz_tI, Tw.e_bok, Tw.e_sbok, List.map_cons, List.map_nil, List.length_cons, List.length_nil, List.cons_append, List.nil_append, List.replicate, List.getElem?_cons_zero, List.getElem?_cons_succ, List.set_cons_zero, List.set_cons_succ, Option.bind_some, Option.map_some, Nat.zero_add, Nat.add_zero, Nat.reduceAdd, Nat.reduceSub, Nat.reduceLT, Nat.reduceLeDiff, Bool.and_true, Bool.true_and, Bool.and_self, Bool.not_true, Bool.not_false, Bool.false_and, Bool.and_false, Bool.or_true, Bool.true_or, Bool.or_false, Bool.false_or, if_true, if_false, Bool.false_eq_true, reduceCtorEq, ite_true, ite_false, decide_true, decide_false, decide_eq_true_eq, ne_eq, Int.reduceEq, not_false_eq_true, not_true_eq_false, List.length_map, Option.map_none, Int.reduceNeg]
theorem fld_obj (own : Nat → Bool) (f : Str) (m : Bool) (c : Nat) (ns : List Str) (ds : List D) : gFld own f [.obj m c ns ds] = if own c then (lookD ns ds f).bind fun d => if D.ok d then some d else none else none := (rfl)
theorem look_1 (n : Str) (ns : List Str) (d : D) (ds : List D) (x : Str) : lookD (n :: ns) (d :: ds) x = if x = n then some d else lookD ns ds x := (rfl)
theorem fld_sizes {m : Bool} {sizes an : List Int} : gFld own_sizes "sizes" [qst m sizes an] = some (.tup (sizes.map .int)) := by
  have o : own_sizes 0 = true := rfl
  unfold qst
  rw [fld_obj, o, if_pos rfl, look_1, if_pos rfl, Option.bind_some, ok_tI, if_pos rfl]
theorem fld_answers {m : Bool} {sizes an : List Int} : gFld own_answers "answers" [qst m sizes an] = some (.tup (an.map .int)) := by
  have o : own_answers 0 = true := rfl
  have ne : ("answers" : Str) ≠ "sizes" := by decide
  unfold qst
  rw [fld_obj, o, if_pos rfl, look_1, if_neg ne, look_1, if_pos rfl, Option.bind_some, ok_tI, if_pos rfl]
theorem frz_qst {m : Bool} {sizes an : List Int} : D.frz (qst m sizes an) = qst false sizes an := by
  unfold qst
  simp only [Tw.e_run, Tw.e_rtR, Tw.e_rtX, Tw.e_rtN, Tw.e_io_nil, Tw.e_io_one, Tw.e_ioR1, Tw.e_seq, Tw.e_seqN, Tw.e_seqR, Tw.e_seqB, Tw.e_seqC, Tw.e_sNil, Tw.e_sBrk, Tw.e_sCont, Tw.e_sRet, Tw.e_sExpr, Tw.e_sIf, Tw.e_sAsg, Tw.e_nxR, Tw.e_bNm, Tw.e_sPar, Tw.e_sFor, Tw.e_sAug, Tw.e_augR, Tw.e_own, Tw.e_ownR, Tw.e_stR2, Tw.e_sStore, Tw.e_stR, Tw.e_stR3, Tw.e_m1R, Tw.e_m1S, Tw.e_m1T, Tw.e_mt1, Tw.e_m0S, Tw.e_mt0, Tw.e_var, Tw.e_varR, Tw.e_move, Tw.e_moveR, Tw.e_K, Tw.e_nil, Tw.e_val, Tw.e_slot, Tw.e_slotR, Tw.e_gnil, Tw.e_gval, Tw.e_gvR, Tw.e_gslot, Tw.e_gsR, Tw.e_gR, Tw.e_gpR, Tw.e_N, Tw.e_vals0, Tw.e_vals1, Tw.e_tup, Tw.e_lst, Tw.e_and, Tw.e_andT, Tw.e_andF, Tw.e_or, Tw.e_orT, Tw.e_orF, Tw.e_not, Tw.e_notR, Tw.e_bE, Tw.e_bR, Tw.e_bAnd, Tw.e_bOr, Tw.e_bNot, Tw.e_bTrue, Tw.e_if, Tw.e_chR2, Tw.e_chRT, Tw.e_chRF, Tw.e_chain, Tw.e_part0, Tw.e_part, Tw.e_partR, Tw.e_sl, Tw.e_rev, Tw.e_kval, Tw.e_kval2, Tw.e_kN, Tw.e_ktup, Tw.e_klst, Tw.e_kand, Tw.e_kor, Tw.e_knot, Tw.e_kbE, Tw.e_kbAnd, Tw.e_kbOr, Tw.e_kbNot, Tw.e_kif, Tw.e_kpart, Tw.e_krev, Tw.e_kcall, Tw.e_ksRet, Tw.e_ksExpr, Tw.e_ksIf, Tw.e_ksAsg, Tw.e_ksFor, Tw.e_ksStore, Tw.e_kstR, Tw.e_km1T, Tw.e_kiSeq, Tw.e_kiRng, Tw.e_kiZip, Tw.e_kmake, Tw.e_kfset, Tw.e_kchRT, Tw.e_kchain2, Tw.e_kchain, Tw.e_ksl, Tw.e_ksl2, Tw.e_ksl3, Tw.e_ksPar, Tw.e_ksPar2, Tw.e_ksAug, Tw.e_ksAug2, Tw.e_kcp3, Tw.e_kcomp, Tw.e_kcomp2, Tw.e_coR, Tw.e_kco2, Tw.e_kco, Tw.e_co, Tw.e_callR, Tw.e_call, Tw.e_io0, Tw.e_io1, Tw.e_io1R, Tw.e_itR, Tw.e_iSeq, Tw.e_rgR, Tw.e_iRng, Tw.e_zpR, Tw.e_iZip, Tw.e_comp, Tw.e_comp2, Tw.e_wipe0, Tw.e_wipe1, Tw.e_bTp, Tw.e_bNil, Tw.e_bCons, Tw.e_mkR, Tw.e_make, Tw.e_fset, Tw.e_fsR, Tw.e_oo, Tw.e_ooR, Tw.e_coR2, Tw.tru_non, Tw.tru_bl, Tw.tru_int, Tw.tru_tup, Tw.tru_lst, Tw.asI_int, Tw.ints_nil, Tw.ints_cons, Tw.items_lst, Tw.items_tup, Tw.seqK_lst, Tw.seqK_tup, Tw.isN_int, Tw.isN_non, Tw.isN_tup, Tw.notN_int, Tw.notN_non, Tw.notN_tup, Tw.mul_int, Tw.add_int, Tw.sub_int, Tw.fdiv_int, Tw.mod_int, Tw.pow_int, Tw.lt_int, Tw.le_int, Tw.gt_int, Tw.ge_int, Tw.neg_int, Tw.imul_int, Tw.iadd_int, Tw.len_lst, Tw.len_tup, Tw.ix_lst, Tw.ix_tup, Tw.tuple_lst, Tw.tuple_tup, Tw.list_lst, Tw.list_tup, Tw.abs_int, Tw.intC_int, Tw.intC_bl, Tw.all_lst, Tw.any_lst, Tw.isi_2, Tw.tag_non, Tw.tag_bl, Tw.tag_int, Tw.tag_str, Tw.tag_tup, Tw.tag_lst, Tw.tag_obj, Tw.asT_ty, Tw.asT_cl, Tw.frz_int, Tw.frz_bl, Tw.frz_non, Tw.frz_ty, Tw.frz_cl, Tw.frz_scr, Tw.frz_tup, Tw.frz_lst, Tw.frz_obj, Tw.frzs_nil, Tw.frzs_cons, Tw.ok_int, Tw.ok_bl, Tw.ok_non, Tw.ok_tup, Tw.ok_lst, Tw.ok_obj, Tw.doks_nil, Tw.doks_cons, Tw.sl_scr, Tw.sl_lst, Tw.sl_tup, Tw.rev_lst, Tw.rev_tup, Tw.eq_int, Tw.ne_int, Tw.e_kcpB, Tw.e_cpB, Tw.e_compB, Tw.e_fgN, Tw.e_fgC, Tw.e_fgB, Tw.e_fgRt, Tw.e_fgR, Tw.e_for0, Tw.e_for1, Tw.e_cgF, Tw.e_cgT, Tw.e_cgR, Tw.e_neo, Tw.e_cg0, Tw.e_cg1, Tw.e_c2A, Tw.e_c2I, Tw.e_c2T, Tw.e_c2R, Tw.e_c20, Tw.e_c21, Tw.at5_0, Tw.at5_1, Tw.at5_2, Tw.at5_3, Tw.at5_4, Tw.ix5_1, Tw.ix5_2, Tw.ix5_3, Tw.ix5_4, Tw.ints_map, Tw.add_tup, Tw.add_lst, Tw.oks_rows, Tw.frzs_rows, Tw.rows_len, Tw.oks_int, Tw.frzs_int, Tw.oks_tI, Tw.ok_tI, Tw.frz_tI, Tw.e_bok, Tw.e_sbok, List.map_cons, List.map_nil, List.length_cons, List.length_nil, List.cons_append, List.nil_append, List.replicate, List.getElem?_cons_zero, List.getElem?_cons_succ, List.set_cons_zero, List.set_cons_succ, Option.bind_some, Option.map_some, Nat.zero_add, Nat.add_zero, Nat.reduceAdd, Nat.reduceSub, Nat.reduceLT, Nat.reduceLeDiff, Bool.and_true, Bool.true_and, Bool.and_self, Bool.not_true, Bool.not_false, Bool.false_and, Bool.and_false, Bool.or_true, Bool.true_or, Bool.or_false, Bool.false_or, if_true, if_false, Bool.false_eq_true, reduceCtorEq, ite_true, ite_false, decide_true, decide_false, decide_eq_true_eq, ne_eq, Int.reduceEq, not_false_eq_true, not_true_eq_false, List.length_map, Option.map_none, Int.reduceNeg]
theorem tag_qst {m : Bool} {sizes an : List Int} : D.tag (qst m sizes an) = some (.cl 0) := rfl
theorem eqq_ok {m m' : Bool} {sizes an : List Int} : h_Question_eq [qst m sizes an, qst m' sizes an] = .ret (.bl true) [] := by
  have e : gEq [.tup [.tup (sizes.map .int), .tup (an.map .int)], .tup [.tup (sizes.map .int), .tup (an.map .int)]] = some (.bl true) := (eq_same (n := 2) (num_tup fun x hx => by
    rcases List.mem_cons.mp hx with rfl | hx
    · exact num_tup (num_ints _)
    · rw [List.mem_singleton.mp hx]; exact num_tup (num_ints _)) (by decide) rfl).1
  simp only [h_Question_eq, b_Question_eq, frz_qst, tag_qst, fld_sizes, fld_answers, isa_39, e, Tw.e_run, Tw.e_rtR, Tw.e_rtX, Tw.e_rtN, Tw.e_io_nil, Tw.e_io_one, Tw.e_ioR1, Tw.e_seq, Tw.e_seqN, Tw.e_seqR, Tw.e_seqB, Tw.e_seqC, Tw.e_sNil, Tw.e_sBrk, Tw.e_sCont, Tw.e_sRet, Tw.e_sExpr, Tw.e_sIf, Tw.e_sAsg, Tw.e_nxR, Tw.e_bNm, Tw.e_sPar, Tw.e_sFor, Tw.e_sAug, Tw.e_augR, Tw.e_own, Tw.e_ownR, Tw.e_stR2, Tw.e_sStore, Tw.e_stR, Tw.e_stR3, Tw.e_m1R, Tw.e_m1S, Tw.e_m1T, Tw.e_mt1, Tw.e_m0S, Tw.e_mt0, Tw.e_var, Tw.e_varR, Tw.e_move, Tw.e_moveR, Tw.e_K, Tw.e_nil, Tw.e_val, Tw.e_slot, Tw.e_slotR, Tw.e_gnil, Tw.e_gval, Tw.e_gvR, Tw.e_gslot, Tw.e_gsR, Tw.e_gR, Tw.e_gpR, Tw.e_N, Tw.e_vals0, Tw.e_vals1, Tw.e_tup, Tw.e_lst, Tw.e_and, Tw.e_andT, Tw.e_andF, Tw.e_or, Tw.e_orT, Tw.e_orF, Tw.e_not, Tw.e_notR, Tw.e_bE, Tw.e_bR, Tw.e_bAnd, Tw.e_bOr, Tw.e_bNot, Tw.e_bTrue, Tw.e_if, Tw.e_chR2, Tw.e_chRT, Tw.e_chRF, Tw.e_chain, Tw.e_part0, Tw.e_part, Tw.e_partR, Tw.e_sl, Tw.e_rev, Tw.e_kval, Tw.e_kval2, Tw.e_kN, Tw.e_ktup, Tw.e_klst, Tw.e_kand, Tw.e_kor, Tw.e_knot, Tw.e_kbE, Tw.e_kbAnd, Tw.e_kbOr, Tw.e_kbNot, Tw.e_kif, Tw.e_kpart, Tw.e_krev, Tw.e_kcall, Tw.e_ksRet, Tw.e_ksExpr, Tw.e_ksIf, Tw.e_ksAsg, Tw.e_ksFor, Tw.e_ksStore, Tw.e_kstR, Tw.e_km1T, Tw.e_kiSeq, Tw.e_kiRng, Tw.e_kiZip, Tw.e_kmake, Tw.e_kfset, Tw.e_kchRT, Tw.e_kchain2, Tw.e_kchain, Tw.e_ksl, Tw.e_ksl2, Tw.e_ksl3, Tw.e_ksPar, Tw.e_ksPar2, Tw.e_ksAug, Tw.e_ksAug2, Tw.e_kcp3, Tw.e_kcomp, Tw.e_kcomp2, Tw.e_coR, Tw.e_kco2, Tw.e_kco, Tw.e_co, Tw.e_callR, Tw.e_call, Tw.e_io0, Tw.e_io1, Tw.e_io1R, Tw.e_itR, Tw.e_iSeq, Tw.e_rgR, Tw.e_iRng, Tw.e_zpR, Tw.e_iZip, Tw.e_comp, Tw.e_comp2, Tw.e_wipe0, Tw.e_wipe1, Tw.e_bTp, Tw.e_bNil, Tw.e_bCons, Tw.e_mkR, Tw.e_make, Tw.e_fset, Tw.e_fsR, Tw.e_oo, Tw.e_ooR, Tw.e_coR2, Tw.tru_non, Tw.tru_bl, Tw.tru_int, Tw.tru_tup, Tw.tru_lst, Tw.asI_int, Tw.ints_nil, Tw.ints_cons, Tw.items_lst, Tw.items_tup, Tw.seqK_lst, Tw.seqK_tup, Tw.isN_int, Tw.isN_non, Tw.isN_tup, Tw.notN_int, Tw.notN_non, Tw.notN_tup, Tw.mul_int, Tw.add_int, Tw.sub_int, Tw.fdiv_int, Tw.mod_int, Tw.pow_int, Tw.lt_int, Tw.le_int, Tw.gt_int, Tw.ge_int, Tw.neg_int, Tw.imul_int, Tw.iadd_int, Tw.len_lst, Tw.len_tup, Tw.ix_lst, Tw.ix_tup, Tw.tuple_lst, Tw.tuple_tup, Tw.list_lst, Tw.list_tup, Tw.abs_int, Tw.intC_int, Tw.intC_bl, Tw.all_lst, Tw.any_lst, Tw.isi_2, Tw.tag_non, Tw.tag_bl, Tw.tag_int, Tw.tag_str, Tw.tag_tup, Tw.tag_lst, Tw.tag_obj, Tw.asT_ty, Tw.asT_cl, Tw.frz_int, Tw.frz_bl, Tw.frz_non, Tw.frz_ty, Tw.frz_cl, Tw.frz_scr, Tw.frz_tup, Tw.frz_lst, Tw.frz_obj, Tw.frzs_nil, Tw.frzs_cons, Tw.ok_int, Tw.ok_bl, Tw.ok_non, Tw.ok_tup, Tw.ok_lst, Tw.ok_obj, Tw.doks_nil, Tw.doks_cons, Tw.sl_scr, Tw.sl_lst, Tw.sl_tup, Tw.rev_lst, Tw.rev_tup, Tw.eq_int, Tw.ne_int, Tw.e_kcpB, Tw.e_cpB, Tw.e_compB, Tw.e_fgN, Tw.e_fgC, Tw.e_fgB, Tw.e_fgRt, Tw.e_fgR, Tw.e_for0, Tw.e_for1, Tw.e_cgF, Tw.e_cgT, Tw.e_cgR, Tw.e_neo, Tw.e_cg0, Tw.e_cg1, Tw.e_c2A, Tw.e_c2I, Tw.e_c2T, Tw.e_c2R, Tw.e_c20, Tw.e_c21, Tw.at5_0, Tw.at5_1, Tw.at5_2, Tw.at5_3, Tw.at5_4, Tw.ix5_1, Tw.ix5_2, Tw.ix5_3, Tw.ix5_4, Tw.ints_map, Tw.add_tup, Tw.add_lst, Tw.oks_rows, Tw.frzs_rows, Tw.rows_len, Tw.oks_int, Tw.frzs_int, Tw.oks_tI, Tw.ok_tI, Tw.frz_tI, Tw.e_bok, Tw.e_sbok, List.map_cons, List.map_nil, List.length_cons, List.length_nil, List.cons_append, List.nil_append, List.replicate, List.getElem?_cons_zero, List.getElem?_cons_succ, List.set_cons_zero, List.set_cons_succ, Option.bind_some, Option.map_some, Nat.zero_add, Nat.add_zero, Nat.reduceAdd, Nat.reduceSub, Nat.reduceLT, Nat.reduceLeDiff, Bool.and_true, Bool.true_and, Bool.and_self, Bool.not_true, Bool.not_false, Bool.false_and, Bool.and_false, Bool.or_true, Bool.true_or, Bool.or_false, Bool.false_or, if_true, if_false, Bool.false_eq_true, reduceCtorEq, ite_true, ite_false, decide_true, decide_false, decide_eq_true_eq, ne_eq, Int.reduceEq, not_false_eq_true, not_true_eq_false, List.length_map, Option.map_none, Int.reduceNeg]
theorem answer_ok {m : Bool} {sizes an : List Int} {n : Nat} {P : Nat} (h : Sz sizes) (e1 : prodI sizes = P) (hn : n < P) (hl : an.length = P) : h_answer [qst m sizes an, .tup ((counted sizes n).map .int)] = .ret (.int (an.getD n 0)) [] := by
  have hr := counted_inR sizes.reverse (fun s hs => h.pos s (List.mem_reverse.mp hs)) n
  have hlen := counted_len sizes.reverse (n : Int)
  have hnum := numOf_countedR sizes.reverse (fun s hs => h.pos s (List.mem_reverse.mp hs)) n (by omega) (by rw [List.reverse_reverse, e1]; omega)
  rw [List.reverse_reverse] at hr hlen hnum
  rw [List.length_reverse] at hlen
  have c1 := is_content_ok hlen h.2.1 hr
  have c2 := number_ok (c := counted sizes n) fun s hs => by have := h.2.2 s hs; exact ⟨by omega, by omega⟩
  rw [hnum] at c2
  have a := atI_map (ns := an) (i := (n : Int)) (by omega) (by omega)
  rw [Int.toNat_natCast] at a
  simp only [h_answer, b_answer, frz_qst, fld_sizes, fld_answers, h_check_content, b_check_content, c1, c2, a, Tw.e_run, Tw.e_rtR, Tw.e_rtX, Tw.e_rtN, Tw.e_io_nil, Tw.e_io_one, Tw.e_ioR1, Tw.e_seq, Tw.e_seqN, Tw.e_seqR, Tw.e_seqB, Tw.e_seqC, Tw.e_sNil, Tw.e_sBrk, Tw.e_sCont, Tw.e_sRet, Tw.e_sExpr, Tw.e_sIf, Tw.e_sAsg, Tw.e_nxR, Tw.e_bNm, Tw.e_sPar, Tw.e_sFor, Tw.e_sAug, Tw.e_augR, Tw.e_own, Tw.e_ownR, Tw.e_stR2, Tw.e_sStore, Tw.e_stR, Tw.e_stR3, Tw.e_m1R, Tw.e_m1S, Tw.e_m1T, Tw.e_mt1, Tw.e_m0S, Tw.e_mt0, Tw.e_var, Tw.e_varR, Tw.e_move, Tw.e_moveR, Tw.e_K, Tw.e_nil, Tw.e_val, Tw.e_slot, Tw.e_slotR, Tw.e_gnil, Tw.e_gval, Tw.e_gvR, Tw.e_gslot, Tw.e_gsR, Tw.e_gR, Tw.e_gpR, Tw.e_N, Tw.e_vals0, Tw.e_vals1, Tw.e_tup, Tw.e_lst, Tw.e_and, Tw.e_andT, Tw.e_andF, Tw.e_or, Tw.e_orT, Tw.e_orF, Tw.e_not, Tw.e_notR, Tw.e_bE, Tw.e_bR, Tw.e_bAnd, Tw.e_bOr, Tw.e_bNot, Tw.e_bTrue, Tw.e_if, Tw.e_chR2, Tw.e_chRT, Tw.e_chRF, Tw.e_chain, Tw.e_part0, Tw.e_part, Tw.e_partR, Tw.e_sl, Tw.e_rev, Tw.e_kval, Tw.e_kval2, Tw.e_kN, Tw.e_ktup, Tw.e_klst, Tw.e_kand, Tw.e_kor, Tw.e_knot, Tw.e_kbE, Tw.e_kbAnd, Tw.e_kbOr, Tw.e_kbNot, Tw.e_kif, Tw.e_kpart, Tw.e_krev, Tw.e_kcall, Tw.e_ksRet, Tw.e_ksExpr, Tw.e_ksIf, Tw.e_ksAsg, Tw.e_ksFor, Tw.e_ksStore, Tw.e_kstR, Tw.e_km1T, Tw.e_kiSeq, Tw.e_kiRng, Tw.e_kiZip, Tw.e_kmake, Tw.e_kfset, Tw.e_kchRT, Tw.e_kchain2, Tw.e_kchain, Tw.e_ksl, Tw.e_ksl2, Tw.e_ksl3, Tw.e_ksPar, Tw.e_ksPar2, Tw.e_ksAug, Tw.e_ksAug2, Tw.e_kcp3, Tw.e_kcomp, Tw.e_kcomp2, Tw.e_coR, Tw.e_kco2, Tw.e_kco, Tw.e_co, Tw.e_callR, Tw.e_call, Tw.e_io0, Tw.e_io1, Tw.e_io1R, Tw.e_itR, Tw.e_iSeq, Tw.e_rgR, Tw.e_iRng, Tw.e_zpR, Tw.e_iZip, Tw.e_comp, Tw.e_comp2, Tw.e_wipe0, Tw.e_wipe1, Tw.e_bTp, Tw.e_bNil, Tw.e_bCons, Tw.e_mkR, Tw.e_make, Tw.e_fset, Tw.e_fsR, Tw.e_oo, Tw.e_ooR, Tw.e_coR2, Tw.tru_non, Tw.tru_bl, Tw.tru_int, Tw.tru_tup, Tw.tru_lst, Tw.asI_int, Tw.ints_nil, Tw.ints_cons, Tw.items_lst, Tw.items_tup, Tw.seqK_lst, Tw.seqK_tup, Tw.isN_int, Tw.isN_non, Tw.isN_tup, Tw.notN_int, Tw.notN_non, Tw.notN_tup, Tw.mul_int, Tw.add_int, Tw.sub_int, Tw.fdiv_int, Tw.mod_int, Tw.pow_int, Tw.lt_int, Tw.le_int, Tw.gt_int, Tw.ge_int, Tw.neg_int, Tw.imul_int, Tw.iadd_int, Tw.len_lst, Tw.len_tup, Tw.ix_lst, Tw.ix_tup, Tw.tuple_lst, Tw.tuple_tup, Tw.list_lst, Tw.list_tup, Tw.abs_int, Tw.intC_int, Tw.intC_bl, Tw.all_lst, Tw.any_lst, Tw.isi_2, Tw.tag_non, Tw.tag_bl, Tw.tag_int, Tw.tag_str, Tw.tag_tup, Tw.tag_lst, Tw.tag_obj, Tw.asT_ty, Tw.asT_cl, Tw.frz_int, Tw.frz_bl, Tw.frz_non, Tw.frz_ty, Tw.frz_cl, Tw.frz_scr, Tw.frz_tup, Tw.frz_lst, Tw.frz_obj, Tw.frzs_nil, Tw.frzs_cons, Tw.ok_int, Tw.ok_bl, Tw.ok_non, Tw.ok_tup, Tw.ok_lst, Tw.ok_obj, Tw.doks_nil, Tw.doks_cons, Tw.sl_scr, Tw.sl_lst, Tw.sl_tup, Tw.rev_lst, Tw.rev_tup, Tw.eq_int, Tw.ne_int, Tw.e_kcpB, Tw.e_cpB, Tw.e_compB, Tw.e_fgN, Tw.e_fgC, Tw.e_fgB, Tw.e_fgRt, Tw.e_fgR, Tw.e_for0, Tw.e_for1, Tw.e_cgF, Tw.e_cgT, Tw.e_cgR, Tw.e_neo, Tw.e_cg0, Tw.e_cg1, Tw.e_c2A, Tw.e_c2I, Tw.e_c2T, Tw.e_c2R, Tw.e_c20, Tw.e_c21, Tw.at5_0, Tw.at5_1, Tw.at5_2, Tw.at5_3, Tw.at5_4, Tw.ix5_1, Tw.ix5_2, Tw.ix5_3, Tw.ix5_4, Tw.ints_map, Tw.add_tup, Tw.add_lst, Tw.oks_rows, Tw.frzs_rows, Tw.rows_len, Tw.oks_int, Tw.frzs_int, Tw.oks_tI, Tw.ok_tI, Tw.frz_tI, Tw.e_bok, Tw.e_sbok, List.map_cons, List.map_nil, List.length_cons, List.length_nil, List.cons_append, List.nil_append, List.replicate, List.getElem?_cons_zero, List.getElem?_cons_succ, List.set_cons_zero, List.set_cons_succ, Option.bind_some, Option.map_some, Nat.zero_add, Nat.add_zero, Nat.reduceAdd, Nat.reduceSub, Nat.reduceLT, Nat.reduceLeDiff, Bool.and_true, Bool.true_and, Bool.and_self, Bool.not_true, Bool.not_false, Bool.false_and, Bool.and_false, Bool.or_true, Bool.true_or, Bool.or_false, Bool.false_or, if_true, if_false, Bool.false_eq_true, reduceCtorEq, ite_true, ite_false, decide_true, decide_false, decide_eq_true_eq, ne_eq, Int.reduceEq, not_false_eq_true, not_true_eq_false, List.length_map, Option.map_none, Int.reduceNeg]
end K01
namespace K01
open PySem PySem.Spec PyProof.Rows L2 Tw
/-! ### what is drawn -/
def hnd (cs : List Int) (i n s t : Int) : D := .lst true [.lst false (cs.map .int), .int i, .int n, .int s, .int t]
def Hand (d : D) : Prop := ∃ (cs : List Int) (i n s t : Int), d = hnd cs i n s t ∧ 0 ≤ i
theorem c_1 (a : Int) : CMul a 69621 := cm_lit _ _ (by decide)
theorem c_2 (a : Int) : CMul 7919 a := cm_left _ _ (by decide)
theorem c_3 (a : Int) : CMul a 48271 := cm_lit _ _ (by decide)
theorem d_1 (a : Int) : CDivN a 1009 := cd_lit _ _ (by decide)
theorem d_2 (a : Int) : CDivN a 2003 := cd_lit _ _ (by decide)
theorem d_3 (a : Int) : CDivN a 16 := cd_lit _ _ (by decide)
theorem p_1 : CPow 10 18 := by unfold CPow; decide
theorem ix_b {cs : List Int} {i : Int} (h0 : 0 ≤ i) (h1 : i < cs.length) : atI (cs.map D.int) i = some (.int (cs.getD i.toNat 0)) := atI_map h0 h1
theorem draw_x {cs : List Int} {i n s t many : Int} (h0 : 0 ≤ i) (h1 : 0 < many) (h2 : many < 1073741824) : ∃ (x i' n' s' t' : Int), h__law_draw [hnd cs i n s t, .int many] = .ret (.int (x.fmod many)) [hnd cs i' n' s' t'] ∧ 0 ≤ i' := by
  have m0 : many ≠ 0 := by omega
  have cd : ∀ a, CDivN a many := fun a => ⟨m0, by omega⟩
  have fin : ∀ x : Int, 0 ≤ x.fmod many ∧ x.fmod many < many := fun x => ⟨Int.fmod_nonneg_of_pos _ h1, Int.fmod_lt_of_pos _ h1⟩
  by_cases c : n = 0 ∧ i < cs.length
  · obtain ⟨rfl, hi⟩ := c
    have e := ix_b h0 hi
    generalize cs.getD i.toNat 0 = cell at e
    have q : ∃ z : Int, (10 : Int) ^ (18 : Int).toNat = z := ⟨_, rfl⟩
    obtain ⟨z, hz⟩ := q
    by_cases hc : z ≤ cell
    · by_cases hn : 0 < cell
      · refine ⟨?x1, ?i1, ?n1, ?s1, ?t1, ?m1, ?h1⟩
        case m1 =>
          simp only [h__law_draw, b__law_draw, hnd, hi, e, hz, hc, hn, m0, cd, c_1, p_1, Tw.e_run, Tw.e_rtR, Tw.e_rtX, Tw.e_rtN, Tw.e_io_nil, Tw.e_io_one, Tw.e_ioR1, Tw.e_seq, Tw.e_seqN, Tw.e_seqR, Tw.e_seqB, Tw.e_seqC, Tw.e_sNil, Tw.e_sBrk, Tw.e_sCont, Tw.e_sRet, Tw.e_sExpr, Tw.e_sIf, Tw.e_sAsg, Tw.e_nxR, Tw.e_bNm, Tw.e_sPar, Tw.e_sFor, Tw.e_sAug, Tw.e_augR, Tw.e_own, Tw.e_ownR, Tw.e_stR2, Tw.e_sStore, Tw.e_stR, Tw.e_stR3, Tw.e_m1R, Tw.e_m1S, Tw.e_m1T, Tw.e_mt1, Tw.e_m0S, Tw.e_mt0, Tw.e_var, Tw.e_varR, Tw.e_move, Tw.e_moveR, Tw.e_K, Tw.e_nil, Tw.e_val, Tw.e_slot, Tw.e_slotR, Tw.e_gnil, Tw.e_gval, Tw.e_gvR, Tw.e_gslot, Tw.e_gsR, Tw.e_gR, Tw.e_gpR, Tw.e_N, Tw.e_vals0, Tw.e_vals1, Tw.e_tup, Tw.e_lst, Tw.e_and, Tw.e_andT, Tw.e_andF, Tw.e_or, Tw.e_orT, Tw.e_orF, Tw.e_not, Tw.e_notR, Tw.e_bE, Tw.e_bR, Tw.e_bAnd, Tw.e_bOr, Tw.e_bNot, Tw.e_bTrue, Tw.e_if, Tw.e_chR2, Tw.e_chRT, Tw.e_chRF, Tw.e_chain, Tw.e_part0, Tw.e_part, Tw.e_partR, Tw.e_sl, Tw.e_rev, Tw.e_kval, Tw.e_kval2, Tw.e_kN, Tw.e_ktup, Tw.e_klst, Tw.e_kand, Tw.e_kor, Tw.e_knot, Tw.e_kbE, Tw.e_kbAnd, Tw.e_kbOr, Tw.e_kbNot, Tw.e_kif, Tw.e_kpart, Tw.e_krev, Tw.e_kcall, Tw.e_ksRet, Tw.e_ksExpr, Tw.e_ksIf, Tw.e_ksAsg, Tw.e_ksFor, Tw.e_ksStore, Tw.e_kstR, Tw.e_km1T, Tw.e_kiSeq, Tw.e_kiRng, Tw.e_kiZip, Tw.e_kmake, Tw.e_kfset, Tw.e_kchRT, Tw.e_kchain2, Tw.e_kchain, Tw.e_ksl, Tw.e_ksl2, Tw.e_ksl3, Tw.e_ksPar, Tw.e_ksPar2, Tw.e_ksAug, Tw.e_ksAug2, Tw.e_kcp3, Tw.e_kcomp, Tw.e_kcomp2, Tw.e_coR, Tw.e_kco2, Tw.e_kco, Tw.e_co, Tw.e_callR, Tw.e_call, Tw.e_io0, Tw.e_io1, Tw.e_io1R, Tw.e_itR, Tw.e_iSeq, Tw.e_rgR, Tw.e_iRng, Tw.e_zpR, Tw.e_iZip, Tw.e_comp, Tw.e_comp2, Tw.e_wipe0, Tw.e_wipe1, Tw.e_bTp, Tw.e_bNil, Tw.e_bCons, Tw.e_mkR, Tw.e_make, Tw.e_fset, Tw.e_fsR, Tw.e_oo, Tw.e_ooR, Tw.e_coR2, Tw.tru_non, Tw.tru_bl, Tw.tru_int, Tw.tru_tup, Tw.tru_lst, Tw.asI_int, Tw.ints_nil, Tw.ints_cons, Tw.items_lst, Tw.items_tup, Tw.seqK_lst, Tw.seqK_tup, Tw.isN_int, Tw.isN_non, Tw.isN_tup, Tw.notN_int, Tw.notN_non, Tw.notN_tup, Tw.mul_int, Tw.add_int, Tw.sub_int, Tw.fdiv_int, Tw.mod_int, Tw.pow_int, Tw.lt_int, Tw.le_int, Tw.gt_int, Tw.ge_int, Tw.neg_int, Tw.imul_int, Tw.iadd_int, Tw.len_lst, Tw.len_tup, Tw.ix_lst, Tw.ix_tup, Tw.tuple_lst, Tw.tuple_tup, Tw.list_lst, Tw.list_tup, Tw.abs_int, Tw.intC_int, Tw.intC_bl, Tw.all_lst, Tw.any_lst, Tw.isi_2, Tw.tag_non, Tw.tag_bl, Tw.tag_int, Tw.tag_str, Tw.tag_tup, Tw.tag_lst, Tw.tag_obj, Tw.asT_ty, Tw.asT_cl, Tw.frz_int, Tw.frz_bl, Tw.frz_non, Tw.frz_ty, Tw.frz_cl, Tw.frz_scr, Tw.frz_tup, Tw.frz_lst, Tw.frz_obj, Tw.frzs_nil, Tw.frzs_cons, Tw.ok_int, Tw.ok_bl, Tw.ok_non, Tw.ok_tup, Tw.ok_lst, Tw.ok_obj, Tw.doks_nil, Tw.doks_cons, Tw.sl_scr, Tw.sl_lst, Tw.sl_tup, Tw.rev_lst, Tw.rev_tup, Tw.eq_int, Tw.ne_int, Tw.e_kcpB, Tw.e_cpB, Tw.e_compB, Tw.e_fgN, Tw.e_fgC, Tw.e_fgB, Tw.e_fgRt, Tw.e_fgR, Tw.e_for0, Tw.e_for1, Tw.e_cgF, Tw.e_cgT, Tw.e_cgR, Tw.e_neo, Tw.e_cg0, Tw.e_cg1, Tw.e_c2A, Tw.e_c2I, Tw.e_c2T, Tw.e_c2R, Tw.e_c20, Tw.e_c21, Tw.at5_0, Tw.at5_1, Tw.at5_2, Tw.at5_3, Tw.at5_4, Tw.ix5_1, Tw.ix5_2, Tw.ix5_3, Tw.ix5_4, Tw.ints_map, Tw.add_tup, Tw.add_lst, Tw.oks_rows, Tw.frzs_rows, Tw.rows_len, Tw.oks_int, Tw.frzs_int, Tw.oks_tI, Tw.ok_tI, Tw.frz_tI, Tw.e_bok, Tw.e_sbok, List.map_cons, List.map_nil, List.length_cons, List.length_nil, List.cons_append, List.nil_append, List.replicate, List.getElem?_cons_zero, List.getElem?_cons_succ, List.set_cons_zero, List.set_cons_succ, Option.bind_some, Option.map_some, Nat.zero_add, Nat.add_zero, Nat.reduceAdd, Nat.reduceSub, Nat.reduceLT, Nat.reduceLeDiff, Bool.and_true, Bool.true_and, Bool.and_self, Bool.not_true, Bool.not_false, Bool.false_and, Bool.and_false, Bool.or_true, Bool.true_or, Bool.or_false, Bool.false_or, if_true, if_false, Bool.false_eq_true, reduceCtorEq, ite_true, ite_false, decide_true, decide_false, decide_eq_true_eq, ne_eq, Int.reduceEq, not_false_eq_true, not_true_eq_false, List.length_map, Option.map_none, Int.reduceNeg, and_self]
          rfl
        case h1 => omega
      · refine ⟨?x2, ?i2, ?n2, ?s2, ?t2, ?m2, ?h2⟩
        case m2 =>
          simp only [h__law_draw, b__law_draw, hnd, hi, e, hz, hc, hn, m0, cd, c_1, c_2, c_3, cm_fm1, d_1, d_2, d_3, p_1, Tw.e_run, Tw.e_rtR, Tw.e_rtX, Tw.e_rtN, Tw.e_io_nil, Tw.e_io_one, Tw.e_ioR1, Tw.e_seq, Tw.e_seqN, Tw.e_seqR, Tw.e_seqB, Tw.e_seqC, Tw.e_sNil, Tw.e_sBrk, Tw.e_sCont, Tw.e_sRet, Tw.e_sExpr, Tw.e_sIf, Tw.e_sAsg, Tw.e_nxR, Tw.e_bNm, Tw.e_sPar, Tw.e_sFor, Tw.e_sAug, Tw.e_augR, Tw.e_own, Tw.e_ownR, Tw.e_stR2, Tw.e_sStore, Tw.e_stR, Tw.e_stR3, Tw.e_m1R, Tw.e_m1S, Tw.e_m1T, Tw.e_mt1, Tw.e_m0S, Tw.e_mt0, Tw.e_var, Tw.e_varR, Tw.e_move, Tw.e_moveR, Tw.e_K, Tw.e_nil, Tw.e_val, Tw.e_slot, Tw.e_slotR, Tw.e_gnil, Tw.e_gval, Tw.e_gvR, Tw.e_gslot, Tw.e_gsR, Tw.e_gR, Tw.e_gpR, Tw.e_N, Tw.e_vals0, Tw.e_vals1, Tw.e_tup, Tw.e_lst, Tw.e_and, Tw.e_andT, Tw.e_andF, Tw.e_or, Tw.e_orT, Tw.e_orF, Tw.e_not, Tw.e_notR, Tw.e_bE, Tw.e_bR, Tw.e_bAnd, Tw.e_bOr, Tw.e_bNot, Tw.e_bTrue, Tw.e_if, Tw.e_chR2, Tw.e_chRT, Tw.e_chRF, Tw.e_chain, Tw.e_part0, Tw.e_part, Tw.e_partR, Tw.e_sl, Tw.e_rev, Tw.e_kval, Tw.e_kval2, Tw.e_kN, Tw.e_ktup, Tw.e_klst, Tw.e_kand, Tw.e_kor, Tw.e_knot, Tw.e_kbE, Tw.e_kbAnd, Tw.e_kbOr, Tw.e_kbNot, Tw.e_kif, Tw.e_kpart, Tw.e_krev, Tw.e_kcall, Tw.e_ksRet, Tw.e_ksExpr, Tw.e_ksIf, Tw.e_ksAsg, Tw.e_ksFor, Tw.e_ksStore, Tw.e_kstR, Tw.e_km1T, Tw.e_kiSeq, Tw.e_kiRng, Tw.e_kiZip, Tw.e_kmake, Tw.e_kfset, Tw.e_kchRT, Tw.e_kchain2, Tw.e_kchain, Tw.e_ksl, Tw.e_ksl2, Tw.e_ksl3, Tw.e_ksPar, Tw.e_ksPar2, Tw.e_ksAug, Tw.e_ksAug2, Tw.e_kcp3, Tw.e_kcomp, Tw.e_kcomp2, Tw.e_coR, Tw.e_kco2, Tw.e_kco, Tw.e_co, Tw.e_callR, Tw.e_call, Tw.e_io0, Tw.e_io1, Tw.e_io1R, Tw.e_itR, Tw.e_iSeq, Tw.e_rgR, Tw.e_iRng, Tw.e_zpR, Tw.e_iZip, Tw.e_comp, Tw.e_comp2, Tw.e_wipe0, Tw.e_wipe1, Tw.e_bTp, Tw.e_bNil, Tw.e_bCons, Tw.e_mkR, Tw.e_make, Tw.e_fset, Tw.e_fsR, Tw.e_oo, Tw.e_ooR, Tw.e_coR2, Tw.tru_non, Tw.tru_bl, Tw.tru_int, Tw.tru_tup, Tw.tru_lst, Tw.asI_int, Tw.ints_nil, Tw.ints_cons, Tw.items_lst, Tw.items_tup, Tw.seqK_lst, Tw.seqK_tup, Tw.isN_int, Tw.isN_non, Tw.isN_tup, Tw.notN_int, Tw.notN_non, Tw.notN_tup, Tw.mul_int, Tw.add_int, Tw.sub_int, Tw.fdiv_int, Tw.mod_int, Tw.pow_int, Tw.lt_int, Tw.le_int, Tw.gt_int, Tw.ge_int, Tw.neg_int, Tw.imul_int, Tw.iadd_int, Tw.len_lst, Tw.len_tup, Tw.ix_lst, Tw.ix_tup, Tw.tuple_lst, Tw.tuple_tup, Tw.list_lst, Tw.list_tup, Tw.abs_int, Tw.intC_int, Tw.intC_bl, Tw.all_lst, Tw.any_lst, Tw.isi_2, Tw.tag_non, Tw.tag_bl, Tw.tag_int, Tw.tag_str, Tw.tag_tup, Tw.tag_lst, Tw.tag_obj, Tw.asT_ty, Tw.asT_cl, Tw.frz_int, Tw.frz_bl, Tw.frz_non, Tw.frz_ty, Tw.frz_cl, Tw.frz_scr, Tw.frz_tup, Tw.frz_lst, Tw.frz_obj, Tw.frzs_nil, Tw.frzs_cons, Tw.ok_int, Tw.ok_bl, Tw.ok_non, Tw.ok_tup, Tw.ok_lst, Tw.ok_obj, Tw.doks_nil, Tw.doks_cons, Tw.sl_scr, Tw.sl_lst, Tw.sl_tup, Tw.rev_lst, Tw.rev_tup, Tw.eq_int, Tw.ne_int, Tw.e_kcpB, Tw.e_cpB, Tw.e_compB, Tw.e_fgN, Tw.e_fgC, Tw.e_fgB, Tw.e_fgRt, Tw.e_fgR, Tw.e_for0, Tw.e_for1, Tw.e_cgF, Tw.e_cgT, Tw.e_cgR, Tw.e_neo, Tw.e_cg0, Tw.e_cg1, Tw.e_c2A, Tw.e_c2I, Tw.e_c2T, Tw.e_c2R, Tw.e_c20, Tw.e_c21, Tw.at5_0, Tw.at5_1, Tw.at5_2, Tw.at5_3, Tw.at5_4, Tw.ix5_1, Tw.ix5_2, Tw.ix5_3, Tw.ix5_4, Tw.ints_map, Tw.add_tup, Tw.add_lst, Tw.oks_rows, Tw.frzs_rows, Tw.rows_len, Tw.oks_int, Tw.frzs_int, Tw.oks_tI, Tw.ok_tI, Tw.frz_tI, Tw.e_bok, Tw.e_sbok, List.map_cons, List.map_nil, List.length_cons, List.length_nil, List.cons_append, List.nil_append, List.replicate, List.getElem?_cons_zero, List.getElem?_cons_succ, List.set_cons_zero, List.set_cons_succ, Option.bind_some, Option.map_some, Nat.zero_add, Nat.add_zero, Nat.reduceAdd, Nat.reduceSub, Nat.reduceLT, Nat.reduceLeDiff, Bool.and_true, Bool.true_and, Bool.and_self, Bool.not_true, Bool.not_false, Bool.false_and, Bool.and_false, Bool.or_true, Bool.true_or, Bool.or_false, Bool.false_or, if_true, if_false, Bool.false_eq_true, reduceCtorEq, ite_true, ite_false, decide_true, decide_false, decide_eq_true_eq, ne_eq, Int.reduceEq, not_false_eq_true, not_true_eq_false, List.length_map, Option.map_none, Int.reduceNeg, and_self]
          rfl
        case h2 => omega
    · refine ⟨?x3, ?i3, ?n3, ?s3, ?t3, ?m3, ?h3⟩
      case m3 =>
        simp only [h__law_draw, b__law_draw, hnd, hi, e, hz, hc, m0, cd, c_1, c_2, c_3, cm_fm1, d_1, d_2, d_3, p_1, Int.lt_irrefl, Tw.e_run, Tw.e_rtR, Tw.e_rtX, Tw.e_rtN, Tw.e_io_nil, Tw.e_io_one, Tw.e_ioR1, Tw.e_seq, Tw.e_seqN, Tw.e_seqR, Tw.e_seqB, Tw.e_seqC, Tw.e_sNil, Tw.e_sBrk, Tw.e_sCont, Tw.e_sRet, Tw.e_sExpr, Tw.e_sIf, Tw.e_sAsg, Tw.e_nxR, Tw.e_bNm, Tw.e_sPar, Tw.e_sFor, Tw.e_sAug, Tw.e_augR, Tw.e_own, Tw.e_ownR, Tw.e_stR2, Tw.e_sStore, Tw.e_stR, Tw.e_stR3, Tw.e_m1R, Tw.e_m1S, Tw.e_m1T, Tw.e_mt1, Tw.e_m0S, Tw.e_mt0, Tw.e_var, Tw.e_varR, Tw.e_move, Tw.e_moveR, Tw.e_K, Tw.e_nil, Tw.e_val, Tw.e_slot, Tw.e_slotR, Tw.e_gnil, Tw.e_gval, Tw.e_gvR, Tw.e_gslot, Tw.e_gsR, Tw.e_gR, Tw.e_gpR, Tw.e_N, Tw.e_vals0, Tw.e_vals1, Tw.e_tup, Tw.e_lst, Tw.e_and, Tw.e_andT, Tw.e_andF, Tw.e_or, Tw.e_orT, Tw.e_orF, Tw.e_not, Tw.e_notR, Tw.e_bE, Tw.e_bR, Tw.e_bAnd, Tw.e_bOr, Tw.e_bNot, Tw.e_bTrue, Tw.e_if, Tw.e_chR2, Tw.e_chRT, Tw.e_chRF, Tw.e_chain, Tw.e_part0, Tw.e_part, Tw.e_partR, Tw.e_sl, Tw.e_rev, Tw.e_kval, Tw.e_kval2, Tw.e_kN, Tw.e_ktup, Tw.e_klst, Tw.e_kand, Tw.e_kor, Tw.e_knot, Tw.e_kbE, Tw.e_kbAnd, Tw.e_kbOr, Tw.e_kbNot, Tw.e_kif, Tw.e_kpart, Tw.e_krev, Tw.e_kcall, Tw.e_ksRet, Tw.e_ksExpr, Tw.e_ksIf, Tw.e_ksAsg, Tw.e_ksFor, Tw.e_ksStore, Tw.e_kstR, Tw.e_km1T, Tw.e_kiSeq, Tw.e_kiRng, Tw.e_kiZip, Tw.e_kmake, Tw.e_kfset, Tw.e_kchRT, Tw.e_kchain2, Tw.e_kchain, Tw.e_ksl, Tw.e_ksl2, Tw.e_ksl3, Tw.e_ksPar, Tw.e_ksPar2, Tw.e_ksAug, Tw.e_ksAug2, Tw.e_kcp3, Tw.e_kcomp, Tw.e_kcomp2, Tw.e_coR, Tw.e_kco2, Tw.e_kco, Tw.e_co, Tw.e_callR, Tw.e_call, Tw.e_io0, Tw.e_io1, Tw.e_io1R, Tw.e_itR, Tw.e_iSeq, Tw.e_rgR, Tw.e_iRng, Tw.e_zpR, Tw.e_iZip, Tw.e_comp, Tw.e_comp2, Tw.e_wipe0, Tw.e_wipe1, Tw.e_bTp, Tw.e_bNil, Tw.e_bCons, Tw.e_mkR, Tw.e_make, Tw.e_fset, Tw.e_fsR, Tw.e_oo, Tw.e_ooR, Tw.e_coR2, Tw.tru_non, Tw.tru_bl, Tw.tru_int, Tw.tru_tup, Tw.tru_lst, Tw.asI_int, Tw.ints_nil, Tw.ints_cons, Tw.items_lst, Tw.items_tup, Tw.seqK_lst, Tw.seqK_tup, Tw.isN_int, Tw.isN_non, Tw.isN_tup, Tw.notN_int, Tw.notN_non, Tw.notN_tup, Tw.mul_int, Tw.add_int, Tw.sub_int, Tw.fdiv_int, Tw.mod_int, Tw.pow_int, Tw.lt_int, Tw.le_int, Tw.gt_int, Tw.ge_int, Tw.neg_int, Tw.imul_int, Tw.iadd_int, Tw.len_lst, Tw.len_tup, Tw.ix_lst, Tw.ix_tup, Tw.tuple_lst, Tw.tuple_tup, Tw.list_lst, Tw.list_tup, Tw.abs_int, Tw.intC_int, Tw.intC_bl, Tw.all_lst, Tw.any_lst, Tw.isi_2, Tw.tag_non, Tw.tag_bl, Tw.tag_int, Tw.tag_str, Tw.tag_tup, Tw.tag_lst, Tw.tag_obj, Tw.asT_ty, Tw.asT_cl, Tw.frz_int, Tw.frz_bl, Tw.frz_non, Tw.frz_ty, Tw.frz_cl, Tw.frz_scr, Tw.frz_tup, Tw.frz_lst, Tw.frz_obj, Tw.frzs_nil, Tw.frzs_cons, Tw.ok_int, Tw.ok_bl, Tw.ok_non, Tw.ok_tup, Tw.ok_lst, Tw.ok_obj, Tw.doks_nil, Tw.doks_cons, Tw.sl_scr, Tw.sl_lst, Tw.sl_tup, Tw.rev_lst, Tw.rev_tup, Tw.eq_int, Tw.ne_int, Tw.e_kcpB, Tw.e_cpB, Tw.e_compB, Tw.e_fgN, Tw.e_fgC, Tw.e_fgB, Tw.e_fgRt, Tw.e_fgR, Tw.e_for0, Tw.e_for1, Tw.e_cgF, Tw.e_cgT, Tw.e_cgR, Tw.e_neo, Tw.e_cg0, Tw.e_cg1, Tw.e_c2A, Tw.e_c2I, Tw.e_c2T, Tw.e_c2R, Tw.e_c20, Tw.e_c21, Tw.at5_0, Tw.at5_1, Tw.at5_2, Tw.at5_3, Tw.at5_4, Tw.ix5_1, Tw.ix5_2, Tw.ix5_3, Tw.ix5_4, Tw.ints_map, Tw.add_tup, Tw.add_lst, Tw.oks_rows, Tw.frzs_rows, Tw.rows_len, Tw.oks_int, Tw.frzs_int, Tw.oks_tI, Tw.ok_tI, Tw.frz_tI, Tw.e_bok, Tw.e_sbok, List.map_cons, List.map_nil, List.length_cons, List.length_nil, List.cons_append, List.nil_append, List.replicate, List.getElem?_cons_zero, List.getElem?_cons_succ, List.set_cons_zero, List.set_cons_succ, Option.bind_some, Option.map_some, Nat.zero_add, Nat.add_zero, Nat.reduceAdd, Nat.reduceSub, Nat.reduceLT, Nat.reduceLeDiff, Bool.and_true, Bool.true_and, Bool.and_self, Bool.not_true, Bool.not_false, Bool.false_and, Bool.and_false, Bool.or_true, Bool.true_or, Bool.or_false, Bool.false_or, if_true, if_false, Bool.false_eq_true, reduceCtorEq, ite_true, ite_false, decide_true, decide_false, decide_eq_true_eq, ne_eq, Int.reduceEq, not_false_eq_true, not_true_eq_false, List.length_map, Option.map_none, Int.reduceNeg, and_self]
        rfl
      case h3 => omega
  · have cc : (decide (n = 0) && decide (i < (cs.length : Int))) = false := by
      by_cases e : n = 0
      · have e2 : ¬ i < cs.length := fun z => c ⟨e, z⟩
        simp [e2]
      · simp [e]
    have c' : ∀ (A B : Sv) (env : Tw.Env), seqR B (if (decide (n = 0) = true) then A env else B env) = seqR B (if (decide (n = 0) = true) then A env else B env) := fun _ _ _ => rfl
    by_cases hn : 0 < n
    · have hn0 : n ≠ 0 := by omega
      refine ⟨n, i, n.fdiv many, s, t, ?_, h0⟩
      simp only [h__law_draw, b__law_draw, hnd, hn0, hn, m0, cd, Tw.e_run, Tw.e_rtR, Tw.e_rtX, Tw.e_rtN, Tw.e_io_nil, Tw.e_io_one, Tw.e_ioR1, Tw.e_seq, Tw.e_seqN, Tw.e_seqR, Tw.e_seqB, Tw.e_seqC, Tw.e_sNil, Tw.e_sBrk, Tw.e_sCont, Tw.e_sRet, Tw.e_sExpr, Tw.e_sIf, Tw.e_sAsg, Tw.e_nxR, Tw.e_bNm, Tw.e_sPar, Tw.e_sFor, Tw.e_sAug, Tw.e_augR, Tw.e_own, Tw.e_ownR, Tw.e_stR2, Tw.e_sStore, Tw.e_stR, Tw.e_stR3, Tw.e_m1R, Tw.e_m1S, Tw.e_m1T, Tw.e_mt1, Tw.e_m0S, Tw.e_mt0, Tw.e_var, Tw.e_varR, Tw.e_move, Tw.e_moveR, Tw.e_K, Tw.e_nil, Tw.e_val, Tw.e_slot, Tw.e_slotR, Tw.e_gnil, Tw.e_gval, Tw.e_gvR, Tw.e_gslot, Tw.e_gsR, Tw.e_gR, Tw.e_gpR, Tw.e_N, Tw.e_vals0, Tw.e_vals1, Tw.e_tup, Tw.e_lst, Tw.e_and, Tw.e_andT, Tw.e_andF, Tw.e_or, Tw.e_orT, Tw.e_orF, Tw.e_not, Tw.e_notR, Tw.e_bE, Tw.e_bR, Tw.e_bAnd, Tw.e_bOr, Tw.e_bNot, Tw.e_bTrue, Tw.e_if, Tw.e_chR2, Tw.e_chRT, Tw.e_chRF, Tw.e_chain, Tw.e_part0, Tw.e_part, Tw.e_partR, Tw.e_sl, Tw.e_rev, Tw.e_kval, Tw.e_kval2, Tw.e_kN, Tw.e_ktup, Tw.e_klst, Tw.e_kand, Tw.e_kor, Tw.e_knot, Tw.e_kbE, Tw.e_kbAnd, Tw.e_kbOr, Tw.e_kbNot, Tw.e_kif, Tw.e_kpart, Tw.e_krev, Tw.e_kcall, Tw.e_ksRet, Tw.e_ksExpr, Tw.e_ksIf, Tw.e_ksAsg, Tw.e_ksFor, Tw.e_ksStore, Tw.e_kstR, Tw.e_km1T, Tw.e_kiSeq, Tw.e_kiRng, Tw.e_kiZip, Tw.e_kmake, Tw.e_kfset, Tw.e_kchRT, Tw.e_kchain2, Tw.e_kchain, Tw.e_ksl, Tw.e_ksl2, Tw.e_ksl3, Tw.e_ksPar, Tw.e_ksPar2, Tw.e_ksAug, Tw.e_ksAug2, Tw.e_kcp3, Tw.e_kcomp, Tw.e_kcomp2, Tw.e_coR, Tw.e_kco2, Tw.e_kco, Tw.e_co, Tw.e_callR, Tw.e_call, Tw.e_io0, Tw.e_io1, Tw.e_io1R, Tw.e_itR, Tw.e_iSeq, Tw.e_rgR, Tw.e_iRng, Tw.e_zpR, Tw.e_iZip, Tw.e_comp, Tw.e_comp2, Tw.e_wipe0, Tw.e_wipe1, Tw.e_bTp, Tw.e_bNil, Tw.e_bCons, Tw.e_mkR, Tw.e_make, Tw.e_fset, Tw.e_fsR, Tw.e_oo, Tw.e_ooR, Tw.e_coR2, Tw.tru_non, Tw.tru_bl, Tw.tru_int, Tw.tru_tup, Tw.tru_lst, Tw.asI_int, Tw.ints_nil, Tw.ints_cons, Tw.items_lst, Tw.items_tup, Tw.seqK_lst, Tw.seqK_tup, Tw.isN_int, Tw.isN_non, Tw.isN_tup, Tw.notN_int, Tw.notN_non, Tw.notN_tup, Tw.mul_int, Tw.add_int, Tw.sub_int, Tw.fdiv_int, Tw.mod_int, Tw.pow_int, Tw.lt_int, Tw.le_int, Tw.gt_int, Tw.ge_int, Tw.neg_int, Tw.imul_int, Tw.iadd_int, Tw.len_lst, Tw.len_tup, Tw.ix_lst, Tw.ix_tup, Tw.tuple_lst, Tw.tuple_tup, Tw.list_lst, Tw.list_tup, Tw.abs_int, Tw.intC_int, Tw.intC_bl, Tw.all_lst, Tw.any_lst, Tw.isi_2, Tw.tag_non, Tw.tag_bl, Tw.tag_int, Tw.tag_str, Tw.tag_tup, Tw.tag_lst, Tw.tag_obj, Tw.asT_ty, Tw.asT_cl, Tw.frz_int, Tw.frz_bl, Tw.frz_non, Tw.frz_ty, Tw.frz_cl, Tw.frz_scr, Tw.frz_tup, Tw.frz_lst, Tw.frz_obj, Tw.frzs_nil, Tw.frzs_cons, Tw.ok_int, Tw.ok_bl, Tw.ok_non, Tw.ok_tup, Tw.ok_lst, Tw.ok_obj, Tw.doks_nil, Tw.doks_cons, Tw.sl_scr, Tw.sl_lst, Tw.sl_tup, Tw.rev_lst, Tw.rev_tup, Tw.eq_int, Tw.ne_int, Tw.e_kcpB, Tw.e_cpB, Tw.e_compB, Tw.e_fgN, Tw.e_fgC, Tw.e_fgB, Tw.e_fgRt, Tw.e_fgR, Tw.e_for0, Tw.e_for1, Tw.e_cgF, Tw.e_cgT, Tw.e_cgR, Tw.e_neo, Tw.e_cg0, Tw.e_cg1, Tw.e_c2A, Tw.e_c2I, Tw.e_c2T, Tw.e_c2R, Tw.e_c20, Tw.e_c21, Tw.at5_0, Tw.at5_1, Tw.at5_2, Tw.at5_3, Tw.at5_4, Tw.ix5_1, Tw.ix5_2, Tw.ix5_3, Tw.ix5_4, Tw.ints_map, Tw.add_tup, Tw.add_lst, Tw.oks_rows, Tw.frzs_rows, Tw.rows_len, Tw.oks_int, Tw.frzs_int, Tw.oks_tI, Tw.ok_tI, Tw.frz_tI, Tw.e_bok, Tw.e_sbok, List.map_cons, List.map_nil, List.length_cons, List.length_nil, List.cons_append, List.nil_append, List.replicate, List.getElem?_cons_zero, List.getElem?_cons_succ, List.set_cons_zero, List.set_cons_succ, Option.bind_some, Option.map_some, Nat.zero_add, Nat.add_zero, Nat.reduceAdd, Nat.reduceSub, Nat.reduceLT, Nat.reduceLeDiff, Bool.and_true, Bool.true_and, Bool.and_self, Bool.not_true, Bool.not_false, Bool.false_and, Bool.and_false, Bool.or_true, Bool.true_or, Bool.or_false, Bool.false_or, if_true, if_false, Bool.false_eq_true, reduceCtorEq, ite_true, ite_false, decide_true, decide_false, decide_eq_true_eq, ne_eq, Int.reduceEq, not_false_eq_true, not_true_eq_false, List.length_map, Option.map_none, Int.reduceNeg, and_self]
    · by_cases hn0 : n = 0
      · have hi : ¬ i < cs.length := fun z => c ⟨hn0, z⟩
        subst hn0
        refine ⟨?x4, ?i4, ?n4, ?s4, ?t4, ?m4, ?h4⟩
        case m4 =>
          simp only [h__law_draw, b__law_draw, hnd, hi, hn, m0, cd, c_1, c_2, c_3, cm_fm1, d_1, d_2, d_3, p_1, Tw.e_run, Tw.e_rtR, Tw.e_rtX, Tw.e_rtN, Tw.e_io_nil, Tw.e_io_one, Tw.e_ioR1, Tw.e_seq, Tw.e_seqN, Tw.e_seqR, Tw.e_seqB, Tw.e_seqC, Tw.e_sNil, Tw.e_sBrk, Tw.e_sCont, Tw.e_sRet, Tw.e_sExpr, Tw.e_sIf, Tw.e_sAsg, Tw.e_nxR, Tw.e_bNm, Tw.e_sPar, Tw.e_sFor, Tw.e_sAug, Tw.e_augR, Tw.e_own, Tw.e_ownR, Tw.e_stR2, Tw.e_sStore, Tw.e_stR, Tw.e_stR3, Tw.e_m1R, Tw.e_m1S, Tw.e_m1T, Tw.e_mt1, Tw.e_m0S, Tw.e_mt0, Tw.e_var, Tw.e_varR, Tw.e_move, Tw.e_moveR, Tw.e_K, Tw.e_nil, Tw.e_val, Tw.e_slot, Tw.e_slotR, Tw.e_gnil, Tw.e_gval, Tw.e_gvR, Tw.e_gslot, Tw.e_gsR, Tw.e_gR, Tw.e_gpR, Tw.e_N, Tw.e_vals0, Tw.e_vals1, Tw.e_tup, Tw.e_lst, Tw.e_and, Tw.e_andT, Tw.e_andF, Tw.e_or, Tw.e_orT, Tw.e_orF, Tw.e_not, Tw.e_notR, Tw.e_bE, Tw.e_bR, Tw.e_bAnd, Tw.e_bOr, Tw.e_bNot, Tw.e_bTrue, Tw.e_if, Tw.e_chR2, Tw.e_chRT, Tw.e_chRF, Tw.e_chain, Tw.e_part0, Tw.e_part, Tw.e_partR, Tw.e_sl, Tw.e_rev, Tw.e_kval, Tw.e_kval2, Tw.e_kN, Tw.e_ktup, Tw.e_klst, Tw.e_kand, Tw.e_kor, Tw.e_knot, Tw.e_kbE, Tw.e_kbAnd, Tw.e_kbOr, Tw.e_kbNot, Tw.e_kif, Tw.e_kpart, Tw.e_krev, Tw.e_kcall, Tw.e_ksRet, Tw.e_ksExpr, Tw.e_ksIf, Tw.e_ksAsg, Tw.e_ksFor, Tw.e_ksStore, Tw.e_kstR, Tw.e_km1T, Tw.e_kiSeq, Tw.e_kiRng, Tw.e_kiZip, Tw.e_kmake, Tw.e_kfset, Tw.e_kchRT, Tw.e_kchain2, Tw.e_kchain, Tw.e_ksl, Tw.e_ksl2, Tw.e_ksl3, Tw.e_ksPar, Tw.e_ksPar2, Tw.e_ksAug, Tw.e_ksAug2, Tw.e_kcp3, Tw.e_kcomp, Tw.e_kcomp2, Tw.e_coR, Tw.e_kco2, Tw.e_kco, Tw.e_co, Tw.e_callR, Tw.e_call, Tw.e_io0, Tw.e_io1, Tw.e_io1R, Tw.e_itR, Tw.e_iSeq, Tw.e_rgR, Tw.e_iRng, Tw.e_zpR, Tw.e_iZip, Tw.e_comp, Tw.e_comp2, Tw.e_wipe0, Tw.e_wipe1, Tw.e_bTp, Tw.e_bNil, Tw.e_bCons, Tw.e_mkR, Tw.e_make, Tw.e_fset, Tw.e_fsR, Tw.e_oo, Tw.e_ooR, Tw.e_coR2, Tw.tru_non, Tw.tru_bl, Tw.tru_int, Tw.tru_tup, Tw.tru_lst, Tw.asI_int, Tw.ints_nil, Tw.ints_cons, Tw.items_lst, Tw.items_tup, Tw.seqK_lst, Tw.seqK_tup, Tw.isN_int, Tw.isN_non, Tw.isN_tup, Tw.notN_int, Tw.notN_non, Tw.notN_tup, Tw.mul_int, Tw.add_int, Tw.sub_int, Tw.fdiv_int, Tw.mod_int, Tw.pow_int, Tw.lt_int, Tw.le_int, Tw.gt_int, Tw.ge_int, Tw.neg_int, Tw.imul_int, Tw.iadd_int, Tw.len_lst, Tw.len_tup, Tw.ix_lst, Tw.ix_tup, Tw.tuple_lst, Tw.tuple_tup, Tw.list_lst, Tw.list_tup, Tw.abs_int, Tw.intC_int, Tw.intC_bl, Tw.all_lst, Tw.any_lst, Tw.isi_2, Tw.tag_non, Tw.tag_bl, Tw.tag_int, Tw.tag_str, Tw.tag_tup, Tw.tag_lst, Tw.tag_obj, Tw.asT_ty, Tw.asT_cl, Tw.frz_int, Tw.frz_bl, Tw.frz_non, Tw.frz_ty, Tw.frz_cl, Tw.frz_scr, Tw.frz_tup, Tw.frz_lst, Tw.frz_obj, Tw.frzs_nil, Tw.frzs_cons, Tw.ok_int, Tw.ok_bl, Tw.ok_non, Tw.ok_tup, Tw.ok_lst, Tw.ok_obj, Tw.doks_nil, Tw.doks_cons, Tw.sl_scr, Tw.sl_lst, Tw.sl_tup, Tw.rev_lst, Tw.rev_tup, Tw.eq_int, Tw.ne_int, Tw.e_kcpB, Tw.e_cpB, Tw.e_compB, Tw.e_fgN, Tw.e_fgC, Tw.e_fgB, Tw.e_fgRt, Tw.e_fgR, Tw.e_for0, Tw.e_for1, Tw.e_cgF, Tw.e_cgT, Tw.e_cgR, Tw.e_neo, Tw.e_cg0, Tw.e_cg1, Tw.e_c2A, Tw.e_c2I, Tw.e_c2T, Tw.e_c2R, Tw.e_c20, Tw.e_c21, Tw.at5_0, Tw.at5_1, Tw.at5_2, Tw.at5_3, Tw.at5_4, Tw.ix5_1, Tw.ix5_2, Tw.ix5_3, Tw.ix5_4, Tw.ints_map, Tw.add_tup, Tw.add_lst, Tw.oks_rows, Tw.frzs_rows, Tw.rows_len, Tw.oks_int, Tw.frzs_int, Tw.oks_tI, Tw.ok_tI, Tw.frz_tI, Tw.e_bok, Tw.e_sbok, List.map_cons, List.map_nil, List.length_cons, List.length_nil, List.cons_append, List.nil_append, List.replicate, List.getElem?_cons_zero, List.getElem?_cons_succ, List.set_cons_zero, List.set_cons_succ, Option.bind_some, Option.map_some, Nat.zero_add, Nat.add_zero, Nat.reduceAdd, Nat.reduceSub, Nat.reduceLT, Nat.reduceLeDiff, Bool.and_true, Bool.true_and, Bool.and_self, Bool.not_true, Bool.not_false, Bool.false_and, Bool.and_false, Bool.or_true, Bool.true_or, Bool.or_false, Bool.false_or, if_true, if_false, Bool.false_eq_true, reduceCtorEq, ite_true, ite_false, decide_true, decide_false, decide_eq_true_eq, ne_eq, Int.reduceEq, not_false_eq_true, not_true_eq_false, List.length_map, Option.map_none, Int.reduceNeg, and_self]
          rfl
        case h4 => omega
      · refine ⟨?x5, ?i5, ?n5, ?s5, ?t5, ?m5, ?h5⟩
        case m5 =>
          simp only [h__law_draw, b__law_draw, hnd, hn0, hn, m0, cd, c_1, c_2, c_3, cm_fm1, d_1, d_2, d_3, p_1, Tw.e_run, Tw.e_rtR, Tw.e_rtX, Tw.e_rtN, Tw.e_io_nil, Tw.e_io_one, Tw.e_ioR1, Tw.e_seq, Tw.e_seqN, Tw.e_seqR, Tw.e_seqB, Tw.e_seqC, Tw.e_sNil, Tw.e_sBrk, Tw.e_sCont, Tw.e_sRet, Tw.e_sExpr, Tw.e_sIf, Tw.e_sAsg, Tw.e_nxR, Tw.e_bNm, Tw.e_sPar, Tw.e_sFor, Tw.e_sAug, Tw.e_augR, Tw.e_own, Tw.e_ownR, Tw.e_stR2, Tw.e_sStore, Tw.e_stR, Tw.e_stR3, Tw.e_m1R, Tw.e_m1S, Tw.e_m1T, Tw.e_mt1, Tw.e_m0S, Tw.e_mt0, Tw.e_var, Tw.e_varR, Tw.e_move, Tw.e_moveR, Tw.e_K, Tw.e_nil, Tw.e_val, Tw.e_slot, Tw.e_slotR, Tw.e_gnil, Tw.e_gval, Tw.e_gvR, Tw.e_gslot, Tw.e_gsR, Tw.e_gR, Tw.e_gpR, Tw.e_N, Tw.e_vals0, Tw.e_vals1, Tw.e_tup, Tw.e_lst, Tw.e_and, Tw.e_andT, Tw.e_andF, Tw.e_or, Tw.e_orT, Tw.e_orF, Tw.e_not, Tw.e_notR, Tw.e_bE, Tw.e_bR, Tw.e_bAnd, Tw.e_bOr, Tw.e_bNot, Tw.e_bTrue, Tw.e_if, Tw.e_chR2, Tw.e_chRT, Tw.e_chRF, Tw.e_chain, Tw.e_part0, Tw.e_part, Tw.e_partR, Tw.e_sl, Tw.e_rev, Tw.e_kval, Tw.e_kval2, Tw.e_kN, Tw.e_ktup, Tw.e_klst, Tw.e_kand, Tw.e_kor, Tw.e_knot, Tw.e_kbE, Tw.e_kbAnd, Tw.e_kbOr, Tw.e_kbNot, Tw.e_kif, Tw.e_kpart, Tw.e_krev, Tw.e_kcall, Tw.e_ksRet, Tw.e_ksExpr, Tw.e_ksIf, Tw.e_ksAsg, Tw.e_ksFor, Tw.e_ksStore, Tw.e_kstR, Tw.e_km1T, Tw.e_kiSeq, Tw.e_kiRng, Tw.e_kiZip, Tw.e_kmake, Tw.e_kfset, Tw.e_kchRT, Tw.e_kchain2, Tw.e_kchain, Tw.e_ksl, Tw.e_ksl2, Tw.e_ksl3, Tw.e_ksPar, Tw.e_ksPar2, Tw.e_ksAug, Tw.e_ksAug2, Tw.e_kcp3, Tw.e_kcomp, Tw.e_kcomp2, Tw.e_coR, Tw.e_kco2, Tw.e_kco, Tw.e_co, Tw.e_callR, Tw.e_call, Tw.e_io0, Tw.e_io1, Tw.e_io1R, Tw.e_itR, Tw.e_iSeq, Tw.e_rgR, Tw.e_iRng, Tw.e_zpR, Tw.e_iZip, Tw.e_comp, Tw.e_comp2, Tw.e_wipe0, Tw.e_wipe1, Tw.e_bTp, Tw.e_bNil, Tw.e_bCons, Tw.e_mkR, Tw.e_make, Tw.e_fset, Tw.e_fsR, Tw.e_oo, Tw.e_ooR, Tw.e_coR2, Tw.tru_non, Tw.tru_bl, Tw.tru_int, Tw.tru_tup, Tw.tru_lst, Tw.asI_int, Tw.ints_nil, Tw.ints_cons, Tw.items_lst, Tw.items_tup, Tw.seqK_lst, Tw.seqK_tup, Tw.isN_int, Tw.isN_non, Tw.isN_tup, Tw.notN_int, Tw.notN_non, Tw.notN_tup, Tw.mul_int, Tw.add_int, Tw.sub_int, Tw.fdiv_int, Tw.mod_int, Tw.pow_int, Tw.lt_int, Tw.le_int, Tw.gt_int, Tw.ge_int, Tw.neg_int, Tw.imul_int, Tw.iadd_int, Tw.len_lst, Tw.len_tup, Tw.ix_lst, Tw.ix_tup, Tw.tuple_lst, Tw.tuple_tup, Tw.list_lst, Tw.list_tup, Tw.abs_int, Tw.intC_int, Tw.intC_bl, Tw.all_lst, Tw.any_lst, Tw.isi_2, Tw.tag_non, Tw.tag_bl, Tw.tag_int, Tw.tag_str, Tw.tag_tup, Tw.tag_lst, Tw.tag_obj, Tw.asT_ty, Tw.asT_cl, Tw.frz_int, Tw.frz_bl, Tw.frz_non, Tw.frz_ty, Tw.frz_cl, Tw.frz_scr, Tw.frz_tup, Tw.frz_lst, Tw.frz_obj, Tw.frzs_nil, Tw.frzs_cons, Tw.ok_int, Tw.ok_bl, Tw.ok_non, Tw.ok_tup, Tw.ok_lst, Tw.ok_obj, Tw.doks_nil, Tw.doks_cons, Tw.sl_scr, Tw.sl_lst, Tw.sl_tup, Tw.rev_lst, Tw.rev_tup, Tw.eq_int, Tw.ne_int, Tw.e_kcpB, Tw.e_cpB, Tw.e_compB, Tw.e_fgN, Tw.e_fgC, Tw.e_fgB, Tw.e_fgRt, Tw.e_fgR, Tw.e_for0, Tw.e_for1, Tw.e_cgF, Tw.e_cgT, Tw.e_cgR, Tw.e_neo, Tw.e_cg0, Tw.e_cg1, Tw.e_c2A, Tw.e_c2I, Tw.e_c2T, Tw.e_c2R, Tw.e_c20, Tw.e_c21, Tw.at5_0, Tw.at5_1, Tw.at5_2, Tw.at5_3, Tw.at5_4, Tw.ix5_1, Tw.ix5_2, Tw.ix5_3, Tw.ix5_4, Tw.ints_map, Tw.add_tup, Tw.add_lst, Tw.oks_rows, Tw.frzs_rows, Tw.rows_len, Tw.oks_int, Tw.frzs_int, Tw.oks_tI, Tw.ok_tI, Tw.frz_tI, Tw.e_bok, Tw.e_sbok, List.map_cons, List.map_nil, List.length_cons, List.length_nil, List.cons_append, List.nil_append, List.replicate, List.getElem?_cons_zero, List.getElem?_cons_succ, List.set_cons_zero, List.set_cons_succ, Option.bind_some, Option.map_some, Nat.zero_add, Nat.add_zero, Nat.reduceAdd, Nat.reduceSub, Nat.reduceLT, Nat.reduceLeDiff, Bool.and_true, Bool.true_and, Bool.and_self, Bool.not_true, Bool.not_false, Bool.false_and, Bool.and_false, Bool.or_true, Bool.true_or, Bool.or_false, Bool.false_or, if_true, if_false, Bool.false_eq_true, reduceCtorEq, ite_true, ite_false, decide_true, decide_false, decide_eq_true_eq, ne_eq, Int.reduceEq, not_false_eq_true, not_true_eq_false, List.length_map, Option.map_none, Int.reduceNeg, and_self]
          rfl
        case h5 => omega
theorem draw_ok {d : D} {many : Int} (hd : Hand d) (h1 : 0 < many) (h2 : many < 1073741824) : ∃ (r : Int) (d' : D), h__law_draw [d, .int many] = .ret (.int r) [d'] ∧ (0 ≤ r ∧ r < many) ∧ Hand d' := by
  obtain ⟨cs, i, n, s, t, rfl, h0⟩ := hd
  obtain ⟨x, i', n', s', t', e, h⟩ := draw_x (n := n) (s := s) (t := t) (cs := cs) h0 h1 h2
  exact ⟨_, _, e, ⟨Int.fmod_nonneg_of_pos _ h1, Int.fmod_lt_of_pos _ h1⟩, ⟨cs, i', n', s', t', rfl, h⟩⟩
theorem any_ok {d : D} {m : Bool} {ns : List Int} (hd : Hand d) (h1 : 0 < ns.length) (h2 : ns.length < 1073741824) : ∃ (r : Int) (d' : D), h__law_any [d, .lst m (ns.map .int)] = .ret (.int r) [d'] ∧ r ∈ ns ∧ Hand d' := by
  obtain ⟨r, d', e, ⟨b1, b2⟩, h⟩ := draw_ok (many := (ns.length : Int)) hd (by omega) (by omega)
  have a := atI_map (ns := ns) (i := r) b1 b2
  refine ⟨ns.getD r.toNat 0, d', ?_, ?_, h⟩
  · simp only [h__law_any, b__law_any, e, a, Tw.e_run, Tw.e_rtR, Tw.e_rtX, Tw.e_rtN, Tw.e_io_nil, Tw.e_io_one, Tw.e_ioR1, Tw.e_seq, Tw.e_seqN, Tw.e_seqR, Tw.e_seqB, Tw.e_seqC, Tw.e_sNil, Tw.e_sBrk, Tw.e_sCont, Tw.e_sRet, Tw.e_sExpr, Tw.e_sIf, Tw.e_sAsg, Tw.e_nxR, Tw.e_bNm, Tw.e_sPar, Tw.e_sFor, Tw.e_sAug, Tw.e_augR, Tw.e_own, Tw.e_ownR, Tw.e_stR2, Tw.e_sStore, Tw.e_stR, Tw.e_stR3, Tw.e_m1R, Tw.e_m1S, Tw.e_m1T, Tw.e_mt1, Tw.e_m0S, Tw.e_mt0, Tw.e_var, Tw.e_varR, Tw.e_move, Tw.e_moveR, Tw.e_K, Tw.e_nil, Tw.e_val, Tw.e_slot, Tw.e_slotR, Tw.e_gnil, Tw.e_gval, Tw.e_gvR, Tw.e_gslot, Tw.e_gsR, Tw.e_gR, Tw.e_gpR, Tw.e_N, Tw.e_vals0, Tw.e_vals1, Tw.e_tup, Tw.e_lst, Tw.e_and, Tw.e_andT, Tw.e_andF, Tw.e_or, Tw.e_orT, Tw.e_orF, Tw.e_not, Tw.e_notR, Tw.e_bE, Tw.e_bR, Tw.e_bAnd, Tw.e_bOr, Tw.e_bNot, Tw.e_bTrue, Tw.e_if, Tw.e_chR2, Tw.e_chRT, Tw.e_chRF, Tw.e_chain, Tw.e_part0, Tw.e_part, Tw.e_partR, Tw.e_sl, Tw.e_rev, Tw.e_kval, Tw.e_kval2, Tw.e_kN, Tw.e_ktup, Tw.e_klst, Tw.e_kand, Tw.e_kor, Tw.e_knot, Tw.e_kbE, Tw.e_kbAnd, Tw.e_kbOr, Tw.e_kbNot, Tw.e_kif, Tw.e_kpart, Tw.e_krev, Tw.e_kcall, Tw.e_ksRet, Tw.e_ksExpr, Tw.e_ksIf, Tw.e_ksAsg, Tw.e_ksFor, Tw.e_ksStore, Tw.e_kstR, Tw.e_km1T, Tw.e_kiSeq, Tw.e_kiRng, Tw.e_kiZip, Tw.e_kmake, Tw.e_kfset, Tw.e_kchRT, Tw.e_kchain2, Tw.e_kchain, Tw.e_ksl, Tw.e_ksl2, Tw.e_ksl3, Tw.e_ksPar, Tw.e_ksPar2, Tw.e_ksAug, Tw.e_ksAug2, Tw.e_kcp3, Tw.e_kcomp, Tw.e_kcomp2, Tw.e_coR, Tw.e_kco2, Tw.e_kco, Tw.e_co, Tw.e_callR, Tw.e_call, Tw.e_io0, Tw.e_io1, Tw.e_io1R, Tw.e_itR, Tw.e_iSeq, Tw.e_rgR, Tw.e_iRng, Tw.e_zpR, Tw.e_iZip, Tw.e_comp, Tw.e_comp2, Tw.e_wipe0, Tw.e_wipe1, Tw.e_bTp, Tw.e_bNil, Tw.e_bCons, Tw.e_mkR, Tw.e_make, Tw.e_fset, Tw.e_fsR, Tw.e_oo, Tw.e_ooR, Tw.e_coR2, Tw.tru_non, Tw.tru_bl, Tw.tru_int, Tw.tru_tup, Tw.tru_lst, Tw.asI_int, Tw.ints_nil, Tw.ints_cons, Tw.items_lst, Tw.items_tup, Tw.seqK_lst, Tw.seqK_tup, Tw.isN_int, Tw.isN_non, Tw.isN_tup, Tw.notN_int, Tw.notN_non, Tw.notN_tup, Tw.mul_int, Tw.add_int, Tw.sub_int, Tw.fdiv_int, Tw.mod_int, Tw.pow_int, Tw.lt_int, Tw.le_int, Tw.gt_int, Tw.ge_int, Tw.neg_int, Tw.imul_int, Tw.iadd_int, Tw.len_lst, Tw.len_tup, Tw.ix_lst, Tw.ix_tup, Tw.tuple_lst, Tw.tuple_tup, Tw.list_lst, Tw.list_tup, Tw.abs_int, Tw.intC_int, Tw.intC_bl, Tw.all_lst, Tw.any_lst, Tw.isi_2, Tw.tag_non, Tw.tag_bl, Tw.tag_int, Tw.tag_str, Tw.tag_tup, Tw.tag_lst, Tw.tag_obj, Tw.asT_ty, Tw.asT_cl, Tw.frz_int, Tw.frz_bl, Tw.frz_non, Tw.frz_ty, Tw.frz_cl, Tw.frz_scr, Tw.frz_tup, Tw.frz_lst, Tw.frz_obj, Tw.frzs_nil, Tw.frzs_cons, Tw.ok_int, Tw.ok_bl, Tw.ok_non, Tw.ok_tup, Tw.ok_lst, Tw.ok_obj, Tw.doks_nil, Tw.doks_cons, Tw.sl_scr, Tw.sl_lst, Tw.sl_tup, Tw.rev_lst, Tw.rev_tup, Tw.eq_int, Tw.ne_int, Tw.e_kcpB, Tw.e_cpB, Tw.e_compB, Tw.e_fgN, Tw.e_fgC, Tw.e_fgB, Tw.e_fgRt, Tw.e_fgR, Tw.e_for0, Tw.e_for1, Tw.e_cgF, Tw.e_cgT, Tw.e_cgR, Tw.e_neo, Tw.e_cg0, Tw.e_cg1, Tw.e_c2A, Tw.e_c2I, Tw.e_c2T, Tw.e_c2R, Tw.e_c20, Tw.e_c21, Tw.at5_0, Tw.at5_1, Tw.at5_2, Tw.at5_3, Tw.at5_4, Tw.ix5_1, Tw.ix5_2, Tw.ix5_3, Tw.ix5_4, Tw.ints_map, Tw.add_tup, Tw.add_lst, Tw.oks_rows, Tw.frzs_rows, Tw.rows_len, Tw.oks_int, Tw.frzs_int, Tw.oks_tI, Tw.ok_tI, Tw.frz_tI, Tw.e_bok, Tw.e_sbok, List.map_cons, List.map_nil, List.length_cons, List.length_nil, List.cons_append, List.nil_append, List.replicate, List.getElem?_cons_zero, List.getElem?_cons_succ, List.set_cons_zero, List.set_cons_succ, Option.bind_some, Option.map_some, Nat.zero_add, Nat.add_zero, Nat.reduceAdd, Nat.reduceSub, Nat.reduceLT, Nat.reduceLeDiff, Bool.and_true, Bool.true_and, Bool.and_self, Bool.not_true, Bool.not_false, Bool.false_and, Bool.and_false, Bool.or_true, Bool.true_or, Bool.or_false, Bool.false_or, if_true, if_false, Bool.false_eq_true, reduceCtorEq, ite_true, ite_false, decide_true, decide_false, decide_eq_true_eq, ne_eq, Int.reduceEq, not_false_eq_true, not_true_eq_false, List.length_map, Option.map_none, Int.reduceNeg, and_self]
  · have h3 : r.toNat < ns.length := by omega
    rw [List.getD_eq_getElem?_getD, List.getElem?_eq_getElem h3]
    exact List.getElem_mem h3
theorem cut_len {α : Type} (xs : List α) (lo hi : Option Int) : (Tw.cutD xs lo hi).length ≤ xs.length := by
  unfold Tw.cutD
  rw [List.length_take, List.length_drop]
  omega
theorem hand_ok {ns : List Int} (h : ns.length ≤ 63) : ∃ d, h__law_hand [.scr ns] = .ret d [] ∧ Hand d := by
  obtain ⟨l, el⟩ : ∃ l, l = Tw.cutD ns none (some 63) := ⟨_, rfl⟩
  have hl : l.length ≤ 63 := by rw [el]; exact Nat.le_trans (cut_len ns none (some 63)) h
  have l1 : lenOk l.length = true := lenOk_of (by omega)
  have key := comp_map1 (vs := [2]) (b := bNm 2) (t := bTrue) (f := fN gAbs [.val (fN gIntC [.val (fVar 2)])]) (g := D.int) (env := [some (.scr ns), none, none]) (fun x : Int => D.int (if x < 0 then -x else x)) l fun x hx ds acc => by
    simp only [Tw.e_run, Tw.e_rtR, Tw.e_rtX, Tw.e_rtN, Tw.e_io_nil, Tw.e_io_one, Tw.e_ioR1, Tw.e_seq, Tw.e_seqN, Tw.e_seqR, Tw.e_seqB, Tw.e_seqC, Tw.e_sNil, Tw.e_sBrk, Tw.e_sCont, Tw.e_sRet, Tw.e_sExpr, Tw.e_sIf, Tw.e_sAsg, Tw.e_nxR, Tw.e_bNm, Tw.e_sPar, Tw.e_sFor, Tw.e_sAug, Tw.e_augR, Tw.e_own, Tw.e_ownR, Tw.e_stR2, Tw.e_sStore, Tw.e_stR, Tw.e_stR3, Tw.e_m1R, Tw.e_m1S, Tw.e_m1T, Tw.e_mt1, Tw.e_m0S, Tw.e_mt0, Tw.e_var, Tw.e_varR, Tw.e_move, Tw.e_moveR, Tw.e_K, Tw.e_nil, Tw.e_val, Tw.e_slot, Tw.e_slotR, Tw.e_gnil, Tw.e_gval, Tw.e_gvR, Tw.e_gslot, Tw.e_gsR, Tw.e_gR, Tw.e_gpR, Tw.e_N, Tw.e_vals0, Tw.e_vals1, Tw.e_tup, Tw.e_lst, Tw.e_and, Tw.e_andT, Tw.e_andF, Tw.e_or, Tw.e_orT, Tw.e_orF, Tw.e_not, Tw.e_notR, Tw.e_bE, Tw.e_bR, Tw.e_bAnd, Tw.e_bOr, Tw.e_bNot, Tw.e_bTrue, Tw.e_if, Tw.e_chR2, Tw.e_chRT, Tw.e_chRF, Tw.e_chain, Tw.e_part0, Tw.e_part, Tw.e_partR, Tw.e_sl, Tw.e_rev, Tw.e_kval, Tw.e_kval2, Tw.e_kN, Tw.e_ktup, Tw.e_klst, Tw.e_kand, Tw.e_kor, Tw.e_knot, Tw.e_kbE, Tw.e_kbAnd, Tw.e_kbOr, Tw.e_kbNot, Tw.e_kif, Tw.e_kpart, Tw.e_krev, Tw.e_kcall, Tw.e_ksRet, Tw.e_ksExpr, Tw.e_ksIf, Tw.e_ksAsg, Tw.e_ksFor, Tw.e_ksStore, Tw.e_kstR, Tw.e_km1T, Tw.e_kiSeq, Tw.e_kiRng, Tw.e_kiZip, Tw.e_kmake, Tw.e_kfset, Tw.e_kchRT, Tw.e_kchain2, Tw.e_kchain, Tw.e_ksl, Tw.e_ksl2, Tw.e_ksl3, Tw.e_ksPar, Tw.e_ksPar2, Tw.e_ksAug, Tw.e_ksAug2, Tw.e_kcp3, Tw.e_kcomp, Tw.e_kcomp2, Tw.e_coR, Tw.e_kco2, Tw.e_kco, Tw.e_co, Tw.e_callR, Tw.e_call, Tw.e_io0, Tw.e_io1, Tw.e_io1R, Tw.e_itR, Tw.e_iSeq, Tw.e_rgR, Tw.e_iRng, Tw.e_zpR, Tw.e_iZip, Tw.e_comp, Tw.e_comp2, Tw.e_wipe0, Tw.e_wipe1, Tw.e_bTp, Tw.e_bNil, Tw.e_bCons, Tw.e_mkR, Tw.e_make, Tw.e_fset, Tw.e_fsR, Tw.e_oo, Tw.e_ooR, Tw.e_coR2, Tw.tru_non, Tw.tru_bl, Tw.tru_int, Tw.tru_tup, Tw.tru_lst, Tw.asI_int, Tw.ints_nil, Tw.ints_cons, Tw.items_lst, Tw.items_tup, Tw.seqK_lst, Tw.seqK_tup, Tw.isN_int, Tw.isN_non, Tw.isN_tup, Tw.notN_int, Tw.notN_non, Tw.notN_tup, Tw.mul_int, Tw.add_int, Tw.sub_int, Tw.fdiv_int, Tw.mod_int, Tw.pow_int, Tw.lt_int, Tw.le_int, Tw.gt_int, Tw.ge_int, Tw.neg_int, Tw.imul_int, Tw.iadd_int, Tw.len_lst, Tw.len_tup, Tw.ix_lst, Tw.ix_tup, Tw.tuple_lst, Tw.tuple_tup, Tw.list_lst, Tw.list_tup, Tw.abs_int, Tw.intC_int, Tw.intC_bl, Tw.all_lst, Tw.any_lst, Tw.isi_2, Tw.tag_non, Tw.tag_bl, Tw.tag_int, Tw.tag_str, Tw.tag_tup, Tw.tag_lst, Tw.tag_obj, Tw.asT_ty, Tw.asT_cl, Tw.frz_int, Tw.frz_bl, Tw.frz_non, Tw.frz_ty, Tw.frz_cl, Tw.frz_scr, Tw.frz_tup, Tw.frz_lst, Tw.frz_obj, Tw.frzs_nil, Tw.frzs_cons, Tw.ok_int, Tw.ok_bl, Tw.ok_non, Tw.ok_tup, Tw.ok_lst, Tw.ok_obj, Tw.doks_nil, Tw.doks_cons, Tw.sl_scr, Tw.sl_lst, Tw.sl_tup, Tw.rev_lst, Tw.rev_tup, Tw.eq_int, Tw.ne_int, Tw.e_kcpB, Tw.e_cpB, Tw.e_compB, Tw.e_fgN, Tw.e_fgC, Tw.e_fgB, Tw.e_fgRt, Tw.e_fgR, Tw.e_for0, Tw.e_for1, Tw.e_cgF, Tw.e_cgT, Tw.e_cgR, Tw.e_neo, Tw.e_cg0, Tw.e_cg1, Tw.e_c2A, Tw.e_c2I, Tw.e_c2T, Tw.e_c2R, Tw.e_c20, Tw.e_c21, Tw.at5_0, Tw.at5_1, Tw.at5_2, Tw.at5_3, Tw.at5_4, Tw.ix5_1, Tw.ix5_2, Tw.ix5_3, Tw.ix5_4, Tw.ints_map, Tw.add_tup, Tw.add_lst, Tw.oks_rows, Tw.frzs_rows, Tw.rows_len, Tw.oks_int, Tw.frzs_int, Tw.oks_tI, Tw.ok_tI, Tw.frz_tI, Tw.e_bok, Tw.e_sbok, List.map_cons, List.map_nil, List.length_cons, List.length_nil, List.cons_append, List.nil_append, List.replicate, List.getElem?_cons_zero, List.getElem?_cons_succ, List.set_cons_zero, List.set_cons_succ, Option.bind_some, Option.map_some, Nat.zero_add, Nat.add_zero, Nat.reduceAdd, Nat.reduceSub, Nat.reduceLT, Nat.reduceLeDiff, Bool.and_true, Bool.true_and, Bool.and_self, Bool.not_true, Bool.not_false, Bool.false_and, Bool.and_false, Bool.or_true, Bool.true_or, Bool.or_false, Bool.false_or, if_true, if_false, Bool.false_eq_true, reduceCtorEq, ite_true, ite_false, decide_true, decide_false, decide_eq_true_eq, ne_eq, Int.reduceEq, not_false_eq_true, not_true_eq_false, List.length_map, Option.map_none, Int.reduceNeg, and_self]
  have em : l.map (fun x : Int => D.int (if x < 0 then -x else x)) = (l.map fun x : Int => if x < 0 then -x else x).map .int := by rw [List.map_map]; rfl
  rw [em] at key
  refine ⟨hnd (l.map fun x : Int => if x < 0 then -x else x) 0 0 (1 + l.length) 0, ?_, ⟨_, _, _, _, _, rfl, by omega⟩⟩
  simp only [h__law_hand, b__law_hand, ← el, l1, key, hnd, Tw.e_run, Tw.e_rtR, Tw.e_rtX, Tw.e_rtN, Tw.e_io_nil, Tw.e_io_one, Tw.e_ioR1, Tw.e_seq, Tw.e_seqN, Tw.e_seqR, Tw.e_seqB, Tw.e_seqC, Tw.e_sNil, Tw.e_sBrk, Tw.e_sCont, Tw.e_sRet, Tw.e_sExpr, Tw.e_sIf, Tw.e_sAsg, Tw.e_nxR, Tw.e_bNm, Tw.e_sPar, Tw.e_sFor, Tw.e_sAug, Tw.e_augR, Tw.e_own, Tw.e_ownR, Tw.e_stR2, Tw.e_sStore, Tw.e_stR, Tw.e_stR3, Tw.e_m1R, Tw.e_m1S, Tw.e_m1T, Tw.e_mt1, Tw.e_m0S, Tw.e_mt0, Tw.e_var, Tw.e_varR, Tw.e_move, Tw.e_moveR, Tw.e_K, Tw.e_nil, Tw.e_val, Tw.e_slot, Tw.e_slotR, Tw.e_gnil, Tw.e_gval, Tw.e_gvR, Tw.e_gslot, Tw.e_gsR, Tw.e_gR, Tw.e_gpR, Tw.e_N, Tw.e_vals0, Tw.e_vals1, Tw.e_tup, Tw.e_lst, Tw.e_and, Tw.e_andT, Tw.e_andF, Tw.e_or, Tw.e_orT, Tw.e_orF, Tw.e_not, Tw.e_notR, Tw.e_bE, Tw.e_bR, Tw.e_bAnd, Tw.e_bOr, Tw.e_bNot, Tw.e_bTrue, Tw.e_if, Tw.e_chR2, Tw.e_chRT, Tw.e_chRF, Tw.e_chain, Tw.e_part0, Tw.e_part, Tw.e_partR, Tw.e_sl, Tw.e_rev, Tw.e_kval, Tw.e_kval2, Tw.e_kN, Tw.e_ktup, Tw.e_klst, Tw.e_kand, Tw.e_kor, Tw.e_knot, Tw.e_kbE, Tw.e_kbAnd, Tw.e_kbOr, Tw.e_kbNot, Tw.e_kif, Tw.e_kpart, Tw.e_krev, Tw.e_kcall, Tw.e_ksRet, Tw.e_ksExpr, Tw.e_ksIf, Tw.e_ksAsg, Tw.e_ksFor, Tw.e_ksStore, Tw.e_kstR, Tw.e_km1T, Tw.e_kiSeq, Tw.e_kiRng, Tw.e_kiZip, Tw.e_kmake, Tw.e_kfset, Tw.e_kchRT, Tw.e_kchain2, Tw.e_kchain, Tw.e_ksl, Tw.e_ksl2, Tw.e_ksl3, Tw.e_ksPar, Tw.e_ksPar2, Tw.e_ksAug, Tw.e_ksAug2, Tw.e_kcp3, Tw.e_kcomp, Tw.e_kcomp2, Tw.e_coR, Tw.e_kco2, Tw.e_kco, Tw.e_co, Tw.e_callR, Tw.e_call, Tw.e_io0, Tw.e_io1, Tw.e_io1R, Tw.e_itR, Tw.e_iSeq, Tw.e_rgR, Tw.e_iRng, Tw.e_zpR, Tw.e_iZip, Tw.e_comp, Tw.e_comp2, Tw.e_wipe0, Tw.e_wipe1, Tw.e_bTp, Tw.e_bNil, Tw.e_bCons, Tw.e_mkR, Tw.e_make, Tw.e_fset, Tw.e_fsR, Tw.e_oo, Tw.e_ooR, Tw.e_coR2, Tw.tru_non, Tw.tru_bl, Tw.tru_int, Tw.tru_tup, Tw.tru_lst, Tw.asI_int, Tw.ints_nil, Tw.ints_cons, Tw.items_lst, Tw.items_tup, Tw.seqK_lst, Tw.seqK_tup, Tw.isN_int, Tw.isN_non, Tw.isN_tup, Tw.notN_int, Tw.notN_non, Tw.notN_tup, Tw.mul_int, Tw.add_int, Tw.sub_int, Tw.fdiv_int, Tw.mod_int, Tw.pow_int, Tw.lt_int, Tw.le_int, Tw.gt_int, Tw.ge_int, Tw.neg_int, Tw.imul_int, Tw.iadd_int, Tw.len_lst, Tw.len_tup, Tw.ix_lst, Tw.ix_tup, Tw.tuple_lst, Tw.tuple_tup, Tw.list_lst, Tw.list_tup, Tw.abs_int, Tw.intC_int, Tw.intC_bl, Tw.all_lst, Tw.any_lst, Tw.isi_2, Tw.tag_non, Tw.tag_bl, Tw.tag_int, Tw.tag_str, Tw.tag_tup, Tw.tag_lst, Tw.tag_obj, Tw.asT_ty, Tw.asT_cl, Tw.frz_int, Tw.frz_bl, Tw.frz_non, Tw.frz_ty, Tw.frz_cl, Tw.frz_scr, Tw.frz_tup, Tw.frz_lst, Tw.frz_obj, Tw.frzs_nil, Tw.frzs_cons, Tw.ok_int, Tw.ok_bl, Tw.ok_non, Tw.ok_tup, Tw.ok_lst, Tw.ok_obj, Tw.doks_nil, Tw.doks_cons, Tw.sl_scr, Tw.sl_lst, Tw.sl_tup, Tw.rev_lst, Tw.rev_tup, Tw.eq_int, Tw.ne_int, Tw.e_kcpB, Tw.e_cpB, Tw.e_compB, Tw.e_fgN, Tw.e_fgC, Tw.e_fgB, Tw.e_fgRt, Tw.e_fgR, Tw.e_for0, Tw.e_for1, Tw.e_cgF, Tw.e_cgT, Tw.e_cgR, Tw.e_neo, Tw.e_cg0, Tw.e_cg1, Tw.e_c2A, Tw.e_c2I, Tw.e_c2T, Tw.e_c2R, Tw.e_c20, Tw.e_c21, Tw.at5_0, Tw.at5_1, Tw.at5_2, Tw.at5_3, Tw.at5_4, Tw.ix5_1, Tw.ix5_2, Tw.ix5_3, Tw.ix5_4, Tw.ints_map, Tw.add_tup, Tw.add_lst, Tw.oks_rows, Tw.frzs_rows, Tw.rows_len, Tw.oks_int, Tw.frzs_int, Tw.oks_tI, Tw.ok_tI, Tw.frz_tI, Tw.e_bok, Tw.e_sbok, List.map_cons, List.map_nil, List.length_cons, List.length_nil, List.cons_append, List.nil_append, List.replicate, List.getElem?_cons_zero, List.getElem?_cons_succ, List.set_cons_zero, List.set_cons_succ, Option.bind_some, Option.map_some, Nat.zero_add, Nat.add_zero, Nat.reduceAdd, Nat.reduceSub, Nat.reduceLT, Nat.reduceLeDiff, Bool.and_true, Bool.true_and, Bool.and_self, Bool.not_true, Bool.not_false, Bool.false_and, Bool.and_false, Bool.or_true, Bool.true_or, Bool.or_false, Bool.false_or, if_true, if_false, Bool.false_eq_true, reduceCtorEq, ite_true, ite_false, decide_true, decide_false, decide_eq_true_eq, ne_eq, Int.reduceEq, not_false_eq_true, not_true_eq_false, List.length_map, Option.map_none, Int.reduceNeg, and_self]
/-! ### the sizes that are drawn -/
def SzP (i : Nat) (ns : List Int) : Prop := ns.length ≤ i ∧ (∀ s ∈ ns, 2 ≤ s ∧ s ≤ 4) ∧ 0 < prodI ns ∧ prodI ns ≤ 300 ∧ (0 < i → 1 ≤ ns.length)
theorem lsizes_ok {d : D} (hd : Hand d) : ∃ ns d', h__law_sizes [d, .int 6, .int 300] = .ret (.tup (ns.map .int)) [d'] ∧ Hand d' ∧ Sz ns ∧ prodI ns ≤ 300 := by
  obtain ⟨r, d1, e1, ⟨b1, b2⟩, hd1⟩ := draw_ok (many := 6) hd (by omega) (by omega)
  have hr : rngOf [1 + r] = some (0, (1 + r).toNat) := rngOf_1 (by omega)
  have s0 : SzP 0 [] := ⟨Nat.le_refl 0, by simp, by decide, by decide, fun z => absurd z (Nat.lt_irrefl 0)⟩
  obtain ⟨env', ⟨d2, ns, y5, y6, hd2, hs, rfl⟩, e⟩ := for_ind (bd := bNm 5) (g := fun i : Nat => D.int (i : Int)) (body := sSeq (sAsg (bNm 6) (fN gAdd [(.val (fK (.int 2))), (.val (fCall [0] h__law_any [(.slot 0), (.val (fLst [(fK (.int 0)), (fK (.int 0)), (fK (.int 1)), (fK (.int 2))]))]))]))
    (sSeq (sIf (bE (fN gLe [(.val (fN gMul [(.val (fVar 4)), (.val (fVar 6))])), (.val (fVar 2))])) (sSeq (sPar 3 4 (fN gAdd [(.val (fVar 3)), (.val (fTup [(fVar 6)]))]) (fN gMul [(.val (fVar 4)), (.val (fVar 6))])) sNil) sNil) sNil))
    (fun i env => ∃ d2 ns y5 y6, Hand d2 ∧ SzP i ns ∧ env = [some d2, some (.int 6), some (.int 300), some (.tup (ns.map .int)), some (.int (prodI ns)), y5, y6]) (List.range (1 + r).toNat) 0 [some d1, some (.int 6), some (.int 300), some (.tup []), some (.int 1), none, none]
    ⟨d1, [], none, none, hd1, s0, rfl⟩ (by
      rintro i x env hi ⟨d2, ns, y5, y6, hd2, ⟨p1, p2, p3, p4, p5⟩, rfl⟩
      rw [Nat.zero_add] at p1 p5 ⊢
      have il : i < 6 := by have := (List.getElem?_eq_some_iff.mp hi).1; rw [List.length_range] at this; omega
      obtain ⟨q, d3, e3, hq, hd3⟩ := any_ok (m := true) (ns := [0, 0, 1, 2]) hd2 (by decide) (by decide)
      have q2 : 0 ≤ q ∧ q ≤ 2 := by
        simp only [List.mem_cons, List.not_mem_nil, or_false] at hq
        omega
      simp only [List.map_cons, List.map_nil] at e3
      have cm : CMul (prodI ns) (2 + q) := cm_lit _ _ (by omega)
      have l1 : lenOk (ns.length + 1) = true := lenOk_of (by omega)
      by_cases c : prodI ns * (2 + q) ≤ 300
      · refine ⟨_, ⟨d3, ns ++ [2 + q], some (.int x), some (.int (2 + q)), hd3, ⟨by rw [List.length_append]; exact Nat.add_le_add_right p1 1, fun s hs => ?_, ?_, by rw [prodI_app]; exact c, fun _ => by rw [List.length_append]; exact Nat.le_add_left 1 _⟩, rfl⟩, fun ds => ?_⟩
        · rcases List.mem_append.mp hs with hs | hs
          · exact p2 s hs
          · rw [List.mem_singleton.mp hs]; omega
        · rw [prodI_app]; exact Int.mul_pos p3 (by omega)
        · have em : (ns ++ [2 + q]).map D.int = ns.map .int ++ [.int (2 + q)] := by simp
          rw [em, prodI_app]
          simp only [e3, cm, c, l1, Tw.e_run, Tw.e_rtR, Tw.e_rtX, Tw.e_rtN, Tw.e_io_nil, Tw.e_io_one, Tw.e_ioR1, Tw.e_seq, Tw.e_seqN, Tw.e_seqR, Tw.e_seqB, Tw.e_seqC, Tw.e_sNil, Tw.e_sBrk, Tw.e_sCont, Tw.e_sRet, Tw.e_sExpr, Tw.e_sIf, Tw.e_sAsg, Tw.e_nxR, Tw.e_bNm, Tw.e_sPar, Tw.e_sFor, Tw.e_sAug, Tw.e_augR, Tw.e_own, Tw.e_ownR, Tw.e_stR2, Tw.e_sStore, Tw.e_stR, Tw.e_stR3, Tw.e_m1R, Tw.e_m1S, Tw.e_m1T, Tw.e_mt1, Tw.e_m0S, Tw.e_mt0, Tw.e_var, Tw.e_varR, Tw.e_move, Tw.e_moveR, Tw.e_K, Tw.e_nil, Tw.e_val, Tw.e_slot, Tw.e_slotR, Tw.e_gnil, Tw.e_gval, Tw.e_gvR, Tw.e_gslot, Tw.e_gsR, Tw.e_gR, Tw.e_gpR, Tw.e_N, Tw.e_vals0, Tw.e_vals1, Tw.e_tup, Tw.e_lst, Tw.e_and, Tw.e_andT, Tw.e_andF, Tw.e_or, Tw.e_orT, Tw.e_orF, Tw.e_not, Tw.e_notR, Tw.e_bE, Tw.e_bR, Tw.e_bAnd, Tw.e_bOr, Tw.e_bNot, Tw.e_bTrue, Tw.e_if, Tw.e_chR2, Tw.e_chRT, Tw.e_chRF, Tw.e_chain, Tw.e_part0, Tw.e_part, Tw.e_partR, Tw.e_sl, Tw.e_rev, Tw.e_kval, Tw.e_kval2, Tw.e_kN, Tw.e_ktup, Tw.e_klst, Tw.e_kand, Tw.e_kor, Tw.e_knot, Tw.e_kbE, Tw.e_kbAnd, Tw.e_kbOr, Tw.e_kbNot, Tw.e_kif, Tw.e_kpart, Tw.e_krev, Tw.e_kcall, Tw.e_ksRet, Tw.e_ksExpr, Tw.e_ksIf, Tw.e_ksAsg, Tw.e_ksFor, Tw.e_ksStore, Tw.e_kstR, Tw.e_km1T, Tw.e_kiSeq, Tw.e_kiRng, Tw.e_kiZip, Tw.e_kmake, Tw.e_kfset, Tw.e_kchRT, Tw.e_kchain2, Tw.e_kchain, Tw.e_ksl, Tw.e_ksl2, Tw.e_ksl3, Tw.e_ksPar, Tw.e_ksPar2, Tw.e_ksAug, Tw.e_ksAug2, Tw.e_kcp3, Tw.e_kcomp, Tw.e_kcomp2, Tw.e_coR, Tw.e_kco2, Tw.e_kco, Tw.e_co, Tw.e_callR, Tw.e_call, Tw.e_io0, Tw.e_io1, Tw.e_io1R, Tw.e_itR, Tw.e_iSeq, Tw.e_rgR, Tw.e_iRng, Tw.e_zpR, Tw.e_iZip, Tw.e_comp, Tw.e_comp2, Tw.e_wipe0, Tw.e_wipe1, Tw.e_bTp, Tw.e_bNil, Tw.e_bCons, Tw.e_mkR, Tw.e_make, Tw.e_fset, Tw.e_fsR, Tw.e_oo, Tw.e_ooR, Tw.e_coR2, Tw.tru_non, Tw.tru_bl, Tw.tru_int, Tw.tru_tup, Tw.tru_lst, Tw.asI_int, Tw.ints_nil, Tw.ints_cons, Tw.items_lst, Tw.items_tup, Tw.seqK_lst, Tw.seqK_tup, Tw.isN_int, Tw.isN_non, Tw.isN_tup, Tw.notN_int, Tw.notN_non, Tw.notN_tup, Tw.mul_int, Tw.add_int, Tw.sub_int, Tw.fdiv_int, Tw.mod_int, Tw.pow_int, Tw.lt_int, Tw.le_int, Tw.gt_int, Tw.ge_int, Tw.neg_int, Tw.imul_int, Tw.iadd_int, Tw.len_lst, Tw.len_tup, Tw.ix_lst, Tw.ix_tup, Tw.tuple_lst, Tw.tuple_tup, Tw.list_lst, Tw.list_tup, Tw.abs_int, Tw.intC_int, Tw.intC_bl, Tw.all_lst, Tw.any_lst, Tw.isi_2, Tw.tag_non, Tw.tag_bl, Tw.tag_int, Tw.tag_str, Tw.tag_tup, Tw.tag_lst, Tw.tag_obj, Tw.asT_ty, Tw.asT_cl, Tw.frz_int, Tw.frz_bl, Tw.frz_non, Tw.frz_ty, Tw.frz_cl, Tw.frz_scr, Tw.frz_tup, Tw.frz_lst, Tw.frz_obj, Tw.frzs_nil, Tw.frzs_cons, Tw.ok_int, Tw.ok_bl, Tw.ok_non, Tw.ok_tup, Tw.ok_lst, Tw.ok_obj, Tw.doks_nil, Tw.doks_cons, Tw.sl_scr, Tw.sl_lst, Tw.sl_tup, Tw.rev_lst, Tw.rev_tup, Tw.eq_int, Tw.ne_int, Tw.e_kcpB, Tw.e_cpB, Tw.e_compB, Tw.e_fgN, Tw.e_fgC, Tw.e_fgB, Tw.e_fgRt, Tw.e_fgR, Tw.e_for0, Tw.e_for1, Tw.e_cgF, Tw.e_cgT, Tw.e_cgR, Tw.e_neo, Tw.e_cg0, Tw.e_cg1, Tw.e_c2A, Tw.e_c2I, Tw.e_c2T, Tw.e_c2R, Tw.e_c20, Tw.e_c21, Tw.at5_0, Tw.at5_1, Tw.at5_2, Tw.at5_3, Tw.at5_4, Tw.ix5_1, Tw.ix5_2, Tw.ix5_3, Tw.ix5_4, Tw.ints_map, Tw.add_tup, Tw.add_lst, Tw.oks_rows, Tw.frzs_rows, Tw.rows_len, Tw.oks_int, Tw.frzs_int, Tw.oks_tI, Tw.ok_tI, Tw.frz_tI, Tw.e_bok, Tw.e_sbok, List.map_cons, List.map_nil, List.length_cons, List.length_nil, List.cons_append, List.nil_append, List.replicate, List.getElem?_cons_zero, List.getElem?_cons_succ, List.set_cons_zero, List.set_cons_succ, Option.bind_some, Option.map_some, Nat.zero_add, Nat.add_zero, Nat.reduceAdd, Nat.reduceSub, Nat.reduceLT, Nat.reduceLeDiff, Bool.and_true, Bool.true_and, Bool.and_self, Bool.not_true, Bool.not_false, Bool.false_and, Bool.and_false, Bool.or_true, Bool.true_or, Bool.or_false, Bool.false_or, if_true, if_false, Bool.false_eq_true, reduceCtorEq, ite_true, ite_false, decide_true, decide_false, decide_eq_true_eq, ne_eq, Int.reduceEq, not_false_eq_true, not_true_eq_false, List.length_map, Option.map_none, Int.reduceNeg, and_self]
      · have i0 : 0 < i := by
          rcases Nat.eq_zero_or_pos i with e0 | e0
          · subst e0
            have : ns = [] := List.length_eq_zero_iff.mp (by omega)
            subst this
            have : prodI [] = 1 := rfl
            rw [this] at c
            omega
          · exact e0
        refine ⟨_, ⟨d3, ns, some (.int x), some (.int (2 + q)), hd3, ⟨by omega, p2, p3, p4, fun _ => p5 i0⟩, rfl⟩, fun ds => ?_⟩
        simp only [e3, cm, c, Tw.e_run, Tw.e_rtR, Tw.e_rtX, Tw.e_rtN, Tw.e_io_nil, Tw.e_io_one, Tw.e_ioR1, Tw.e_seq, Tw.e_seqN, Tw.e_seqR, Tw.e_seqB, Tw.e_seqC, Tw.e_sNil, Tw.e_sBrk, Tw.e_sCont, Tw.e_sRet, Tw.e_sExpr, Tw.e_sIf, Tw.e_sAsg, Tw.e_nxR, Tw.e_bNm, Tw.e_sPar, Tw.e_sFor, Tw.e_sAug, Tw.e_augR, Tw.e_own, Tw.e_ownR, Tw.e_stR2, Tw.e_sStore, Tw.e_stR, Tw.e_stR3, Tw.e_m1R, Tw.e_m1S, Tw.e_m1T, Tw.e_mt1, Tw.e_m0S, Tw.e_mt0, Tw.e_var, Tw.e_varR, Tw.e_move, Tw.e_moveR, Tw.e_K, Tw.e_nil, Tw.e_val, Tw.e_slot, Tw.e_slotR, Tw.e_gnil, Tw.e_gval, Tw.e_gvR, Tw.e_gslot, Tw.e_gsR, Tw.e_gR, Tw.e_gpR, Tw.e_N, Tw.e_vals0, Tw.e_vals1, Tw.e_tup, Tw.e_lst, Tw.e_and, Tw.e_andT, Tw.e_andF, Tw.e_or, Tw.e_orT, Tw.e_orF, Tw.e_not, Tw.e_notR, Tw.e_bE, Tw.e_bR, Tw.e_bAnd, Tw.e_bOr, Tw.e_bNot, Tw.e_bTrue, Tw.e_if, Tw.e_chR2, Tw.e_chRT, Tw.e_chRF, Tw.e_chain, Tw.e_part0, Tw.e_part, Tw.e_partR, Tw.e_sl, Tw.e_rev, Tw.e_kval, Tw.e_kval2, Tw.e_kN, Tw.e_ktup, Tw.e_klst, Tw.e_kand, Tw.e_kor, Tw.e_knot, Tw.e_kbE, Tw.e_kbAnd, Tw.e_kbOr, Tw.e_kbNot, Tw.e_kif, Tw.e_kpart, Tw.e_krev, Tw.e_kcall, Tw.e_ksRet, Tw.e_ksExpr, Tw.e_ksIf, Tw.e_ksAsg, Tw.e_ksFor, Tw.e_ksStore, Tw.e_kstR, Tw.e_km1T, Tw.e_kiSeq, Tw.e_kiRng, Tw.e_kiZip, Tw.e_kmake, Tw.e_kfset, Tw.e_kchRT, Tw.e_kchain2, Tw.e_kchain, Tw.e_ksl, Tw.e_ksl2, Tw.e_ksl3, Tw.e_ksPar, Tw.e_ksPar2, Tw.e_ksAug, Tw.e_ksAug2, Tw.e_kcp3, Tw.e_kcomp, Tw.e_kcomp2, Tw.e_coR, Tw.e_kco2, Tw.e_kco, Tw.e_co, Tw.e_callR, Tw.e_call, Tw.e_io0, Tw.e_io1, Tw.e_io1R, Tw.e_itR, Tw.e_iSeq, Tw.e_rgR, Tw.e_iRng, Tw.e_zpR, Tw.e_iZip, Tw.e_comp, Tw.e_comp2, Tw.e_wipe0, Tw.e_wipe1, Tw.e_bTp, Tw.e_bNil, Tw.e_bCons, Tw.e_mkR, Tw.e_make, Tw.e_fset, Tw.e_fsR, Tw.e_oo, Tw.e_ooR, Tw.e_coR2, Tw.tru_non, Tw.tru_bl, Tw.tru_int, Tw.tru_tup, Tw.tru_lst, Tw.asI_int, Tw.ints_nil, Tw.ints_cons, Tw.items_lst, Tw.items_tup, Tw.seqK_lst, Tw.seqK_tup, Tw.isN_int, Tw.isN_non, Tw.isN_tup, Tw.notN_int, Tw.notN_non, Tw.notN_tup, Tw.mul_int, Tw.add_int, Tw.sub_int, Tw.fdiv_int, Tw.mod_int, Tw.pow_int, Tw.lt_int, Tw.le_int, Tw.gt_int, Tw.ge_int, Tw.neg_int, Tw.imul_int, Tw.iadd_int, Tw.len_lst, Tw.len_tup, Tw.ix_lst, Tw.ix_tup, Tw.tuple_lst, Tw.tuple_tup, Tw.list_lst, Tw.list_tup, Tw.abs_int, Tw.intC_int, Tw.intC_bl, Tw.all_lst, Tw.any_lst, Tw.isi_2, Tw.tag_non, Tw.tag_bl, Tw.tag_int, Tw.tag_str, Tw.tag_tup, Tw.tag_lst, Tw.tag_obj, Tw.asT_ty, Tw.asT_cl, Tw.frz_int, Tw.frz_bl, Tw.frz_non, Tw.frz_ty, Tw.frz_cl, Tw.frz_scr, Tw.frz_tup, Tw.frz_lst, Tw.frz_obj, Tw.frzs_nil, Tw.frzs_cons, Tw.ok_int, Tw.ok_bl, Tw.ok_non, Tw.ok_tup, Tw.ok_lst, Tw.ok_obj, Tw.doks_nil, Tw.doks_cons, Tw.sl_scr, Tw.sl_lst, Tw.sl_tup, Tw.rev_lst, Tw.rev_tup, Tw.eq_int, Tw.ne_int, Tw.e_kcpB, Tw.e_cpB, Tw.e_compB, Tw.e_fgN, Tw.e_fgC, Tw.e_fgB, Tw.e_fgRt, Tw.e_fgR, Tw.e_for0, Tw.e_for1, Tw.e_cgF, Tw.e_cgT, Tw.e_cgR, Tw.e_neo, Tw.e_cg0, Tw.e_cg1, Tw.e_c2A, Tw.e_c2I, Tw.e_c2T, Tw.e_c2R, Tw.e_c20, Tw.e_c21, Tw.at5_0, Tw.at5_1, Tw.at5_2, Tw.at5_3, Tw.at5_4, Tw.ix5_1, Tw.ix5_2, Tw.ix5_3, Tw.ix5_4, Tw.ints_map, Tw.add_tup, Tw.add_lst, Tw.oks_rows, Tw.frzs_rows, Tw.rows_len, Tw.oks_int, Tw.frzs_int, Tw.oks_tI, Tw.ok_tI, Tw.frz_tI, Tw.e_bok, Tw.e_sbok, List.map_cons, List.map_nil, List.length_cons, List.length_nil, List.cons_append, List.nil_append, List.replicate, List.getElem?_cons_zero, List.getElem?_cons_succ, List.set_cons_zero, List.set_cons_succ, Option.bind_some, Option.map_some, Nat.zero_add, Nat.add_zero, Nat.reduceAdd, Nat.reduceSub, Nat.reduceLT, Nat.reduceLeDiff, Bool.and_true, Bool.true_and, Bool.and_self, Bool.not_true, Bool.not_false, Bool.false_and, Bool.and_false, Bool.or_true, Bool.true_or, Bool.or_false, Bool.false_or, if_true, if_false, Bool.false_eq_true, reduceCtorEq, ite_true, ite_false, decide_true, decide_false, decide_eq_true_eq, ne_eq, Int.reduceEq, not_false_eq_true, not_true_eq_false, List.length_map, Option.map_none, Int.reduceNeg, and_self])
  rw [Nat.zero_add, List.length_range] at hs
  obtain ⟨p1, p2, p3, p4, p5⟩ := hs
  refine ⟨ns, d2, ?_, hd2, ⟨p5 (by omega), by omega, p2⟩, p4⟩
  simp only [h__law_sizes, b__law_sizes, e1, hr, rngD_0, e, Tw.e_run, Tw.e_rtR, Tw.e_rtX, Tw.e_rtN, Tw.e_io_nil, Tw.e_io_one, Tw.e_ioR1, Tw.e_seq, Tw.e_seqN, Tw.e_seqR, Tw.e_seqB, Tw.e_seqC, Tw.e_sNil, Tw.e_sBrk, Tw.e_sCont, Tw.e_sRet, Tw.e_sExpr, Tw.e_sIf, Tw.e_sAsg, Tw.e_nxR, Tw.e_bNm, Tw.e_sPar, Tw.e_sFor, Tw.e_sAug, Tw.e_augR, Tw.e_own, Tw.e_ownR, Tw.e_stR2, Tw.e_sStore, Tw.e_stR, Tw.e_stR3, Tw.e_m1R, Tw.e_m1S, Tw.e_m1T, Tw.e_mt1, Tw.e_m0S, Tw.e_mt0, Tw.e_var, Tw.e_varR, Tw.e_move, Tw.e_moveR, Tw.e_K, Tw.e_nil, Tw.e_val, Tw.e_slot, Tw.e_slotR, Tw.e_gnil, Tw.e_gval, Tw.e_gvR, Tw.e_gslot, Tw.e_gsR, Tw.e_gR, Tw.e_gpR, Tw.e_N, Tw.e_vals0, Tw.e_vals1, Tw.e_tup, Tw.e_lst, Tw.e_and, Tw.e_andT, Tw.e_andF, Tw.e_or, Tw.e_orT, Tw.e_orF, Tw.e_not, Tw.e_notR, Tw.e_bE, Tw.e_bR, Tw.e_bAnd, Tw.e_bOr, Tw.e_bNot, Tw.e_bTrue, Tw.e_if, Tw.e_chR2, Tw.e_chRT, Tw.e_chRF, Tw.e_chain, Tw.e_part0, Tw.e_part, Tw.e_partR, Tw.e_sl, Tw.e_rev, Tw.e_kval, Tw.e_kval2, Tw.e_kN, Tw.e_ktup, Tw.e_klst, Tw.e_kand, Tw.e_kor, Tw.e_knot, Tw.e_kbE, Tw.e_kbAnd, Tw.e_kbOr, Tw.e_kbNot, Tw.e_kif, Tw.e_kpart, Tw.e_krev, Tw.e_kcall, Tw.e_ksRet, Tw.e_ksExpr, Tw.e_ksIf, Tw.e_ksAsg, Tw.e_ksFor, Tw.e_ksStore, Tw.e_kstR, Tw.e_km1T, Tw.e_kiSeq, Tw.e_kiRng, Tw.e_kiZip, Tw.e_kmake, Tw.e_kfset, Tw.e_kchRT, Tw.e_kchain2, Tw.e_kchain, Tw.e_ksl, Tw.e_ksl2, Tw.e_ksl3, Tw.e_ksPar, Tw.e_ksPar2, Tw.e_ksAug, Tw.e_ksAug2, Tw.e_kcp3, Tw.e_kcomp, Tw.e_kcomp2, Tw.e_coR, Tw.e_kco2, Tw.e_kco, Tw.e_co, Tw.e_callR, Tw.e_call, Tw.e_io0, Tw.e_io1, Tw.e_io1R, Tw.e_itR, Tw.e_iSeq, Tw.e_rgR, Tw.e_iRng, Tw.e_zpR, Tw.e_iZip, Tw.e_comp, Tw.e_comp2, Tw.e_wipe0, Tw.e_wipe1, Tw.e_bTp, Tw.e_bNil, Tw.e_bCons, Tw.e_mkR, Tw.e_make, Tw.e_fset, Tw.e_fsR, Tw.e_oo, Tw.e_ooR, Tw.e_coR2, Tw.tru_non, Tw.tru_bl, Tw.tru_int, Tw.tru_tup, Tw.tru_lst, Tw.asI_int, Tw.ints_nil, Tw.ints_cons, Tw.items_lst, Tw.items_tup, Tw.seqK_lst, Tw.seqK_tup, Tw.isN_int, Tw.isN_non, Tw.isN_tup, Tw.notN_int, Tw.notN_non, Tw.notN_tup, Tw.mul_int, Tw.add_int, Tw.sub_int, Tw.fdiv_int, Tw.mod_int, Tw.pow_int, Tw.lt_int, Tw.le_int, Tw.gt_int, Tw.ge_int, Tw.neg_int, Tw.imul_int, Tw.iadd_int, Tw.len_lst, Tw.len_tup, Tw.ix_lst, Tw.ix_tup, Tw.tuple_lst, Tw.tuple_tup, Tw.list_lst, Tw.list_tup, Tw.abs_int, Tw.intC_int, Tw.intC_bl, Tw.all_lst, Tw.any_lst, Tw.isi_2, Tw.tag_non, Tw.tag_bl, Tw.tag_int, Tw.tag_str, Tw.tag_tup, Tw.tag_lst, Tw.tag_obj, Tw.asT_ty, Tw.asT_cl, Tw.frz_int, Tw.frz_bl, Tw.frz_non, Tw.frz_ty, Tw.frz_cl, Tw.frz_scr, Tw.frz_tup, Tw.frz_lst, Tw.frz_obj, Tw.frzs_nil, Tw.frzs_cons, Tw.ok_int, Tw.ok_bl, Tw.ok_non, Tw.ok_tup, Tw.ok_lst, Tw.ok_obj, Tw.doks_nil, Tw.doks_cons, Tw.sl_scr, Tw.sl_lst, Tw.sl_tup, Tw.rev_lst, Tw.rev_tup, Tw.eq_int, Tw.ne_int, Tw.e_kcpB, Tw.e_cpB, Tw.e_compB, Tw.e_fgN, Tw.e_fgC, Tw.e_fgB, Tw.e_fgRt, Tw.e_fgR, Tw.e_for0, Tw.e_for1, Tw.e_cgF, Tw.e_cgT, Tw.e_cgR, Tw.e_neo, Tw.e_cg0, Tw.e_cg1, Tw.e_c2A, Tw.e_c2I, Tw.e_c2T, Tw.e_c2R, Tw.e_c20, Tw.e_c21, Tw.at5_0, Tw.at5_1, Tw.at5_2, Tw.at5_3, Tw.at5_4, Tw.ix5_1, Tw.ix5_2, Tw.ix5_3, Tw.ix5_4, Tw.ints_map, Tw.add_tup, Tw.add_lst, Tw.oks_rows, Tw.frzs_rows, Tw.rows_len, Tw.oks_int, Tw.frzs_int, Tw.oks_tI, Tw.ok_tI, Tw.frz_tI, Tw.e_bok, Tw.e_sbok, List.map_cons, List.map_nil, List.length_cons, List.length_nil, List.cons_append, List.nil_append, List.replicate, List.getElem?_cons_zero, List.getElem?_cons_succ, List.set_cons_zero, List.set_cons_succ, Option.bind_some, Option.map_some, Nat.zero_add, Nat.add_zero, Nat.reduceAdd, Nat.reduceSub, Nat.reduceLT, Nat.reduceLeDiff, Bool.and_true, Bool.true_and, Bool.and_self, Bool.not_true, Bool.not_false, Bool.false_and, Bool.and_false, Bool.or_true, Bool.true_or, Bool.or_false, Bool.false_or, if_true, if_false, Bool.false_eq_true, reduceCtorEq, ite_true, ite_false, decide_true, decide_false, decide_eq_true_eq, ne_eq, Int.reduceEq, not_false_eq_true, not_true_eq_false, List.length_map, Option.map_none, Int.reduceNeg, and_self]
end K01
namespace K01
open PySem PySem.Spec PyProof.Rows L2 Tw
theorem fold_pos : ∀ (r : List Int) (acc : List (List Int)), (∀ s ∈ r, 0 < s) → 0 < acc.length → 0 < (r.foldl grow acc).length
  | [], acc, _, h => h
  | s :: r, acc, h, ha => by
    refine fold_pos r (grow acc s) (fun x hx => h x (List.mem_cons_of_mem _ hx)) ?_
    rw [grow_len]
    have := h s List.mem_cons_self
    exact Nat.mul_pos ha (by omega)
theorem at_pos {sizes lot : List Int} (h : Sz sizes) (hl : ∀ p ∈ lot, 0 ≤ p ∧ p < sizes.length) : ∀ s ∈ atLot sizes lot, 0 < s := fun s hs => by
  obtain ⟨p, hp, rfl⟩ := List.mem_map.mp hs
  have := hl p hp
  have h2 : p.toNat < sizes.length := by omega
  rw [List.getD_eq_getElem?_getD, List.getElem?_eq_getElem h2]
  exact h.pos _ (List.getElem_mem h2)
theorem pop_rows {ls : List (List Int)} (h : 0 < ls.length) : ∃ d, gPop (rows ls) = some (d, (rows ls).dropLast) := by
  unfold gPop
  rw [oks_rows, if_pos rfl, List.getElem?_eq_getElem (by rw [rows_len]; omega)]
  exact ⟨_, rfl⟩
theorem lot_loop {A hd y2 y5 y6 y7 y8 y9 : Option D} {sizes : List Int} (h : Sz sizes) (ls : List (List Int)) (hu : ∀ l ∈ ls, Up (-1) l sizes.length) (y4 y10 y11 : Option D) :
    ∃ z4 z10 z11, forGo (bNm 4) (sSeq (sAsg (bNm 10) (fCall [] h__law_joints [(.val (fVar 3)), (.val (fVar 4))])) (sSeq (sAsg (bNm 11) (fCall [] h_joints [(.val (fVar 3)), (.val (fVar 4))])) (sSeq (sIf (bOr (bNot (bE (fN (gIsi isa) [(.slot 11), (.val (fK (.ty "list")))]))) (bOr (bE (fN gNe [(.slot 11), (.val (fVar 10))])) (bNot (bE (fN gAll [(.val (fCompB [12] 11 (bNm 12) bTrue (fN (gIsi isa) [(.val (fVar 12)), (.val (fK (.ty "tuple")))])))]))))) (sSeq (sRet (fK (.bl false))) sNil) sNil) (sSeq (sExpr (fMt0 11 gPop)) (sSeq (sIf (bE (fN gNe [(.val (fCall [] h_joints [(.val (fVar 3)), (.val (fVar 4))])), (.val (fVar 10))])) (sSeq (sRet (fK (.bl false))) sNil) sNil) sNil))))) (rows ls) [A, hd, y2, some (.tup (sizes.map .int)), y4, y5, y6, y7, y8, y9, y10, y11, none] = .next [A, hd, y2, some (.tup (sizes.map .int)), z4, y5, y6, y7, y8, y9, z10, z11, none] := by
  obtain ⟨env', ⟨z4, z10, z11, rfl⟩, e⟩ := for_keep (bd := bNm 4) (body := (sSeq (sAsg (bNm 10) (fCall [] h__law_joints [(.val (fVar 3)), (.val (fVar 4))])) (sSeq (sAsg (bNm 11) (fCall [] h_joints [(.val (fVar 3)), (.val (fVar 4))])) (sSeq (sIf (bOr (bNot (bE (fN (gIsi isa) [(.slot 11), (.val (fK (.ty "list")))]))) (bOr (bE (fN gNe [(.slot 11), (.val (fVar 10))])) (bNot (bE (fN gAll [(.val (fCompB [12] 11 (bNm 12) bTrue (fN (gIsi isa) [(.val (fVar 12)), (.val (fK (.ty "tuple")))])))]))))) (sSeq (sRet (fK (.bl false))) sNil) sNil) (sSeq (sExpr (fMt0 11 gPop)) (sSeq (sIf (bE (fN gNe [(.val (fCall [] h_joints [(.val (fVar 3)), (.val (fVar 4))])), (.val (fVar 10))])) (sSeq (sRet (fK (.bl false))) sNil) sNil) sNil)))))) (g := fun ns : List Int => D.tup (ns.map .int)) (fun env => ∃ y4 y10 y11, env = [A, hd, y2, some (.tup (sizes.map .int)), y4, y5, y6, y7, y8, y9, y10, y11, none]) ls _ ⟨y4, y10, y11, rfl⟩ (by
    rintro lot hlot env ⟨y4, y10, y11, rfl⟩
    have up := hu lot hlot
    have b : ∀ p ∈ lot, 0 ≤ p ∧ p < sizes.length := fun p hp => by have := up_in up p hp; omega
    have l6 : lot.length ≤ 6 := by have := up_len up (by omega); have := h.2.1; omega
    obtain ⟨m, e1⟩ := ljoints_ok h.b b l6
    have e2 := joints_ok h up
    have pos : 0 < (allOf (atLot sizes lot)).length := fold_pos _ _ (at_pos h b) (by decide)
    have len : (allOf (atLot sizes lot)).length ≤ 4096 := allOf_len (fun s hs => (at_b h.b b s hs).2) (by unfold atLot; rw [List.length_map]; exact l6)
    have l1 : lenOk (allOf (atLot sizes lot)).length = true := lenOk_of (by omega)
    obtain ⟨dd, e3⟩ := pop_rows pos
    have key := comp_map1 (vs := [12]) (b := bNm 12) (t := bTrue) (f := fN (gIsi isa) [(.val (fVar 12)), (.val (fK (.ty "tuple")))]) (g := fun ns : List Int => D.tup (ns.map .int)) (env := [A, hd, y2, some (.tup (sizes.map .int)), some (.tup (lot.map .int)), y5, y6, y7, y8, y9, some (.lst false (rows (allOf (atLot sizes lot)))), none, none]) (fun _ => D.bl true) (allOf (atLot sizes lot)) fun r hr ds acc => by
      simp only [isa_20, Tw.e_run, Tw.e_rtR, Tw.e_rtX, Tw.e_rtN, Tw.e_io_nil, Tw.e_io_one, Tw.e_ioR1, Tw.e_seq, Tw.e_seqN, Tw.e_seqR, Tw.e_seqB, Tw.e_seqC, Tw.e_sNil, Tw.e_sBrk, Tw.e_sCont, Tw.e_sRet, Tw.e_sExpr, Tw.e_sIf, Tw.e_sAsg, Tw.e_nxR, Tw.e_bNm, Tw.e_sPar, Tw.e_sFor, Tw.e_sAug, Tw.e_augR, Tw.e_own, Tw.e_ownR, Tw.e_stR2, Tw.e_sStore, Tw.e_stR, Tw.e_stR3, Tw.e_m1R, Tw.e_m1S, Tw.e_m1T, Tw.e_mt1, Tw.e_m0S, Tw.e_mt0, Tw.e_var, Tw.e_varR, Tw.e_move, Tw.e_moveR, Tw.e_K, Tw.e_nil, Tw.e_val, Tw.e_slot, Tw.e_slotR, Tw.e_gnil, Tw.e_gval, Tw.e_gvR, Tw.e_gslot, Tw.e_gsR, Tw.e_gR, Tw.e_gpR, Tw.e_N, Tw.e_vals0, Tw.e_vals1, Tw.e_tup, Tw.e_lst, Tw.e_and, Tw.e_andT, Tw.e_andF, Tw.e_or, Tw.e_orT, Tw.e_orF, Tw.e_not, Tw.e_notR, Tw.e_bE, Tw.e_bR, Tw.e_bAnd, Tw.e_bOr, Tw.e_bNot, Tw.e_bTrue, Tw.e_if, Tw.e_chR2, Tw.e_chRT, Tw.e_chRF, Tw.e_chain, Tw.e_part0, Tw.e_part, Tw.e_partR, Tw.e_sl, Tw.e_rev, Tw.e_kval, Tw.e_kval2, Tw.e_kN, Tw.e_ktup, Tw.e_klst, Tw.e_kand, Tw.e_kor, Tw.e_knot, Tw.e_kbE, Tw.e_kbAnd, Tw.e_kbOr, Tw.e_kbNot, Tw.e_kif, Tw.e_kpart, Tw.e_krev, Tw.e_kcall, Tw.e_ksRet, Tw.e_ksExpr, Tw.e_ksIf, Tw.e_ksAsg, Tw.e_ksFor, Tw.e_ksStore, Tw.e_kstR, Tw.e_km1T, Tw.e_kiSeq, Tw.e_kiRng, Tw.e_kiZip, Tw.e_kmake, Tw.e_kfset, Tw.e_kchRT, Tw.e_kchain2, Tw.e_kchain, Tw.e_ksl, Tw.e_ksl2, Tw.e_ksl3, Tw.e_ksPar, Tw.e_ksPar2, Tw.e_ksAug, Tw.e_ksAug2, Tw.e_kcp3, Tw.e_kcomp, Tw.e_kcomp2, Tw.e_coR, Tw.e_kco2, Tw.e_kco, Tw.e_co, Tw.e_callR, Tw.e_call, Tw.e_io0, Tw.e_io1, Tw.e_io1R, Tw.e_itR, Tw.e_iSeq, Tw.e_rgR, Tw.e_iRng, Tw.e_zpR, Tw.e_iZip, Tw.e_comp, Tw.e_comp2, Tw.e_wipe0, Tw.e_wipe1, Tw.e_bTp, Tw.e_bNil, Tw.e_bCons, Tw.e_mkR, Tw.e_make, Tw.e_fset, Tw.e_fsR, Tw.e_oo, Tw.e_ooR, Tw.e_coR2, Tw.tru_non, Tw.tru_bl, Tw.tru_int, Tw.tru_tup, Tw.tru_lst, Tw.asI_int, Tw.ints_nil, Tw.ints_cons, Tw.items_lst, Tw.items_tup, Tw.seqK_lst, Tw.seqK_tup, Tw.isN_int, Tw.isN_non, Tw.isN_tup, Tw.notN_int, Tw.notN_non, Tw.notN_tup, Tw.mul_int, Tw.add_int, Tw.sub_int, Tw.fdiv_int, Tw.mod_int, Tw.pow_int, Tw.lt_int, Tw.le_int, Tw.gt_int, Tw.ge_int, Tw.neg_int, Tw.imul_int, Tw.iadd_int, Tw.len_lst, Tw.len_tup, Tw.ix_lst, Tw.ix_tup, Tw.tuple_lst, Tw.tuple_tup, Tw.list_lst, Tw.list_tup, Tw.abs_int, Tw.intC_int, Tw.intC_bl, Tw.all_lst, Tw.any_lst, Tw.isi_2, Tw.tag_non, Tw.tag_bl, Tw.tag_int, Tw.tag_str, Tw.tag_tup, Tw.tag_lst, Tw.tag_obj, Tw.asT_ty, Tw.asT_cl, Tw.frz_int, Tw.frz_bl, Tw.frz_non, Tw.frz_ty, Tw.frz_cl, Tw.frz_scr, Tw.frz_tup, Tw.frz_lst, Tw.frz_obj, Tw.frzs_nil, Tw.frzs_cons, Tw.ok_int, Tw.ok_bl, Tw.ok_non, Tw.ok_tup, Tw.ok_lst, Tw.ok_obj, Tw.doks_nil, Tw.doks_cons, Tw.sl_scr, Tw.sl_lst, Tw.sl_tup, Tw.rev_lst, Tw.rev_tup, Tw.eq_int, Tw.ne_int, Tw.e_kcpB, Tw.e_cpB, Tw.e_compB, Tw.e_fgN, Tw.e_fgC, Tw.e_fgB, Tw.e_fgRt, Tw.e_fgR, Tw.e_for0, Tw.e_for1, Tw.e_cgF, Tw.e_cgT, Tw.e_cgR, Tw.e_neo, Tw.e_cg0, Tw.e_cg1, Tw.e_c2A, Tw.e_c2I, Tw.e_c2T, Tw.e_c2R, Tw.e_c20, Tw.e_c21, Tw.at5_0, Tw.at5_1, Tw.at5_2, Tw.at5_3, Tw.at5_4, Tw.ix5_1, Tw.ix5_2, Tw.ix5_3, Tw.ix5_4, Tw.ints_map, Tw.add_tup, Tw.add_lst, Tw.oks_rows, Tw.frzs_rows, Tw.rows_len, Tw.oks_int, Tw.frzs_int, Tw.oks_tI, Tw.ok_tI, Tw.frz_tI, Tw.e_bok, Tw.e_sbok, List.map_cons, List.map_nil, List.length_cons, List.length_nil, List.cons_append, List.nil_append, List.replicate, List.getElem?_cons_zero, List.getElem?_cons_succ, List.set_cons_zero, List.set_cons_succ, Option.bind_some, Option.map_some, Nat.zero_add, Nat.add_zero, Nat.reduceAdd, Nat.reduceSub, Nat.reduceLT, Nat.reduceLeDiff, Bool.and_true, Bool.true_and, Bool.and_self, Bool.not_true, Bool.not_false, Bool.false_and, Bool.and_false, Bool.or_true, Bool.true_or, Bool.or_false, Bool.false_or, if_true, if_false, Bool.false_eq_true, reduceCtorEq, ite_true, ite_false, decide_true, decide_false, decide_eq_true_eq, ne_eq, Int.reduceEq, not_false_eq_true, not_true_eq_false, List.length_map, Option.map_none, Int.reduceNeg, and_self]
    have key' : compGo [12] (bNm 12) bTrue (fN (gIsi isa) [(.val (fVar 12)), (.val (fK (.ty "tuple")))]) (rows (allOf (atLot sizes lot))) [] [A, hd, y2, some (.tup (sizes.map .int)), some (.tup (lot.map .int)), y5, y6, y7, y8, y9, some (.lst false (rows (allOf (atLot sizes lot)))), none, none] = _ := key
    have e4 : ((allOf (atLot sizes lot)).map fun _ => true).all id = true := by simp
    refine ⟨_, ⟨some (.tup (lot.map .int)), some (.lst false (rows (allOf (atLot sizes lot)))), some (.lst true (rows (allOf (atLot sizes lot))).dropLast), rfl⟩, fun ds => ?_⟩
    simp only [e1, e2, isa_29, ne_rows, l1, key', bools_mapP, e4, e3, Tw.e_run, Tw.e_rtR, Tw.e_rtX, Tw.e_rtN, Tw.e_io_nil, Tw.e_io_one, Tw.e_ioR1, Tw.e_seq, Tw.e_seqN, Tw.e_seqR, Tw.e_seqB, Tw.e_seqC, Tw.e_sNil, Tw.e_sBrk, Tw.e_sCont, Tw.e_sRet, Tw.e_sExpr, Tw.e_sIf, Tw.e_sAsg, Tw.e_nxR, Tw.e_bNm, Tw.e_sPar, Tw.e_sFor, Tw.e_sAug, Tw.e_augR, Tw.e_own, Tw.e_ownR, Tw.e_stR2, Tw.e_sStore, Tw.e_stR, Tw.e_stR3, Tw.e_m1R, Tw.e_m1S, Tw.e_m1T, Tw.e_mt1, Tw.e_m0S, Tw.e_mt0, Tw.e_var, Tw.e_varR, Tw.e_move, Tw.e_moveR, Tw.e_K, Tw.e_nil, Tw.e_val, Tw.e_slot, Tw.e_slotR, Tw.e_gnil, Tw.e_gval, Tw.e_gvR, Tw.e_gslot, Tw.e_gsR, Tw.e_gR, Tw.e_gpR, Tw.e_N, Tw.e_vals0, Tw.e_vals1, Tw.e_tup, Tw.e_lst, Tw.e_and, Tw.e_andT, Tw.e_andF, Tw.e_or, Tw.e_orT, Tw.e_orF, Tw.e_not, Tw.e_notR, Tw.e_bE, Tw.e_bR, Tw.e_bAnd, Tw.e_bOr, Tw.e_bNot, Tw.e_bTrue, Tw.e_if, Tw.e_chR2, Tw.e_chRT, Tw.e_chRF, Tw.e_chain, Tw.e_part0, Tw.e_part, Tw.e_partR, Tw.e_sl, Tw.e_rev, Tw.e_kval, Tw.e_kval2, Tw.e_kN, Tw.e_ktup, Tw.e_klst, Tw.e_kand, Tw.e_kor, Tw.e_knot, Tw.e_kbE, Tw.e_kbAnd, Tw.e_kbOr, Tw.e_kbNot, Tw.e_kif, Tw.e_kpart, Tw.e_krev, Tw.e_kcall, Tw.e_ksRet, Tw.e_ksExpr, Tw.e_ksIf, Tw.e_ksAsg, Tw.e_ksFor, Tw.e_ksStore, Tw.e_kstR, Tw.e_km1T, Tw.e_kiSeq, Tw.e_kiRng, Tw.e_kiZip, Tw.e_kmake, Tw.e_kfset, Tw.e_kchRT, Tw.e_kchain2, Tw.e_kchain, Tw.e_ksl, Tw.e_ksl2, Tw.e_ksl3, Tw.e_ksPar, Tw.e_ksPar2, Tw.e_ksAug, Tw.e_ksAug2, Tw.e_kcp3, Tw.e_kcomp, Tw.e_kcomp2, Tw.e_coR, Tw.e_kco2, Tw.e_kco, Tw.e_co, Tw.e_callR, Tw.e_call, Tw.e_io0, Tw.e_io1, Tw.e_io1R, Tw.e_itR, Tw.e_iSeq, Tw.e_rgR, Tw.e_iRng, Tw.e_zpR, Tw.e_iZip, Tw.e_comp, Tw.e_comp2, Tw.e_wipe0, Tw.e_wipe1, Tw.e_bTp, Tw.e_bNil, Tw.e_bCons, Tw.e_mkR, Tw.e_make, Tw.e_fset, Tw.e_fsR, Tw.e_oo, Tw.e_ooR, Tw.e_coR2, Tw.tru_non, Tw.tru_bl, Tw.tru_int, Tw.tru_tup, Tw.tru_lst, Tw.asI_int, Tw.ints_nil, Tw.ints_cons, Tw.items_lst, Tw.items_tup, Tw.seqK_lst, Tw.seqK_tup, Tw.isN_int, Tw.isN_non, Tw.isN_tup, Tw.notN_int, Tw.notN_non, Tw.notN_tup, Tw.mul_int, Tw.add_int, Tw.sub_int, Tw.fdiv_int, Tw.mod_int, Tw.pow_int, Tw.lt_int, Tw.le_int, Tw.gt_int, Tw.ge_int, Tw.neg_int, Tw.imul_int, Tw.iadd_int, Tw.len_lst, Tw.len_tup, Tw.ix_lst, Tw.ix_tup, Tw.tuple_lst, Tw.tuple_tup, Tw.list_lst, Tw.list_tup, Tw.abs_int, Tw.intC_int, Tw.intC_bl, Tw.all_lst, Tw.any_lst, Tw.isi_2, Tw.tag_non, Tw.tag_bl, Tw.tag_int, Tw.tag_str, Tw.tag_tup, Tw.tag_lst, Tw.tag_obj, Tw.asT_ty, Tw.asT_cl, Tw.frz_int, Tw.frz_bl, Tw.frz_non, Tw.frz_ty, Tw.frz_cl, Tw.frz_scr, Tw.frz_tup, Tw.frz_lst, Tw.frz_obj, Tw.frzs_nil, Tw.frzs_cons, Tw.ok_int, Tw.ok_bl, Tw.ok_non, Tw.ok_tup, Tw.ok_lst, Tw.ok_obj, Tw.doks_nil, Tw.doks_cons, Tw.sl_scr, Tw.sl_lst, Tw.sl_tup, Tw.rev_lst, Tw.rev_tup, Tw.eq_int, Tw.ne_int, Tw.e_kcpB, Tw.e_cpB, Tw.e_compB, Tw.e_fgN, Tw.e_fgC, Tw.e_fgB, Tw.e_fgRt, Tw.e_fgR, Tw.e_for0, Tw.e_for1, Tw.e_cgF, Tw.e_cgT, Tw.e_cgR, Tw.e_neo, Tw.e_cg0, Tw.e_cg1, Tw.e_c2A, Tw.e_c2I, Tw.e_c2T, Tw.e_c2R, Tw.e_c20, Tw.e_c21, Tw.at5_0, Tw.at5_1, Tw.at5_2, Tw.at5_3, Tw.at5_4, Tw.ix5_1, Tw.ix5_2, Tw.ix5_3, Tw.ix5_4, Tw.ints_map, Tw.add_tup, Tw.add_lst, Tw.oks_rows, Tw.frzs_rows, Tw.rows_len, Tw.oks_int, Tw.frzs_int, Tw.oks_tI, Tw.ok_tI, Tw.frz_tI, Tw.e_bok, Tw.e_sbok, List.map_cons, List.map_nil, List.length_cons, List.length_nil, List.cons_append, List.nil_append, List.replicate, List.getElem?_cons_zero, List.getElem?_cons_succ, List.set_cons_zero, List.set_cons_succ, Option.bind_some, Option.map_some, Nat.zero_add, Nat.add_zero, Nat.reduceAdd, Nat.reduceSub, Nat.reduceLT, Nat.reduceLeDiff, Bool.and_true, Bool.true_and, Bool.and_self, Bool.not_true, Bool.not_false, Bool.false_and, Bool.and_false, Bool.or_true, Bool.true_or, Bool.or_false, Bool.false_or, if_true, if_false, Bool.false_eq_true, reduceCtorEq, ite_true, ite_false, decide_true, decide_false, decide_eq_true_eq, ne_eq, Int.reduceEq, not_false_eq_true, not_true_eq_false, List.length_map, Option.map_none, Int.reduceNeg, and_self])
  exact ⟨z4, z10, z11, e⟩
theorem at_row {sizes : List Int} {P n : Nat} (e2 : (List.range P).map (fun n : Nat => counted sizes n) = allOf sizes) (hn : n < P) : atI (rows (allOf sizes)) (n : Int) = some (.tup ((counted sizes n).map .int)) := by
  have hl : (rows (allOf sizes)).length = P := by rw [rows_len, ← e2, List.length_map, List.length_range]
  unfold atI ixN
  rw [hl, if_pos (by omega), if_pos (by omega), Option.bind_some, Int.toNat_natCast]
  unfold rows
  rw [← e2, List.map_map, List.getElem?_map, List.getElem?_range hn]
  rfl
theorem ans_loop {A hd y2 y4 y6 y10 y11 : Option D} {sizes an : List Int} {P : Nat} (h : Sz sizes) (e1 : prodI sizes = P) (e2 : (List.range P).map (fun n : Nat => counted sizes n) = allOf sizes) (hl : an.length = P) (y9 : Option D) :
    ∃ z9, forGo (bNm 9) (sSeq (sIf (bE (fN gNe [(.val (fCall [] h_answer [(.val (fVar 8)), (.val (fN gIx [(.val (fVar 5)), (.val (fVar 9))]))])), (.val (fN gIx [(.val (fVar 7)), (.val (fVar 9))]))])) (sSeq (sRet (fK (.bl false))) sNil) sNil) sNil) ((List.range P).map fun i : Nat => .int (i : Int)) [A, hd, y2, some (.tup (sizes.map .int)), y4, some (.lst false (rows (allOf sizes))), y6, some (.tup (an.map .int)), some (qst false sizes an), y9, y10, y11, none] = .next [A, hd, y2, some (.tup (sizes.map .int)), y4, some (.lst false (rows (allOf sizes))), y6, some (.tup (an.map .int)), some (qst false sizes an), z9, y10, y11, none] := by
  obtain ⟨env', ⟨z9, rfl⟩, e⟩ := for_keep (bd := bNm 9) (body := (sSeq (sIf (bE (fN gNe [(.val (fCall [] h_answer [(.val (fVar 8)), (.val (fN gIx [(.val (fVar 5)), (.val (fVar 9))]))])), (.val (fN gIx [(.val (fVar 7)), (.val (fVar 9))]))])) (sSeq (sRet (fK (.bl false))) sNil) sNil) sNil)) (g := fun i : Nat => D.int (i : Int)) (fun env => ∃ y9, env = [A, hd, y2, some (.tup (sizes.map .int)), y4, some (.lst false (rows (allOf sizes))), y6, some (.tup (an.map .int)), some (qst false sizes an), y9, y10, y11, none]) (List.range P) _ ⟨y9, rfl⟩ (by
    rintro n hn env ⟨y9, rfl⟩
    have hn := List.mem_range.mp hn
    have a1 := at_row e2 hn
    have a2 := answer_ok (m := false) (an := an) h e1 hn hl
    have a3 := atI_map (ns := an) (i := (n : Int)) (by omega) (by omega)
    rw [Int.toNat_natCast] at a3
    refine ⟨_, ⟨some (.int n), rfl⟩, fun ds => ?_⟩
    simp only [frz_qst, a1, a2, a3, Tw.e_run, Tw.e_rtR, Tw.e_rtX, Tw.e_rtN, Tw.e_io_nil, Tw.e_io_one, Tw.e_ioR1, Tw.e_seq, Tw.e_seqN, Tw.e_seqR, Tw.e_seqB, Tw.e_seqC, Tw.e_sNil, Tw.e_sBrk, Tw.e_sCont, Tw.e_sRet, Tw.e_sExpr, Tw.e_sIf, Tw.e_sAsg, Tw.e_nxR, Tw.e_bNm, Tw.e_sPar, Tw.e_sFor, Tw.e_sAug, Tw.e_augR, Tw.e_own, Tw.e_ownR, Tw.e_stR2, Tw.e_sStore, Tw.e_stR, Tw.e_stR3, Tw.e_m1R, Tw.e_m1S, Tw.e_m1T, Tw.e_mt1, Tw.e_m0S, Tw.e_mt0, Tw.e_var, Tw.e_varR, Tw.e_move, Tw.e_moveR, Tw.e_K, Tw.e_nil, Tw.e_val, Tw.e_slot, Tw.e_slotR, Tw.e_gnil, Tw.e_gval, Tw.e_gvR, Tw.e_gslot, Tw.e_gsR, Tw.e_gR, Tw.e_gpR, Tw.e_N, Tw.e_vals0, Tw.e_vals1, Tw.e_tup, Tw.e_lst, Tw.e_and, Tw.e_andT, Tw.e_andF, Tw.e_or, Tw.e_orT, Tw.e_orF, Tw.e_not, Tw.e_notR, Tw.e_bE, Tw.e_bR, Tw.e_bAnd, Tw.e_bOr, Tw.e_bNot, Tw.e_bTrue, Tw.e_if, Tw.e_chR2, Tw.e_chRT, Tw.e_chRF, Tw.e_chain, Tw.e_part0, Tw.e_part, Tw.e_partR, Tw.e_sl, Tw.e_rev, Tw.e_kval, Tw.e_kval2, Tw.e_kN, Tw.e_ktup, Tw.e_klst, Tw.e_kand, Tw.e_kor, Tw.e_knot, Tw.e_kbE, Tw.e_kbAnd, Tw.e_kbOr, Tw.e_kbNot, Tw.e_kif, Tw.e_kpart, Tw.e_krev, Tw.e_kcall, Tw.e_ksRet, Tw.e_ksExpr, Tw.e_ksIf, Tw.e_ksAsg, Tw.e_ksFor, Tw.e_ksStore, Tw.e_kstR, Tw.e_km1T, Tw.e_kiSeq, Tw.e_kiRng, Tw.e_kiZip, Tw.e_kmake, Tw.e_kfset, Tw.e_kchRT, Tw.e_kchain2, Tw.e_kchain, Tw.e_ksl, Tw.e_ksl2, Tw.e_ksl3, Tw.e_ksPar, Tw.e_ksPar2, Tw.e_ksAug, Tw.e_ksAug2, Tw.e_kcp3, Tw.e_kcomp, Tw.e_kcomp2, Tw.e_coR, Tw.e_kco2, Tw.e_kco, Tw.e_co, Tw.e_callR, Tw.e_call, Tw.e_io0, Tw.e_io1, Tw.e_io1R, Tw.e_itR, Tw.e_iSeq, Tw.e_rgR, Tw.e_iRng, Tw.e_zpR, Tw.e_iZip, Tw.e_comp, Tw.e_comp2, Tw.e_wipe0, Tw.e_wipe1, Tw.e_bTp, Tw.e_bNil, Tw.e_bCons, Tw.e_mkR, Tw.e_make, Tw.e_fset, Tw.e_fsR, Tw.e_oo, Tw.e_ooR, Tw.e_coR2, Tw.tru_non, Tw.tru_bl, Tw.tru_int, Tw.tru_tup, Tw.tru_lst, Tw.asI_int, Tw.ints_nil, Tw.ints_cons, Tw.items_lst, Tw.items_tup, Tw.seqK_lst, Tw.seqK_tup, Tw.isN_int, Tw.isN_non, Tw.isN_tup, Tw.notN_int, Tw.notN_non, Tw.notN_tup, Tw.mul_int, Tw.add_int, Tw.sub_int, Tw.fdiv_int, Tw.mod_int, Tw.pow_int, Tw.lt_int, Tw.le_int, Tw.gt_int, Tw.ge_int, Tw.neg_int, Tw.imul_int, Tw.iadd_int, Tw.len_lst, Tw.len_tup, Tw.ix_lst, Tw.ix_tup, Tw.tuple_lst, Tw.tuple_tup, Tw.list_lst, Tw.list_tup, Tw.abs_int, Tw.intC_int, Tw.intC_bl, Tw.all_lst, Tw.any_lst, Tw.isi_2, Tw.tag_non, Tw.tag_bl, Tw.tag_int, Tw.tag_str, Tw.tag_tup, Tw.tag_lst, Tw.tag_obj, Tw.asT_ty, Tw.asT_cl, Tw.frz_int, Tw.frz_bl, Tw.frz_non, Tw.frz_ty, Tw.frz_cl, Tw.frz_scr, Tw.frz_tup, Tw.frz_lst, Tw.frz_obj, Tw.frzs_nil, Tw.frzs_cons, Tw.ok_int, Tw.ok_bl, Tw.ok_non, Tw.ok_tup, Tw.ok_lst, Tw.ok_obj, Tw.doks_nil, Tw.doks_cons, Tw.sl_scr, Tw.sl_lst, Tw.sl_tup, Tw.rev_lst, Tw.rev_tup, Tw.eq_int, Tw.ne_int, Tw.e_kcpB, Tw.e_cpB, Tw.e_compB, Tw.e_fgN, Tw.e_fgC, Tw.e_fgB, Tw.e_fgRt, Tw.e_fgR, Tw.e_for0, Tw.e_for1, Tw.e_cgF, Tw.e_cgT, Tw.e_cgR, Tw.e_neo, Tw.e_cg0, Tw.e_cg1, Tw.e_c2A, Tw.e_c2I, Tw.e_c2T, Tw.e_c2R, Tw.e_c20, Tw.e_c21, Tw.at5_0, Tw.at5_1, Tw.at5_2, Tw.at5_3, Tw.at5_4, Tw.ix5_1, Tw.ix5_2, Tw.ix5_3, Tw.ix5_4, Tw.ints_map, Tw.add_tup, Tw.add_lst, Tw.oks_rows, Tw.frzs_rows, Tw.rows_len, Tw.oks_int, Tw.frzs_int, Tw.oks_tI, Tw.ok_tI, Tw.frz_tI, Tw.e_bok, Tw.e_sbok, List.map_cons, List.map_nil, List.length_cons, List.length_nil, List.cons_append, List.nil_append, List.replicate, List.getElem?_cons_zero, List.getElem?_cons_succ, List.set_cons_zero, List.set_cons_succ, Option.bind_some, Option.map_some, Nat.zero_add, Nat.add_zero, Nat.reduceAdd, Nat.reduceSub, Nat.reduceLT, Nat.reduceLeDiff, Bool.and_true, Bool.true_and, Bool.and_self, Bool.not_true, Bool.not_false, Bool.false_and, Bool.and_false, Bool.or_true, Bool.true_or, Bool.or_false, Bool.false_or, if_true, if_false, Bool.false_eq_true, reduceCtorEq, ite_true, ite_false, decide_true, decide_false, decide_eq_true_eq, ne_eq, Int.reduceEq, not_false_eq_true, not_true_eq_false, List.length_map, Option.map_none, Int.reduceNeg, and_self])
  exact ⟨z9, e⟩
theorem some_loop {A y2 y3 y4 y5 y7 y8 y9 y10 y11 : Option D} {top : Int} (h0 : 0 < top) (h1 : top ≤ 8) : ∀ (xs : List D) (acc : List Int) (hd : D), Hand hd → ∃ vals hd', Hand hd' ∧ vals.length = xs.length ∧ (∀ v ∈ vals, 0 ≤ v ∧ v < top) ∧
    compGo [12] (bNm 12) bTrue (fCall [0] h__law_draw [(.slot 1), (.val (fVar 6))]) xs (acc.map .int) [A, some hd, y2, y3, y4, y5, some (.int top), y7, y8, y9, y10, y11, none] = .ok ((acc ++ vals).map .int) [A, some hd', y2, y3, y4, y5, some (.int top), y7, y8, y9, y10, y11, none]
  | [], acc, hd, hh => by
    refine ⟨[], hd, hh, rfl, by simp, ?_⟩
    rw [List.append_nil]
    rfl
  | x :: xs, acc, hd, hh => by
    obtain ⟨r, hd1, e1, b, hh1⟩ := draw_ok (many := top) hh h0 (by omega)
    obtain ⟨vals, hd2, hh2, l, hv, e2⟩ := some_loop h0 h1 xs (acc ++ [r]) hd1 hh1
    refine ⟨r :: vals, hd2, hh2, by rw [List.length_cons, List.length_cons, l], fun v hvv => ?_, ?_⟩
    · rcases List.mem_cons.mp hvv with rfl | hvv
      · exact b
      · exact hv v hvv
    · have em : (acc ++ [r]).map D.int = acc.map .int ++ [.int r] := by simp
      rw [em] at e2
      rw [show acc ++ r :: vals = acc ++ [r] ++ vals by simp, ← e2]
      simp only [e1, Tw.e_run, Tw.e_rtR, Tw.e_rtX, Tw.e_rtN, Tw.e_io_nil, Tw.e_io_one, Tw.e_ioR1, Tw.e_seq, Tw.e_seqN, Tw.e_seqR, Tw.e_seqB, Tw.e_seqC, Tw.e_sNil, Tw.e_sBrk, Tw.e_sCont, Tw.e_sRet, Tw.e_sExpr, Tw.e_sIf, Tw.e_sAsg, Tw.e_nxR, Tw.e_bNm, Tw.e_sPar, Tw.e_sFor, Tw.e_sAug, Tw.e_augR, Tw.e_own, Tw.e_ownR, Tw.e_stR2, Tw.e_sStore, Tw.e_stR, Tw.e_stR3, Tw.e_m1R, Tw.e_m1S, Tw.e_m1T, Tw.e_mt1, Tw.e_m0S, Tw.e_mt0, Tw.e_var, Tw.e_varR, Tw.e_move, Tw.e_moveR, Tw.e_K, Tw.e_nil, Tw.e_val, Tw.e_slot, Tw.e_slotR, Tw.e_gnil, Tw.e_gval, Tw.e_gvR, Tw.e_gslot, Tw.e_gsR, Tw.e_gR, Tw.e_gpR, Tw.e_N, Tw.e_vals0, Tw.e_vals1, Tw.e_tup, Tw.e_lst, Tw.e_and, Tw.e_andT, Tw.e_andF, Tw.e_or, Tw.e_orT, Tw.e_orF, Tw.e_not, Tw.e_notR, Tw.e_bE, Tw.e_bR, Tw.e_bAnd, Tw.e_bOr, Tw.e_bNot, Tw.e_bTrue, Tw.e_if, Tw.e_chR2, Tw.e_chRT, Tw.e_chRF, Tw.e_chain, Tw.e_part0, Tw.e_part, Tw.e_partR, Tw.e_sl, Tw.e_rev, Tw.e_kval, Tw.e_kval2, Tw.e_kN, Tw.e_ktup, Tw.e_klst, Tw.e_kand, Tw.e_kor, Tw.e_knot, Tw.e_kbE, Tw.e_kbAnd, Tw.e_kbOr, Tw.e_kbNot, Tw.e_kif, Tw.e_kpart, Tw.e_krev, Tw.e_kcall, Tw.e_ksRet, Tw.e_ksExpr, Tw.e_ksIf, Tw.e_ksAsg, Tw.e_ksFor, Tw.e_ksStore, Tw.e_kstR, Tw.e_km1T, Tw.e_kiSeq, Tw.e_kiRng, Tw.e_kiZip, Tw.e_kmake, Tw.e_kfset, Tw.e_kchRT, Tw.e_kchain2, Tw.e_kchain, Tw.e_ksl, Tw.e_ksl2, Tw.e_ksl3, Tw.e_ksPar, Tw.e_ksPar2, Tw.e_ksAug, Tw.e_ksAug2, Tw.e_kcp3, Tw.e_kcomp, Tw.e_kcomp2, Tw.e_coR, Tw.e_kco2, Tw.e_kco, Tw.e_co, Tw.e_callR, Tw.e_call, Tw.e_io0, Tw.e_io1, Tw.e_io1R, Tw.e_itR, Tw.e_iSeq, Tw.e_rgR, Tw.e_iRng, Tw.e_zpR, Tw.e_iZip, Tw.e_comp, Tw.e_comp2, Tw.e_wipe0, Tw.e_wipe1, Tw.e_bTp, Tw.e_bNil, Tw.e_bCons, Tw.e_mkR, Tw.e_make, Tw.e_fset, Tw.e_fsR, Tw.e_oo, Tw.e_ooR, Tw.e_coR2, Tw.tru_non, Tw.tru_bl, Tw.tru_int, Tw.tru_tup, Tw.tru_lst, Tw.asI_int, Tw.ints_nil, Tw.ints_cons, Tw.items_lst, Tw.items_tup, Tw.seqK_lst, Tw.seqK_tup, Tw.isN_int, Tw.isN_non, Tw.isN_tup, Tw.notN_int, Tw.notN_non, Tw.notN_tup, Tw.mul_int, Tw.add_int, Tw.sub_int, Tw.fdiv_int, Tw.mod_int, Tw.pow_int, Tw.lt_int, Tw.le_int, Tw.gt_int, Tw.ge_int, Tw.neg_int, Tw.imul_int, Tw.iadd_int, Tw.len_lst, Tw.len_tup, Tw.ix_lst, Tw.ix_tup, Tw.tuple_lst, Tw.tuple_tup, Tw.list_lst, Tw.list_tup, Tw.abs_int, Tw.intC_int, Tw.intC_bl, Tw.all_lst, Tw.any_lst, Tw.isi_2, Tw.tag_non, Tw.tag_bl, Tw.tag_int, Tw.tag_str, Tw.tag_tup, Tw.tag_lst, Tw.tag_obj, Tw.asT_ty, Tw.asT_cl, Tw.frz_int, Tw.frz_bl, Tw.frz_non, Tw.frz_ty, Tw.frz_cl, Tw.frz_scr, Tw.frz_tup, Tw.frz_lst, Tw.frz_obj, Tw.frzs_nil, Tw.frzs_cons, Tw.ok_int, Tw.ok_bl, Tw.ok_non, Tw.ok_tup, Tw.ok_lst, Tw.ok_obj, Tw.doks_nil, Tw.doks_cons, Tw.sl_scr, Tw.sl_lst, Tw.sl_tup, Tw.rev_lst, Tw.rev_tup, Tw.eq_int, Tw.ne_int, Tw.e_kcpB, Tw.e_cpB, Tw.e_compB, Tw.e_fgN, Tw.e_fgC, Tw.e_fgB, Tw.e_fgRt, Tw.e_fgR, Tw.e_for0, Tw.e_for1, Tw.e_cgF, Tw.e_cgT, Tw.e_cgR, Tw.e_neo, Tw.e_cg0, Tw.e_cg1, Tw.e_c2A, Tw.e_c2I, Tw.e_c2T, Tw.e_c2R, Tw.e_c20, Tw.e_c21, Tw.at5_0, Tw.at5_1, Tw.at5_2, Tw.at5_3, Tw.at5_4, Tw.ix5_1, Tw.ix5_2, Tw.ix5_3, Tw.ix5_4, Tw.ints_map, Tw.add_tup, Tw.add_lst, Tw.oks_rows, Tw.frzs_rows, Tw.rows_len, Tw.oks_int, Tw.frzs_int, Tw.oks_tI, Tw.ok_tI, Tw.frz_tI, Tw.e_bok, Tw.e_sbok, List.map_cons, List.map_nil, List.length_cons, List.length_nil, List.cons_append, List.nil_append, List.replicate, List.getElem?_cons_zero, List.getElem?_cons_succ, List.set_cons_zero, List.set_cons_succ, Option.bind_some, Option.map_some, Nat.zero_add, Nat.add_zero, Nat.reduceAdd, Nat.reduceSub, Nat.reduceLT, Nat.reduceLeDiff, Bool.and_true, Bool.true_and, Bool.and_self, Bool.not_true, Bool.not_false, Bool.false_and, Bool.and_false, Bool.or_true, Bool.true_or, Bool.or_false, Bool.false_or, if_true, if_false, Bool.false_eq_true, reduceCtorEq, ite_true, ite_false, decide_true, decide_false, decide_eq_true_eq, ne_eq, Int.reduceEq, not_false_eq_true, not_true_eq_false, List.length_map, Option.map_none, Int.reduceNeg, and_self]
theorem lenSet_ok {m : Bool} {sizes an : List Int} (h : an.length ≤ 4000) : h_many_answers [qst m sizes an] = .ret (.int (nub an).length) [] := by
  have k : fLenSet (fN (gFld own_answers "answers") [(.val (fVar 0))]) [some (qst m sizes an)] = .ok (.int (nub an).length) [some (qst false sizes an)] := by
    have e : fN (gFld own_answers "answers") [(.val (fVar 0))] [some (qst m sizes an)] = .ok (.tup (an.map .int)) [some (qst false sizes an)] := by
      simp only [frz_qst, fld_answers, Tw.e_run, Tw.e_rtR, Tw.e_rtX, Tw.e_rtN, Tw.e_io_nil, Tw.e_io_one, Tw.e_ioR1, Tw.e_seq, Tw.e_seqN, Tw.e_seqR, Tw.e_seqB, Tw.e_seqC, Tw.e_sNil, Tw.e_sBrk, Tw.e_sCont, Tw.e_sRet, Tw.e_sExpr, Tw.e_sIf, Tw.e_sAsg, Tw.e_nxR, Tw.e_bNm, Tw.e_sPar, Tw.e_sFor, Tw.e_sAug, Tw.e_augR, Tw.e_own, Tw.e_ownR, Tw.e_stR2, Tw.e_sStore, Tw.e_stR, Tw.e_stR3, Tw.e_m1R, Tw.e_m1S, Tw.e_m1T, Tw.e_mt1, Tw.e_m0S, Tw.e_mt0, Tw.e_var, Tw.e_varR, Tw.e_move, Tw.e_moveR, Tw.e_K, Tw.e_nil, Tw.e_val, Tw.e_slot, Tw.e_slotR, Tw.e_gnil, Tw.e_gval, Tw.e_gvR, Tw.e_gslot, Tw.e_gsR, Tw.e_gR, Tw.e_gpR, Tw.e_N, Tw.e_vals0, Tw.e_vals1, Tw.e_tup, Tw.e_lst, Tw.e_and, Tw.e_andT, Tw.e_andF, Tw.e_or, Tw.e_orT, Tw.e_orF, Tw.e_not, Tw.e_notR, Tw.e_bE, Tw.e_bR, Tw.e_bAnd, Tw.e_bOr, Tw.e_bNot, Tw.e_bTrue, Tw.e_if, Tw.e_chR2, Tw.e_chRT, Tw.e_chRF, Tw.e_chain, Tw.e_part0, Tw.e_part, Tw.e_partR, Tw.e_sl, Tw.e_rev, Tw.e_kval, Tw.e_kval2, Tw.e_kN, Tw.e_ktup, Tw.e_klst, Tw.e_kand, Tw.e_kor, Tw.e_knot, Tw.e_kbE, Tw.e_kbAnd, Tw.e_kbOr, Tw.e_kbNot, Tw.e_kif, Tw.e_kpart, Tw.e_krev, Tw.e_kcall, Tw.e_ksRet, Tw.e_ksExpr, Tw.e_ksIf, Tw.e_ksAsg, Tw.e_ksFor, Tw.e_ksStore, Tw.e_kstR, Tw.e_km1T, Tw.e_kiSeq, Tw.e_kiRng, Tw.e_kiZip, Tw.e_kmake, Tw.e_kfset, Tw.e_kchRT, Tw.e_kchain2, Tw.e_kchain, Tw.e_ksl, Tw.e_ksl2, Tw.e_ksl3, Tw.e_ksPar, Tw.e_ksPar2, Tw.e_ksAug, Tw.e_ksAug2, Tw.e_kcp3, Tw.e_kcomp, Tw.e_kcomp2, Tw.e_coR, Tw.e_kco2, Tw.e_kco, Tw.e_co, Tw.e_callR, Tw.e_call, Tw.e_io0, Tw.e_io1, Tw.e_io1R, Tw.e_itR, Tw.e_iSeq, Tw.e_rgR, Tw.e_iRng, Tw.e_zpR, Tw.e_iZip, Tw.e_comp, Tw.e_comp2, Tw.e_wipe0, Tw.e_wipe1, Tw.e_bTp, Tw.e_bNil, Tw.e_bCons, Tw.e_mkR, Tw.e_make, Tw.e_fset, Tw.e_fsR, Tw.e_oo, Tw.e_ooR, Tw.e_coR2, Tw.tru_non, Tw.tru_bl, Tw.tru_int, Tw.tru_tup, Tw.tru_lst, Tw.asI_int, Tw.ints_nil, Tw.ints_cons, Tw.items_lst, Tw.items_tup, Tw.seqK_lst, Tw.seqK_tup, Tw.isN_int, Tw.isN_non, Tw.isN_tup, Tw.notN_int, Tw.notN_non, Tw.notN_tup, Tw.mul_int, Tw.add_int, Tw.sub_int, Tw.fdiv_int, Tw.mod_int, Tw.pow_int, Tw.lt_int, Tw.le_int, Tw.gt_int, Tw.ge_int, Tw.neg_int, Tw.imul_int, Tw.iadd_int, Tw.len_lst, Tw.len_tup, Tw.ix_lst, Tw.ix_tup, Tw.tuple_lst, Tw.tuple_tup, Tw.list_lst, Tw.list_tup, Tw.abs_int, Tw.intC_int, Tw.intC_bl, Tw.all_lst, Tw.any_lst, Tw.isi_2, Tw.tag_non, Tw.tag_bl, Tw.tag_int, Tw.tag_str, Tw.tag_tup, Tw.tag_lst, Tw.tag_obj, Tw.asT_ty, Tw.asT_cl, Tw.frz_int, Tw.frz_bl, Tw.frz_non, Tw.frz_ty, Tw.frz_cl, Tw.frz_scr, Tw.frz_tup, Tw.frz_lst, Tw.frz_obj, Tw.frzs_nil, Tw.frzs_cons, Tw.ok_int, Tw.ok_bl, Tw.ok_non, Tw.ok_tup, Tw.ok_lst, Tw.ok_obj, Tw.doks_nil, Tw.doks_cons, Tw.sl_scr, Tw.sl_lst, Tw.sl_tup, Tw.rev_lst, Tw.rev_tup, Tw.eq_int, Tw.ne_int, Tw.e_kcpB, Tw.e_cpB, Tw.e_compB, Tw.e_fgN, Tw.e_fgC, Tw.e_fgB, Tw.e_fgRt, Tw.e_fgR, Tw.e_for0, Tw.e_for1, Tw.e_cgF, Tw.e_cgT, Tw.e_cgR, Tw.e_neo, Tw.e_cg0, Tw.e_cg1, Tw.e_c2A, Tw.e_c2I, Tw.e_c2T, Tw.e_c2R, Tw.e_c20, Tw.e_c21, Tw.at5_0, Tw.at5_1, Tw.at5_2, Tw.at5_3, Tw.at5_4, Tw.ix5_1, Tw.ix5_2, Tw.ix5_3, Tw.ix5_4, Tw.ints_map, Tw.add_tup, Tw.add_lst, Tw.oks_rows, Tw.frzs_rows, Tw.rows_len, Tw.oks_int, Tw.frzs_int, Tw.oks_tI, Tw.ok_tI, Tw.frz_tI, Tw.e_bok, Tw.e_sbok, List.map_cons, List.map_nil, List.length_cons, List.length_nil, List.cons_append, List.nil_append, List.replicate, List.getElem?_cons_zero, List.getElem?_cons_succ, List.set_cons_zero, List.set_cons_succ, Option.bind_some, Option.map_some, Nat.zero_add, Nat.add_zero, Nat.reduceAdd, Nat.reduceSub, Nat.reduceLT, Nat.reduceLeDiff, Bool.and_true, Bool.true_and, Bool.and_self, Bool.not_true, Bool.not_false, Bool.false_and, Bool.and_false, Bool.or_true, Bool.true_or, Bool.or_false, Bool.false_or, if_true, if_false, Bool.false_eq_true, reduceCtorEq, ite_true, ite_false, decide_true, decide_false, decide_eq_true_eq, ne_eq, Int.reduceEq, not_false_eq_true, not_true_eq_false, List.length_map, Option.map_none, Int.reduceNeg, and_self]
    unfold fLenSet
    rw [e, Rs.bind_ok]
    simp only [Tw.seqK_tup, oks_int, if_true, Tw.ints_map, h]
  simp only [h_many_answers, b_many_answers, k, Tw.e_run, Tw.e_rtR, Tw.e_rtX, Tw.e_rtN, Tw.e_io_nil, Tw.e_io_one, Tw.e_ioR1, Tw.e_seq, Tw.e_seqN, Tw.e_seqR, Tw.e_seqB, Tw.e_seqC, Tw.e_sNil, Tw.e_sBrk, Tw.e_sCont, Tw.e_sRet, Tw.e_sExpr, Tw.e_sIf, Tw.e_sAsg, Tw.e_nxR, Tw.e_bNm, Tw.e_sPar, Tw.e_sFor, Tw.e_sAug, Tw.e_augR, Tw.e_own, Tw.e_ownR, Tw.e_stR2, Tw.e_sStore, Tw.e_stR, Tw.e_stR3, Tw.e_m1R, Tw.e_m1S, Tw.e_m1T, Tw.e_mt1, Tw.e_m0S, Tw.e_mt0, Tw.e_var, Tw.e_varR, Tw.e_move, Tw.e_moveR, Tw.e_K, Tw.e_nil, Tw.e_val, Tw.e_slot, Tw.e_slotR, Tw.e_gnil, Tw.e_gval, Tw.e_gvR, Tw.e_gslot, Tw.e_gsR, Tw.e_gR, Tw.e_gpR, Tw.e_N, Tw.e_vals0, Tw.e_vals1, Tw.e_tup, Tw.e_lst, Tw.e_and, Tw.e_andT, Tw.e_andF, Tw.e_or, Tw.e_orT, Tw.e_orF, Tw.e_not, Tw.e_notR, Tw.e_bE, Tw.e_bR, Tw.e_bAnd, Tw.e_bOr, Tw.e_bNot, Tw.e_bTrue, Tw.e_if, Tw.e_chR2, Tw.e_chRT, Tw.e_chRF, Tw.e_chain, Tw.e_part0, Tw.e_part, Tw.e_partR, Tw.e_sl, Tw.e_rev, Tw.e_kval, Tw.e_kval2, Tw.e_kN, Tw.e_ktup, Tw.e_klst, Tw.e_kand, Tw.e_kor, Tw.e_knot, Tw.e_kbE, Tw.e_kbAnd, Tw.e_kbOr, Tw.e_kbNot, Tw.e_kif, Tw.e_kpart, Tw.e_krev, Tw.e_kcall, Tw.e_ksRet, Tw.e_ksExpr, Tw.e_ksIf, Tw.e_ksAsg, Tw.e_ksFor, Tw.e_ksStore, Tw.e_kstR, Tw.e_km1T, Tw.e_kiSeq, Tw.e_kiRng, Tw.e_kiZip, Tw.e_kmake, Tw.e_kfset, Tw.e_kchRT, Tw.e_kchain2, Tw.e_kchain, Tw.e_ksl, Tw.e_ksl2, Tw.e_ksl3, Tw.e_ksPar, Tw.e_ksPar2, Tw.e_ksAug, Tw.e_ksAug2, Tw.e_kcp3, Tw.e_kcomp, Tw.e_kcomp2, Tw.e_coR, Tw.e_kco2, Tw.e_kco, Tw.e_co, Tw.e_callR, Tw.e_call, Tw.e_io0, Tw.e_io1, Tw.e_io1R, Tw.e_itR, Tw.e_iSeq, Tw.e_rgR, Tw.e_iRng, Tw.e_zpR, Tw.e_iZip, Tw.e_comp, Tw.e_comp2, Tw.e_wipe0, Tw.e_wipe1, Tw.e_bTp, Tw.e_bNil, Tw.e_bCons, Tw.e_mkR, Tw.e_make, Tw.e_fset, Tw.e_fsR, Tw.e_oo, Tw.e_ooR, Tw.e_coR2, Tw.tru_non, Tw.tru_bl, Tw.tru_int, Tw.tru_tup, Tw.tru_lst, Tw.asI_int, Tw.ints_nil, Tw.ints_cons, Tw.items_lst, Tw.items_tup, Tw.seqK_lst, Tw.seqK_tup, Tw.isN_int, Tw.isN_non, Tw.isN_tup, Tw.notN_int, Tw.notN_non, Tw.notN_tup, Tw.mul_int, Tw.add_int, Tw.sub_int, Tw.fdiv_int, Tw.mod_int, Tw.pow_int, Tw.lt_int, Tw.le_int, Tw.gt_int, Tw.ge_int, Tw.neg_int, Tw.imul_int, Tw.iadd_int, Tw.len_lst, Tw.len_tup, Tw.ix_lst, Tw.ix_tup, Tw.tuple_lst, Tw.tuple_tup, Tw.list_lst, Tw.list_tup, Tw.abs_int, Tw.intC_int, Tw.intC_bl, Tw.all_lst, Tw.any_lst, Tw.isi_2, Tw.tag_non, Tw.tag_bl, Tw.tag_int, Tw.tag_str, Tw.tag_tup, Tw.tag_lst, Tw.tag_obj, Tw.asT_ty, Tw.asT_cl, Tw.frz_int, Tw.frz_bl, Tw.frz_non, Tw.frz_ty, Tw.frz_cl, Tw.frz_scr, Tw.frz_tup, Tw.frz_lst, Tw.frz_obj, Tw.frzs_nil, Tw.frzs_cons, Tw.ok_int, Tw.ok_bl, Tw.ok_non, Tw.ok_tup, Tw.ok_lst, Tw.ok_obj, Tw.doks_nil, Tw.doks_cons, Tw.sl_scr, Tw.sl_lst, Tw.sl_tup, Tw.rev_lst, Tw.rev_tup, Tw.eq_int, Tw.ne_int, Tw.e_kcpB, Tw.e_cpB, Tw.e_compB, Tw.e_fgN, Tw.e_fgC, Tw.e_fgB, Tw.e_fgRt, Tw.e_fgR, Tw.e_for0, Tw.e_for1, Tw.e_cgF, Tw.e_cgT, Tw.e_cgR, Tw.e_neo, Tw.e_cg0, Tw.e_cg1, Tw.e_c2A, Tw.e_c2I, Tw.e_c2T, Tw.e_c2R, Tw.e_c20, Tw.e_c21, Tw.at5_0, Tw.at5_1, Tw.at5_2, Tw.at5_3, Tw.at5_4, Tw.ix5_1, Tw.ix5_2, Tw.ix5_3, Tw.ix5_4, Tw.ints_map, Tw.add_tup, Tw.add_lst, Tw.oks_rows, Tw.frzs_rows, Tw.rows_len, Tw.oks_int, Tw.frzs_int, Tw.oks_tI, Tw.ok_tI, Tw.frz_tI, Tw.e_bok, Tw.e_sbok, List.map_cons, List.map_nil, List.length_cons, List.length_nil, List.cons_append, List.nil_append, List.replicate, List.getElem?_cons_zero, List.getElem?_cons_succ, List.set_cons_zero, List.set_cons_succ, Option.bind_some, Option.map_some, Nat.zero_add, Nat.add_zero, Nat.reduceAdd, Nat.reduceSub, Nat.reduceLT, Nat.reduceLeDiff, Bool.and_true, Bool.true_and, Bool.and_self, Bool.not_true, Bool.not_false, Bool.false_and, Bool.and_false, Bool.or_true, Bool.true_or, Bool.or_false, Bool.false_or, if_true, if_false, Bool.false_eq_true, reduceCtorEq, ite_true, ite_false, decide_true, decide_false, decide_eq_true_eq, ne_eq, Int.reduceEq, not_false_eq_true, not_true_eq_false, List.length_map, Option.map_none, Int.reduceNeg, and_self]
theorem flats_int : ∀ ns : List Int, D.flats (ns.map .int) = some (ns.map V.int)
  | [] => rfl
  | n :: ns => by rw [List.map_cons, D.flats, flats_int ns]; rfl
theorem in_ints (x : Int) (ns : List Int) : gIn [.int x, .tup (ns.map .int)] = some (.bl (decide (x ∈ ns))) := by
  have e : gIn [.int x, .tup (ns.map .int)] = (D.seqK (.tup (ns.map .int))).bind fun q => (D.flats q.2).map fun vs => .bl (inV (.int x) vs) := rfl
  rw [e, Tw.seqK_tup, oks_int, if_pos rfl, Option.bind_some, flats_int, Option.map_some]
  congr 2
  unfold inV
  rw [List.any_map]
  apply Bool.eq_iff_iff.mpr
  rw [List.any_eq_true, decide_eq_true_eq]
  constructor
  · rintro ⟨y, hy, e⟩
    have : y = x := by simpa [eqV] using e
    rw [← this]; exact hy
  · intro hx
    exact ⟨x, hx, by simp [eqV]⟩
theorem count_ok {an : List Int} (h : ∀ a ∈ an, 0 ≤ a ∧ a ≤ 7) : ((List.range 8).filter fun n : Nat => decide ((n : Int) ∈ an)).length = (nub an).length := by
  have n1 : (((List.range 8).filter fun n : Nat => decide ((n : Int) ∈ an)).map fun n : Nat => (n : Int)).Nodup := by
    show List.Pairwise _ _
    rw [List.pairwise_map]
    exact List.Pairwise.imp (fun hab e => hab (by omega)) (List.Pairwise.filter _ List.nodup_range)
  have p := (List.perm_ext_iff_of_nodup n1 (nub_nodup an)).mpr fun k => by
    rw [nub_mem, List.mem_map]
    constructor
    · rintro ⟨n, hn, rfl⟩
      exact of_decide_eq_true (List.mem_filter.mp hn).2
    · intro hk
      have := h k hk
      refine ⟨k.toNat, List.mem_filter.mpr ⟨List.mem_range.mpr (by omega), decide_eq_true ?_⟩, by omega⟩
      rw [show ((k.toNat : Nat) : Int) = k by omega]; exact hk
  have := p.length_eq
  rwa [List.length_map] at this
theorem r8 : rngOf [(8 : Int)] = some (0, 8) := rngOf_1 (by omega)
theorem r3 : rngOf [(3 : Int)] = some (0, 3) := rngOf_1 (by omega)
theorem count_comp {A hd y2 y3 y4 y5 y6 y8 y9 y10 y11 : Option D} {an : List Int} : compGo [12] (bNm 12) (bE (fN gIn [(.val (fVar 12)), (.val (fVar 7))])) (fVar 12) ((List.range 8).map fun i : Nat => .int (i : Int)) [] [A, hd, y2, y3, y4, y5, y6, some (.tup (an.map .int)), y8, y9, y10, y11, none]
    = .ok (((List.range 8).filter fun n : Nat => decide ((n : Int) ∈ an)).map fun n : Nat => .int (n : Int)) [A, hd, y2, y3, y4, y5, y6, some (.tup (an.map .int)), y8, y9, y10, y11, none] := by
  have key := comp_map (vs := [12]) (b := bNm 12) (t := bE (fN gIn [(.val (fVar 12)), (.val (fVar 7))])) (f := fVar 12) (g := fun i : Nat => D.int (i : Int)) (env := [A, hd, y2, y3, y4, y5, y6, some (.tup (an.map .int)), y8, y9, y10, y11, none])
    (fun n : Nat => if (n : Int) ∈ an then [D.int (n : Int)] else []) (List.range 8) [] fun n hn ds acc => by
      by_cases c : (n : Int) ∈ an
      · rw [if_pos c]
        simp only [in_ints, c, Tw.e_run, Tw.e_rtR, Tw.e_rtX, Tw.e_rtN, Tw.e_io_nil, Tw.e_io_one, Tw.e_ioR1, Tw.e_seq, Tw.e_seqN, Tw.e_seqR, Tw.e_seqB, Tw.e_seqC, Tw.e_sNil, Tw.e_sBrk, Tw.e_sCont, Tw.e_sRet, Tw.e_sExpr, Tw.e_sIf, Tw.e_sAsg, Tw.e_nxR, Tw.e_bNm, Tw.e_sPar, Tw.e_sFor, Tw.e_sAug, Tw.e_augR, Tw.e_own, Tw.e_ownR, Tw.e_stR2, Tw.e_sStore, Tw.e_stR, Tw.e_stR3, Tw.e_m1R, Tw.e_m1S, Tw.e_m1T, Tw.e_mt1, Tw.e_m0S, Tw.e_mt0, Tw.e_var, Tw.e_varR, Tw.e_move, Tw.e_moveR, Tw.e_K, Tw.e_nil, Tw.e_val, Tw.e_slot, Tw.e_slotR, Tw.e_gnil, Tw.e_gval, Tw.e_gvR, Tw.e_gslot, Tw.e_gsR, Tw.e_gR, Tw.e_gpR, Tw.e_N, Tw.e_vals0, Tw.e_vals1, Tw.e_tup, Tw.e_lst, Tw.e_and, Tw.e_andT, Tw.e_andF, Tw.e_or, Tw.e_orT, Tw.e_orF, Tw.e_not, Tw.e_notR, Tw.e_bE, Tw.e_bR, Tw.e_bAnd, Tw.e_bOr, Tw.e_bNot, Tw.e_bTrue, Tw.e_if, Tw.e_chR2, Tw.e_chRT, Tw.e_chRF, Tw.e_chain, Tw.e_part0, Tw.e_part, Tw.e_partR, Tw.e_sl, Tw.e_rev, Tw.e_kval, Tw.e_kval2, Tw.e_kN, Tw.e_ktup, Tw.e_klst, Tw.e_kand, Tw.e_kor, Tw.e_knot, Tw.e_kbE, Tw.e_kbAnd, Tw.e_kbOr, Tw.e_kbNot, Tw.e_kif, Tw.e_kpart, Tw.e_krev, Tw.e_kcall, Tw.e_ksRet, Tw.e_ksExpr, Tw.e_ksIf, Tw.e_ksAsg, Tw.e_ksFor, Tw.e_ksStore, Tw.e_kstR, Tw.e_km1T, Tw.e_kiSeq, Tw.e_kiRng, Tw.e_kiZip, Tw.e_kmake, Tw.e_kfset, Tw.e_kchRT, Tw.e_kchain2, Tw.e_kchain, Tw.e_ksl, Tw.e_ksl2, Tw.e_ksl3, Tw.e_ksPar, Tw.e_ksPar2, Tw.e_ksAug, Tw.e_ksAug2, Tw.e_kcp3, Tw.e_kcomp, Tw.e_kcomp2, Tw.e_coR, Tw.e_kco2, Tw.e_kco, Tw.e_co, Tw.e_callR, Tw.e_call, Tw.e_io0, Tw.e_io1, Tw.e_io1R, Tw.e_itR, Tw.e_iSeq, Tw.e_rgR, Tw.e_iRng, Tw.e_zpR, Tw.e_iZip, Tw.e_comp, Tw.e_comp2, Tw.e_wipe0, Tw.e_wipe1, Tw.e_bTp, Tw.e_bNil, Tw.e_bCons, Tw.e_mkR, Tw.e_make, Tw.e_fset, Tw.e_fsR, Tw.e_oo, Tw.e_ooR, Tw.e_coR2, Tw.tru_non, Tw.tru_bl, Tw.tru_int, Tw.tru_tup, Tw.tru_lst, Tw.asI_int, Tw.ints_nil, Tw.ints_cons, Tw.items_lst, Tw.items_tup, Tw.seqK_lst, Tw.seqK_tup, Tw.isN_int, Tw.isN_non, Tw.isN_tup, Tw.notN_int, Tw.notN_non, Tw.notN_tup, Tw.mul_int, Tw.add_int, Tw.sub_int, Tw.fdiv_int, Tw.mod_int, Tw.pow_int, Tw.lt_int, Tw.le_int, Tw.gt_int, Tw.ge_int, Tw.neg_int, Tw.imul_int, Tw.iadd_int, Tw.len_lst, Tw.len_tup, Tw.ix_lst, Tw.ix_tup, Tw.tuple_lst, Tw.tuple_tup, Tw.list_lst, Tw.list_tup, Tw.abs_int, Tw.intC_int, Tw.intC_bl, Tw.all_lst, Tw.any_lst, Tw.isi_2, Tw.tag_non, Tw.tag_bl, Tw.tag_int, Tw.tag_str, Tw.tag_tup, Tw.tag_lst, Tw.tag_obj, Tw.asT_ty, Tw.asT_cl, Tw.frz_int, Tw.frz_bl, Tw.frz_non, Tw.frz_ty, Tw.frz_cl, Tw.frz_scr, Tw.frz_tup, Tw.frz_lst, Tw.frz_obj, Tw.frzs_nil, Tw.frzs_cons, Tw.ok_int, Tw.ok_bl, Tw.ok_non, Tw.ok_tup, Tw.ok_lst, Tw.ok_obj, Tw.doks_nil, Tw.doks_cons, Tw.sl_scr, Tw.sl_lst, Tw.sl_tup, Tw.rev_lst, Tw.rev_tup, Tw.eq_int, Tw.ne_int, Tw.e_kcpB, Tw.e_cpB, Tw.e_compB, Tw.e_fgN, Tw.e_fgC, Tw.e_fgB, Tw.e_fgRt, Tw.e_fgR, Tw.e_for0, Tw.e_for1, Tw.e_cgF, Tw.e_cgT, Tw.e_cgR, Tw.e_neo, Tw.e_cg0, Tw.e_cg1, Tw.e_c2A, Tw.e_c2I, Tw.e_c2T, Tw.e_c2R, Tw.e_c20, Tw.e_c21, Tw.at5_0, Tw.at5_1, Tw.at5_2, Tw.at5_3, Tw.at5_4, Tw.ix5_1, Tw.ix5_2, Tw.ix5_3, Tw.ix5_4, Tw.ints_map, Tw.add_tup, Tw.add_lst, Tw.oks_rows, Tw.frzs_rows, Tw.rows_len, Tw.oks_int, Tw.frzs_int, Tw.oks_tI, Tw.ok_tI, Tw.frz_tI, Tw.e_bok, Tw.e_sbok, List.map_cons, List.map_nil, List.length_cons, List.length_nil, List.cons_append, List.nil_append, List.replicate, List.getElem?_cons_zero, List.getElem?_cons_succ, List.set_cons_zero, List.set_cons_succ, Option.bind_some, Option.map_some, Nat.zero_add, Nat.add_zero, Nat.reduceAdd, Nat.reduceSub, Nat.reduceLT, Nat.reduceLeDiff, Bool.and_true, Bool.true_and, Bool.and_self, Bool.not_true, Bool.not_false, Bool.false_and, Bool.and_false, Bool.or_true, Bool.true_or, Bool.or_false, Bool.false_or, if_true, if_false, Bool.false_eq_true, reduceCtorEq, ite_true, ite_false, decide_true, decide_false, decide_eq_true_eq, ne_eq, Int.reduceEq, not_false_eq_true, not_true_eq_false, List.length_map, Option.map_none, Int.reduceNeg, and_self]
      · rw [if_neg c, List.append_nil]
        simp only [in_ints, c, Tw.e_run, Tw.e_rtR, Tw.e_rtX, Tw.e_rtN, Tw.e_io_nil, Tw.e_io_one, Tw.e_ioR1, Tw.e_seq, Tw.e_seqN, Tw.e_seqR, Tw.e_seqB, Tw.e_seqC, Tw.e_sNil, Tw.e_sBrk, Tw.e_sCont, Tw.e_sRet, Tw.e_sExpr, Tw.e_sIf, Tw.e_sAsg, Tw.e_nxR, Tw.e_bNm, Tw.e_sPar, Tw.e_sFor, Tw.e_sAug, Tw.e_augR, Tw.e_own, Tw.e_ownR, Tw.e_stR2, Tw.e_sStore, Tw.e_stR, Tw.e_stR3, Tw.e_m1R, Tw.e_m1S, Tw.e_m1T, Tw.e_mt1, Tw.e_m0S, Tw.e_mt0, Tw.e_var, Tw.e_varR, Tw.e_move, Tw.e_moveR, Tw.e_K, Tw.e_nil, Tw.e_val, Tw.e_slot, Tw.e_slotR, Tw.e_gnil, Tw.e_gval, Tw.e_gvR, Tw.e_gslot, Tw.e_gsR, Tw.e_gR, Tw.e_gpR, Tw.e_N, Tw.e_vals0, Tw.e_vals1, Tw.e_tup, Tw.e_lst, Tw.e_and, Tw.e_andT, Tw.e_andF, Tw.e_or, Tw.e_orT, Tw.e_orF, Tw.e_not, Tw.e_notR, Tw.e_bE, Tw.e_bR, Tw.e_bAnd, Tw.e_bOr, Tw.e_bNot, Tw.e_bTrue, Tw.e_if, Tw.e_chR2, Tw.e_chRT, Tw.e_chRF, Tw.e_chain, Tw.e_part0, Tw.e_part, Tw.e_partR, Tw.e_sl, Tw.e_rev, Tw.e_kval, Tw.e_kval2, Tw.e_kN, Tw.e_ktup, Tw.e_klst, Tw.e_kand, Tw.e_kor, Tw.e_knot, Tw.e_kbE, Tw.e_kbAnd, Tw.e_kbOr, Tw.e_kbNot, Tw.e_kif, Tw.e_kpart, Tw.e_krev, Tw.e_kcall, Tw.e_ksRet, Tw.e_ksExpr, Tw.e_ksIf, Tw.e_ksAsg, Tw.e_ksFor, Tw.e_ksStore, Tw.e_kstR, Tw.e_km1T, Tw.e_kiSeq, Tw.e_kiRng, Tw.e_kiZip, Tw.e_kmake, Tw.e_kfset, Tw.e_kchRT, Tw.e_kchain2, Tw.e_kchain, Tw.e_ksl, Tw.e_ksl2, Tw.e_ksl3, Tw.e_ksPar, Tw.e_ksPar2, Tw.e_ksAug, Tw.e_ksAug2, Tw.e_kcp3, Tw.e_kcomp, Tw.e_kcomp2, Tw.e_coR, Tw.e_kco2, Tw.e_kco, Tw.e_co, Tw.e_callR, Tw.e_call, Tw.e_io0, Tw.e_io1, Tw.e_io1R, Tw.e_itR, Tw.e_iSeq, Tw.e_rgR, Tw.e_iRng, Tw.e_zpR, Tw.e_iZip, Tw.e_comp, Tw.e_comp2, Tw.e_wipe0, Tw.e_wipe1, Tw.e_bTp, Tw.e_bNil, Tw.e_bCons, Tw.e_mkR, Tw.e_make, Tw.e_fset, Tw.e_fsR, Tw.e_oo, Tw.e_ooR, Tw.e_coR2, Tw.tru_non, Tw.tru_bl, Tw.tru_int, Tw.tru_tup, Tw.tru_lst, Tw.asI_int, Tw.ints_nil, Tw.ints_cons, Tw.items_lst, Tw.items_tup, Tw.seqK_lst, Tw.seqK_tup, Tw.isN_int, Tw.isN_non, Tw.isN_tup, Tw.notN_int, Tw.notN_non, Tw.notN_tup, Tw.mul_int, Tw.add_int, Tw.sub_int, Tw.fdiv_int, Tw.mod_int, Tw.pow_int, Tw.lt_int, Tw.le_int, Tw.gt_int, Tw.ge_int, Tw.neg_int, Tw.imul_int, Tw.iadd_int, Tw.len_lst, Tw.len_tup, Tw.ix_lst, Tw.ix_tup, Tw.tuple_lst, Tw.tuple_tup, Tw.list_lst, Tw.list_tup, Tw.abs_int, Tw.intC_int, Tw.intC_bl, Tw.all_lst, Tw.any_lst, Tw.isi_2, Tw.tag_non, Tw.tag_bl, Tw.tag_int, Tw.tag_str, Tw.tag_tup, Tw.tag_lst, Tw.tag_obj, Tw.asT_ty, Tw.asT_cl, Tw.frz_int, Tw.frz_bl, Tw.frz_non, Tw.frz_ty, Tw.frz_cl, Tw.frz_scr, Tw.frz_tup, Tw.frz_lst, Tw.frz_obj, Tw.frzs_nil, Tw.frzs_cons, Tw.ok_int, Tw.ok_bl, Tw.ok_non, Tw.ok_tup, Tw.ok_lst, Tw.ok_obj, Tw.doks_nil, Tw.doks_cons, Tw.sl_scr, Tw.sl_lst, Tw.sl_tup, Tw.rev_lst, Tw.rev_tup, Tw.eq_int, Tw.ne_int, Tw.e_kcpB, Tw.e_cpB, Tw.e_compB, Tw.e_fgN, Tw.e_fgC, Tw.e_fgB, Tw.e_fgRt, Tw.e_fgR, Tw.e_for0, Tw.e_for1, Tw.e_cgF, Tw.e_cgT, Tw.e_cgR, Tw.e_neo, Tw.e_cg0, Tw.e_cg1, Tw.e_c2A, Tw.e_c2I, Tw.e_c2T, Tw.e_c2R, Tw.e_c20, Tw.e_c21, Tw.at5_0, Tw.at5_1, Tw.at5_2, Tw.at5_3, Tw.at5_4, Tw.ix5_1, Tw.ix5_2, Tw.ix5_3, Tw.ix5_4, Tw.ints_map, Tw.add_tup, Tw.add_lst, Tw.oks_rows, Tw.frzs_rows, Tw.rows_len, Tw.oks_int, Tw.frzs_int, Tw.oks_tI, Tw.ok_tI, Tw.frz_tI, Tw.e_bok, Tw.e_sbok, List.map_cons, List.map_nil, List.length_cons, List.length_nil, List.cons_append, List.nil_append, List.replicate, List.getElem?_cons_zero, List.getElem?_cons_succ, List.set_cons_zero, List.set_cons_succ, Option.bind_some, Option.map_some, Nat.zero_add, Nat.add_zero, Nat.reduceAdd, Nat.reduceSub, Nat.reduceLT, Nat.reduceLeDiff, Bool.and_true, Bool.true_and, Bool.and_self, Bool.not_true, Bool.not_false, Bool.false_and, Bool.and_false, Bool.or_true, Bool.true_or, Bool.or_false, Bool.false_or, if_true, if_false, Bool.false_eq_true, reduceCtorEq, ite_true, ite_false, decide_true, decide_false, decide_eq_true_eq, ne_eq, Int.reduceEq, not_false_eq_true, not_true_eq_false, List.length_map, Option.map_none, Int.reduceNeg, and_self]
  rw [key, List.nil_append]
  congr 1
  induction List.range 8 with
  | nil => rfl
  | cons a l ih =>
    rw [List.flatMap_cons, ih, List.filter_cons]
    by_cases c : (a : Int) ∈ an
    · rw [if_pos c, if_pos (decide_eq_true c)]; rfl
    · rw [if_neg c, if_neg (by simpa using c)]; rfl
theorem turn_ok {A : D} {hd : D} (hh : Hand hd) (x : D) (y2 y3 y4 y5 y6 y7 y8 y9 y10 y11 : Option D) : ∃ hd' z2 z3 z4 z5 z6 z7 z8 z9 z10 z11, Hand hd' ∧ ∀ ds, forGo (bNm 2) (sSeq (sAsg (bNm 3) (fCall [0] h__law_sizes [(.slot 1), (.val (fK (.int 6))), (.val (fK (.int 300)))])) (sSeq (sIf (bNot (bE (fCall [] h__law_listed_right [(.val (fVar 3))]))) (sSeq (sRet (fK (.bl false))) sNil) sNil) (sSeq (sFor (iSeq (fCall [] h__law_lots [(.val (fN gLen [(.val (fVar 3))]))])) (bNm 4) (sSeq (sAsg (bNm 10) (fCall [] h__law_joints [(.val (fVar 3)), (.val (fVar 4))])) (sSeq (sAsg (bNm 11) (fCall [] h_joints [(.val (fVar 3)), (.val (fVar 4))])) (sSeq (sIf (bOr (bNot (bE (fN (gIsi isa) [(.slot 11), (.val (fK (.ty "list")))]))) (bOr (bE (fN gNe [(.slot 11), (.val (fVar 10))])) (bNot (bE (fN gAll [(.val (fCompB [12] 11 (bNm 12) bTrue (fN (gIsi isa) [(.val (fVar 12)), (.val (fK (.ty "tuple")))])))]))))) (sSeq (sRet (fK (.bl false))) sNil) sNil) (sSeq (sExpr (fMt0 11 gPop)) (sSeq (sIf (bE (fN gNe [(.val (fCall [] h_joints [(.val (fVar 3)), (.val (fVar 4))])), (.val (fVar 10))])) (sSeq (sRet (fK (.bl false))) sNil) sNil) sNil)))))) (sSeq (sAsg (bNm 5) (fCall [] h__law_all [(.val (fVar 3))])) (sSeq (sAsg (bNm 6) (fCall [0] h__law_any [(.slot 1), (.val (fLst [(fK (.int 1)), (fK (.int 2)), (fK (.int 3)), (fK (.int 8))]))])) (sSeq (sAsg (bNm 7) (fN gTuple [(.val (fComp [12] (iSeq (fVar 5)) (bNm 12) bTrue (fCall [0] h__law_draw [(.slot 1), (.val (fVar 6))])))])) (sSeq (sAsg (bNm 8) (fMake 0 h_Question_init [(fVar 3), (fVar 7)])) (sSeq (sIf (bOr (bE (fN gNe [(.val (fN (gFld own_sizes "sizes") [(.val (fVar 8))])), (.val (fVar 3))])) (bOr (bE (fN gNe [(.val (fN (gFld own_answers "answers") [(.val (fVar 8))])), (.val (fVar 7))])) (bE (fCmpO true 0 h_Question_eq (fVar 8) (fMake 0 h_Question_init [(fVar 3), (fVar 7)]))))) (sSeq (sRet (fK (.bl false))) sNil) sNil) (sSeq (sFor (iRng [(fN gLen [(.val (fVar 5))])]) (bNm 9) (sSeq (sIf (bE (fN gNe [(.val (fCall [] h_answer [(.val (fVar 8)), (.val (fN gIx [(.val (fVar 5)), (.val (fVar 9))]))])), (.val (fN gIx [(.val (fVar 7)), (.val (fVar 9))]))])) (sSeq (sRet (fK (.bl false))) sNil) sNil) sNil)) (sSeq (sIf (bE (fN gNe [(.val (fCall [] h_many_answers [(.val (fVar 8))])), (.val (fN gLen [(.val (fComp [12] (iRng [(fK (.int 8))]) (bNm 12) (bE (fN gIn [(.val (fVar 12)), (.val (fVar 7))])) (fVar 12)))]))])) (sSeq (sRet (fK (.bl false))) sNil) sNil) sNil)))))))))) (x :: ds) [some A, some hd, y2, y3, y4, y5, y6, y7, y8, y9, y10, y11, none] = forGo (bNm 2) (sSeq (sAsg (bNm 3) (fCall [0] h__law_sizes [(.slot 1), (.val (fK (.int 6))), (.val (fK (.int 300)))])) (sSeq (sIf (bNot (bE (fCall [] h__law_listed_right [(.val (fVar 3))]))) (sSeq (sRet (fK (.bl false))) sNil) sNil) (sSeq (sFor (iSeq (fCall [] h__law_lots [(.val (fN gLen [(.val (fVar 3))]))])) (bNm 4) (sSeq (sAsg (bNm 10) (fCall [] h__law_joints [(.val (fVar 3)), (.val (fVar 4))])) (sSeq (sAsg (bNm 11) (fCall [] h_joints [(.val (fVar 3)), (.val (fVar 4))])) (sSeq (sIf (bOr (bNot (bE (fN (gIsi isa) [(.slot 11), (.val (fK (.ty "list")))]))) (bOr (bE (fN gNe [(.slot 11), (.val (fVar 10))])) (bNot (bE (fN gAll [(.val (fCompB [12] 11 (bNm 12) bTrue (fN (gIsi isa) [(.val (fVar 12)), (.val (fK (.ty "tuple")))])))]))))) (sSeq (sRet (fK (.bl false))) sNil) sNil) (sSeq (sExpr (fMt0 11 gPop)) (sSeq (sIf (bE (fN gNe [(.val (fCall [] h_joints [(.val (fVar 3)), (.val (fVar 4))])), (.val (fVar 10))])) (sSeq (sRet (fK (.bl false))) sNil) sNil) sNil)))))) (sSeq (sAsg (bNm 5) (fCall [] h__law_all [(.val (fVar 3))])) (sSeq (sAsg (bNm 6) (fCall [0] h__law_any [(.slot 1), (.val (fLst [(fK (.int 1)), (fK (.int 2)), (fK (.int 3)), (fK (.int 8))]))])) (sSeq (sAsg (bNm 7) (fN gTuple [(.val (fComp [12] (iSeq (fVar 5)) (bNm 12) bTrue (fCall [0] h__law_draw [(.slot 1), (.val (fVar 6))])))])) (sSeq (sAsg (bNm 8) (fMake 0 h_Question_init [(fVar 3), (fVar 7)])) (sSeq (sIf (bOr (bE (fN gNe [(.val (fN (gFld own_sizes "sizes") [(.val (fVar 8))])), (.val (fVar 3))])) (bOr (bE (fN gNe [(.val (fN (gFld own_answers "answers") [(.val (fVar 8))])), (.val (fVar 7))])) (bE (fCmpO true 0 h_Question_eq (fVar 8) (fMake 0 h_Question_init [(fVar 3), (fVar 7)]))))) (sSeq (sRet (fK (.bl false))) sNil) sNil) (sSeq (sFor (iRng [(fN gLen [(.val (fVar 5))])]) (bNm 9) (sSeq (sIf (bE (fN gNe [(.val (fCall [] h_answer [(.val (fVar 8)), (.val (fN gIx [(.val (fVar 5)), (.val (fVar 9))]))])), (.val (fN gIx [(.val (fVar 7)), (.val (fVar 9))]))])) (sSeq (sRet (fK (.bl false))) sNil) sNil) sNil)) (sSeq (sIf (bE (fN gNe [(.val (fCall [] h_many_answers [(.val (fVar 8))])), (.val (fN gLen [(.val (fComp [12] (iRng [(fK (.int 8))]) (bNm 12) (bE (fN gIn [(.val (fVar 12)), (.val (fVar 7))])) (fVar 12)))]))])) (sSeq (sRet (fK (.bl false))) sNil) sNil) sNil)))))))))) ds [some A, some hd', z2, z3, z4, z5, z6, z7, z8, z9, z10, z11, none] := by
  obtain ⟨sizes, h1, e1, hh1, sz, p300⟩ := lsizes_ok hh
  have e2 := listed_ok sz
  have len6 := sz.2.1
  have e3 := lots_ok len6
  obtain ⟨z4, z10, z11, e4⟩ := lot_loop (A := some A) (hd := some h1) (y2 := some x) (y5 := y5) (y6 := y6) (y7 := y7) (y8 := y8) (y9 := y9) sz (lots sizes.length) (fun l hl => lots_up _ l hl) y4 y10 y11
  obtain ⟨m, e5⟩ := all_ok' (d := .tup (sizes.map .int)) (d0 := .tup (sizes.map .int)) (sizes := sizes) (by rw [frz_tI]) (by rw [Tw.items_tup, oks_int]; rfl) sz.b sz.2.1
  obtain ⟨top, h2, e6, ht, hh2⟩ := any_ok (m := true) (ns := [1, 2, 3, 8]) hh1 (by decide) (by decide)
  have ht2 : 0 < top ∧ top ≤ 8 := by
    simp only [List.mem_cons, List.not_mem_nil, or_false] at ht
    omega
  simp only [List.map_cons, List.map_nil] at e6
  obtain ⟨P, q1, q2⟩ := counted_all sz.pos
  have lenP : (allOf sizes).length = P := by rw [← q2, List.length_map, List.length_range]
  have hP : P ≤ 300 := by rw [q1] at p300; omega
  obtain ⟨an, h3, hh3, lan, van, e7⟩ := some_loop (A := some A) (y2 := some x) (y3 := some (.tup (sizes.map .int))) (y4 := z4) (y5 := some (.lst false (rows (allOf sizes)))) (y7 := y7) (y8 := y8) (y9 := y9) (y10 := z10) (y11 := z11) ht2.1 ht2.2 (rows (allOf sizes)) [] h2 hh2
  rw [List.nil_append, List.map_nil] at e7
  rw [rows_len, lenP] at lan
  have van7 : ∀ a ∈ an, 0 ≤ a ∧ a ≤ 7 := fun a ha => by have := van a ha; omega
  have e8 := init_ok (an := an) sz (by rw [q1, lan]) (by omega) van7
  obtain ⟨z9, e9⟩ := ans_loop (A := some A) (hd := some h3) (y2 := some x) (y4 := z4) (y6 := some (.int top)) (y10 := z10) (y11 := z11) sz q1 q2 lan y9
  have e10 := lenSet_ok (m := false) (sizes := sizes) (an := an) (by omega)
  have e11 := count_ok van7
  have l1 : lenOk (allOf sizes).length = true := lenOk_of (by omega)
  have l2 : lenOk 8 = true := lenOk_of (by omega)
  have hr : rngOf [((allOf sizes).length : Int)] = some (0, P) := by rw [lenP]; exact rngOf_n (by omega)
  refine ⟨h3, some x, some (.tup (sizes.map .int)), z4, some (.lst false (rows (allOf sizes))), some (.int top), some (.tup (an.map .int)), some (qst false sizes an), z9, z10, z11, hh3, fun ds => ?_⟩
  simp only [e1, e2, e3, e4, e5, e6, l1, e7, e8, frz_qst, fld_sizes, fld_answers, ne_ints, tag_qst, eqq_ok, hr, rngD_0, e9, e10, r8, l2, count_comp, List.length_range, e11, Tw.e_run, Tw.e_rtR, Tw.e_rtX, Tw.e_rtN, Tw.e_io_nil, Tw.e_io_one, Tw.e_ioR1, Tw.e_seq, Tw.e_seqN, Tw.e_seqR, Tw.e_seqB, Tw.e_seqC, Tw.e_sNil, Tw.e_sBrk, Tw.e_sCont, Tw.e_sRet, Tw.e_sExpr, Tw.e_sIf, Tw.e_sAsg, Tw.e_nxR, Tw.e_bNm, Tw.e_sPar, Tw.e_sFor, Tw.e_sAug, Tw.e_augR, Tw.e_own, Tw.e_ownR, Tw.e_stR2, Tw.e_sStore, Tw.e_stR, Tw.e_stR3, Tw.e_m1R, Tw.e_m1S, Tw.e_m1T, Tw.e_mt1, Tw.e_m0S, Tw.e_mt0, Tw.e_var, Tw.e_varR, Tw.e_move, Tw.e_moveR, Tw.e_K, Tw.e_nil, Tw.e_val, Tw.e_slot, Tw.e_slotR, Tw.e_gnil, Tw.e_gval, Tw.e_gvR, Tw.e_gslot, Tw.e_gsR, Tw.e_gR, Tw.e_gpR, Tw.e_N, Tw.e_vals0, Tw.e_vals1, Tw.e_tup, Tw.e_lst, Tw.e_and, Tw.e_andT, Tw.e_andF, Tw.e_or, Tw.e_orT, Tw.e_orF, Tw.e_not, Tw.e_notR, Tw.e_bE, Tw.e_bR, Tw.e_bAnd, Tw.e_bOr, Tw.e_bNot, Tw.e_bTrue, Tw.e_if, Tw.e_chR2, Tw.e_chRT, Tw.e_chRF, Tw.e_chain, Tw.e_part0, Tw.e_part, Tw.e_partR, Tw.e_sl, Tw.e_rev, Tw.e_kval, Tw.e_kval2, Tw.e_kN, Tw.e_ktup, Tw.e_klst, Tw.e_kand, Tw.e_kor, Tw.e_knot, Tw.e_kbE, Tw.e_kbAnd, Tw.e_kbOr, Tw.e_kbNot, Tw.e_kif, Tw.e_kpart, Tw.e_krev, Tw.e_kcall, Tw.e_ksRet, Tw.e_ksExpr, Tw.e_ksIf, Tw.e_ksAsg, Tw.e_ksFor, Tw.e_ksStore, Tw.e_kstR, Tw.e_km1T, Tw.e_kiSeq, Tw.e_kiRng, Tw.e_kiZip, Tw.e_kmake, Tw.e_kfset, Tw.e_kchRT, Tw.e_kchain2, Tw.e_kchain, Tw.e_ksl, Tw.e_ksl2, Tw.e_ksl3, Tw.e_ksPar, Tw.e_ksPar2, Tw.e_ksAug, Tw.e_ksAug2, Tw.e_kcp3, Tw.e_kcomp, Tw.e_kcomp2, Tw.e_coR, Tw.e_kco2, Tw.e_kco, Tw.e_co, Tw.e_callR, Tw.e_call, Tw.e_io0, Tw.e_io1, Tw.e_io1R, Tw.e_itR, Tw.e_iSeq, Tw.e_rgR, Tw.e_iRng, Tw.e_zpR, Tw.e_iZip, Tw.e_comp, Tw.e_comp2, Tw.e_wipe0, Tw.e_wipe1, Tw.e_bTp, Tw.e_bNil, Tw.e_bCons, Tw.e_mkR, Tw.e_make, Tw.e_fset, Tw.e_fsR, Tw.e_oo, Tw.e_ooR, Tw.e_coR2, Tw.tru_non, Tw.tru_bl, Tw.tru_int, Tw.tru_tup, Tw.tru_lst, Tw.asI_int, Tw.ints_nil, Tw.ints_cons, Tw.items_lst, Tw.items_tup, Tw.seqK_lst, Tw.seqK_tup, Tw.isN_int, Tw.isN_non, Tw.isN_tup, Tw.notN_int, Tw.notN_non, Tw.notN_tup, Tw.mul_int, Tw.add_int, Tw.sub_int, Tw.fdiv_int, Tw.mod_int, Tw.pow_int, Tw.lt_int, Tw.le_int, Tw.gt_int, Tw.ge_int, Tw.neg_int, Tw.imul_int, Tw.iadd_int, Tw.len_lst, Tw.len_tup, Tw.ix_lst, Tw.ix_tup, Tw.tuple_lst, Tw.tuple_tup, Tw.list_lst, Tw.list_tup, Tw.abs_int, Tw.intC_int, Tw.intC_bl, Tw.all_lst, Tw.any_lst, Tw.isi_2, Tw.tag_non, Tw.tag_bl, Tw.tag_int, Tw.tag_str, Tw.tag_tup, Tw.tag_lst, Tw.tag_obj, Tw.asT_ty, Tw.asT_cl, Tw.frz_int, Tw.frz_bl, Tw.frz_non, Tw.frz_ty, Tw.frz_cl, Tw.frz_scr, Tw.frz_tup, Tw.frz_lst, Tw.frz_obj, Tw.frzs_nil, Tw.frzs_cons, Tw.ok_int, Tw.ok_bl, Tw.ok_non, Tw.ok_tup, Tw.ok_lst, Tw.ok_obj, Tw.doks_nil, Tw.doks_cons, Tw.sl_scr, Tw.sl_lst, Tw.sl_tup, Tw.rev_lst, Tw.rev_tup, Tw.eq_int, Tw.ne_int, Tw.e_kcpB, Tw.e_cpB, Tw.e_compB, Tw.e_fgN, Tw.e_fgC, Tw.e_fgB, Tw.e_fgRt, Tw.e_fgR, Tw.e_for0, Tw.e_for1, Tw.e_cgF, Tw.e_cgT, Tw.e_cgR, Tw.e_neo, Tw.e_cg0, Tw.e_cg1, Tw.e_c2A, Tw.e_c2I, Tw.e_c2T, Tw.e_c2R, Tw.e_c20, Tw.e_c21, Tw.at5_0, Tw.at5_1, Tw.at5_2, Tw.at5_3, Tw.at5_4, Tw.ix5_1, Tw.ix5_2, Tw.ix5_3, Tw.ix5_4, Tw.ints_map, Tw.add_tup, Tw.add_lst, Tw.oks_rows, Tw.frzs_rows, Tw.rows_len, Tw.oks_int, Tw.frzs_int, Tw.oks_tI, Tw.ok_tI, Tw.frz_tI, Tw.e_bok, Tw.e_sbok, List.map_cons, List.map_nil, List.length_cons, List.length_nil, List.cons_append, List.nil_append, List.replicate, List.getElem?_cons_zero, List.getElem?_cons_succ, List.set_cons_zero, List.set_cons_succ, Option.bind_some, Option.map_some, Nat.zero_add, Nat.add_zero, Nat.reduceAdd, Nat.reduceSub, Nat.reduceLT, Nat.reduceLeDiff, Bool.and_true, Bool.true_and, Bool.and_self, Bool.not_true, Bool.not_false, Bool.false_and, Bool.and_false, Bool.or_true, Bool.true_or, Bool.or_false, Bool.false_or, if_true, if_false, Bool.false_eq_true, reduceCtorEq, ite_true, ite_false, decide_true, decide_false, decide_eq_true_eq, ne_eq, Int.reduceEq, not_false_eq_true, not_true_eq_false, List.length_map, Option.map_none, Int.reduceNeg, and_self]
end K01
namespace K01
open PySem PySem.Spec PyProof.Rows L2 Tw
theorem m46 : gMul [.tup [.int 4], .int 6] = some (.tup ([4, 4, 4, 4, 4, 4].map .int)) := by rfl
theorem law_true (ns : List Int) (h : ns.length ≤ 63) : h_law [.scr ns] = .ret (.bl true) [] := by
  obtain ⟨d, e1, hd⟩ := hand_ok h
  obtain ⟨r, d1, e2, _, hd1⟩ := draw_ok (many := 8) hd (by omega) (by omega)
  have e3 := listed_ok (sizes := [4, 4, 4, 4, 4, 4]) ⟨by decide, by decide, by decide⟩
  simp only [List.map_cons, List.map_nil] at e3
  obtain ⟨env', ⟨d2, z2, z3, z4, z5, z6, z7, z8, z9, z10, z11, _, rfl⟩, e4⟩ := for_keep (bd := bNm 2) (body := (sSeq (sAsg (bNm 3) (fCall [0] h__law_sizes [(.slot 1), (.val (fK (.int 6))), (.val (fK (.int 300)))])) (sSeq (sIf (bNot (bE (fCall [] h__law_listed_right [(.val (fVar 3))]))) (sSeq (sRet (fK (.bl false))) sNil) sNil) (sSeq (sFor (iSeq (fCall [] h__law_lots [(.val (fN gLen [(.val (fVar 3))]))])) (bNm 4) (sSeq (sAsg (bNm 10) (fCall [] h__law_joints [(.val (fVar 3)), (.val (fVar 4))])) (sSeq (sAsg (bNm 11) (fCall [] h_joints [(.val (fVar 3)), (.val (fVar 4))])) (sSeq (sIf (bOr (bNot (bE (fN (gIsi isa) [(.slot 11), (.val (fK (.ty "list")))]))) (bOr (bE (fN gNe [(.slot 11), (.val (fVar 10))])) (bNot (bE (fN gAll [(.val (fCompB [12] 11 (bNm 12) bTrue (fN (gIsi isa) [(.val (fVar 12)), (.val (fK (.ty "tuple")))])))]))))) (sSeq (sRet (fK (.bl false))) sNil) sNil) (sSeq (sExpr (fMt0 11 gPop)) (sSeq (sIf (bE (fN gNe [(.val (fCall [] h_joints [(.val (fVar 3)), (.val (fVar 4))])), (.val (fVar 10))])) (sSeq (sRet (fK (.bl false))) sNil) sNil) sNil)))))) (sSeq (sAsg (bNm 5) (fCall [] h__law_all [(.val (fVar 3))])) (sSeq (sAsg (bNm 6) (fCall [0] h__law_any [(.slot 1), (.val (fLst [(fK (.int 1)), (fK (.int 2)), (fK (.int 3)), (fK (.int 8))]))])) (sSeq (sAsg (bNm 7) (fN gTuple [(.val (fComp [12] (iSeq (fVar 5)) (bNm 12) bTrue (fCall [0] h__law_draw [(.slot 1), (.val (fVar 6))])))])) (sSeq (sAsg (bNm 8) (fMake 0 h_Question_init [(fVar 3), (fVar 7)])) (sSeq (sIf (bOr (bE (fN gNe [(.val (fN (gFld own_sizes "sizes") [(.val (fVar 8))])), (.val (fVar 3))])) (bOr (bE (fN gNe [(.val (fN (gFld own_answers "answers") [(.val (fVar 8))])), (.val (fVar 7))])) (bE (fCmpO true 0 h_Question_eq (fVar 8) (fMake 0 h_Question_init [(fVar 3), (fVar 7)]))))) (sSeq (sRet (fK (.bl false))) sNil) sNil) (sSeq (sFor (iRng [(fN gLen [(.val (fVar 5))])]) (bNm 9) (sSeq (sIf (bE (fN gNe [(.val (fCall [] h_answer [(.val (fVar 8)), (.val (fN gIx [(.val (fVar 5)), (.val (fVar 9))]))])), (.val (fN gIx [(.val (fVar 7)), (.val (fVar 9))]))])) (sSeq (sRet (fK (.bl false))) sNil) sNil) sNil)) (sSeq (sIf (bE (fN gNe [(.val (fCall [] h_many_answers [(.val (fVar 8))])), (.val (fN gLen [(.val (fComp [12] (iRng [(fK (.int 8))]) (bNm 12) (bE (fN gIn [(.val (fVar 12)), (.val (fVar 7))])) (fVar 12)))]))])) (sSeq (sRet (fK (.bl false))) sNil) sNil) sNil))))))))))) (g := fun i : Nat => D.int (i : Int))
    (fun env => ∃ hd y2 y3 y4 y5 y6 y7 y8 y9 y10 y11, Hand hd ∧ env = [some (.scr ns), some hd, y2, y3, y4, y5, y6, y7, y8, y9, y10, y11, none]) (List.range 3) [some (.scr ns), some d1, none, none, none, none, none, none, none, none, none, none, none]
    ⟨d1, none, none, none, none, none, none, none, none, none, none, hd1, rfl⟩ (by
      rintro x hx env ⟨hd, y2, y3, y4, y5, y6, y7, y8, y9, y10, y11, hh, rfl⟩
      obtain ⟨hd', z2, z3, z4, z5, z6, z7, z8, z9, z10, z11, hh', e⟩ := turn_ok (A := .scr ns) hh (.int x) y2 y3 y4 y5 y6 y7 y8 y9 y10 y11
      exact ⟨_, ⟨hd', z2, z3, z4, z5, z6, z7, z8, z9, z10, z11, hh', rfl⟩, e⟩)
  by_cases c : r = 0
  · simp only [h_law, b_law, e1, e2, c, m46, e3, r3, rngD_0, e4, Tw.e_run, Tw.e_rtR, Tw.e_rtX, Tw.e_rtN, Tw.e_io_nil, Tw.e_io_one, Tw.e_ioR1, Tw.e_seq, Tw.e_seqN, Tw.e_seqR, Tw.e_seqB, Tw.e_seqC, Tw.e_sNil, Tw.e_sBrk, Tw.e_sCont, Tw.e_sRet, Tw.e_sExpr, Tw.e_sIf, Tw.e_sAsg, Tw.e_nxR, Tw.e_bNm, Tw.e_sPar, Tw.e_sFor, Tw.e_sAug, Tw.e_augR, Tw.e_own, Tw.e_ownR, Tw.e_stR2, Tw.e_sStore, Tw.e_stR, Tw.e_stR3, Tw.e_m1R, Tw.e_m1S, Tw.e_m1T, Tw.e_mt1, Tw.e_m0S, Tw.e_mt0, Tw.e_var, Tw.e_varR, Tw.e_move, Tw.e_moveR, Tw.e_K, Tw.e_nil, Tw.e_val, Tw.e_slot, Tw.e_slotR, Tw.e_gnil, Tw.e_gval, Tw.e_gvR, Tw.e_gslot, Tw.e_gsR, Tw.e_gR, Tw.e_gpR, Tw.e_N, Tw.e_vals0, Tw.e_vals1, Tw.e_tup, Tw.e_lst, Tw.e_and, Tw.e_andT, Tw.e_andF, Tw.e_or, Tw.e_orT, Tw.e_orF, Tw.e_not, Tw.e_notR, Tw.e_bE, Tw.e_bR, Tw.e_bAnd, Tw.e_bOr, Tw.e_bNot, Tw.e_bTrue, Tw.e_if, Tw.e_chR2, Tw.e_chRT, Tw.e_chRF, Tw.e_chain, Tw.e_part0, Tw.e_part, Tw.e_partR, Tw.e_sl, Tw.e_rev, Tw.e_kval, Tw.e_kval2, Tw.e_kN, Tw.e_ktup, Tw.e_klst, Tw.e_kand, Tw.e_kor, Tw.e_knot, Tw.e_kbE, Tw.e_kbAnd, Tw.e_kbOr, Tw.e_kbNot, Tw.e_kif, Tw.e_kpart, Tw.e_krev, Tw.e_kcall, Tw.e_ksRet, Tw.e_ksExpr, Tw.e_ksIf, Tw.e_ksAsg, Tw.e_ksFor, Tw.e_ksStore, Tw.e_kstR, Tw.e_km1T, Tw.e_kiSeq, Tw.e_kiRng, Tw.e_kiZip, Tw.e_kmake, Tw.e_kfset, Tw.e_kchRT, Tw.e_kchain2, Tw.e_kchain, Tw.e_ksl, Tw.e_ksl2, Tw.e_ksl3, Tw.e_ksPar, Tw.e_ksPar2, Tw.e_ksAug, Tw.e_ksAug2, Tw.e_kcp3, Tw.e_kcomp, Tw.e_kcomp2, Tw.e_coR, Tw.e_kco2, Tw.e_kco, Tw.e_co, Tw.e_callR, Tw.e_call, Tw.e_io0, Tw.e_io1, Tw.e_io1R, Tw.e_itR, Tw.e_iSeq, Tw.e_rgR, Tw.e_iRng, Tw.e_zpR, Tw.e_iZip, Tw.e_comp, Tw.e_comp2, Tw.e_wipe0, Tw.e_wipe1, Tw.e_bTp, Tw.e_bNil, Tw.e_bCons, Tw.e_mkR, Tw.e_make, Tw.e_fset, Tw.e_fsR, Tw.e_oo, Tw.e_ooR, Tw.e_coR2, Tw.tru_non, Tw.tru_bl, Tw.tru_int, Tw.tru_tup, Tw.tru_lst, Tw.asI_int, Tw.ints_nil, Tw.ints_cons, Tw.items_lst, Tw.items_tup, Tw.seqK_lst, Tw.seqK_tup, Tw.isN_int, Tw.isN_non, Tw.isN_tup, Tw.notN_int, Tw.notN_non, Tw.notN_tup, Tw.mul_int, Tw.add_int, Tw.sub_int, Tw.fdiv_int, Tw.mod_int, Tw.pow_int, Tw.lt_int, Tw.le_int, Tw.gt_int, Tw.ge_int, Tw.neg_int, Tw.imul_int, Tw.iadd_int, Tw.len_lst, Tw.len_tup, Tw.ix_lst, Tw.ix_tup, Tw.tuple_lst, Tw.tuple_tup, Tw.list_lst, Tw.list_tup, Tw.abs_int, Tw.intC_int, Tw.intC_bl, Tw.all_lst, Tw.any_lst, Tw.isi_2, Tw.tag_non, Tw.tag_bl, Tw.tag_int, Tw.tag_str, Tw.tag_tup, Tw.tag_lst, Tw.tag_obj, Tw.asT_ty, Tw.asT_cl, Tw.frz_int, Tw.frz_bl, Tw.frz_non, Tw.frz_ty, Tw.frz_cl, Tw.frz_scr, Tw.frz_tup, Tw.frz_lst, Tw.frz_obj, Tw.frzs_nil, Tw.frzs_cons, Tw.ok_int, Tw.ok_bl, Tw.ok_non, Tw.ok_tup, Tw.ok_lst, Tw.ok_obj, Tw.doks_nil, Tw.doks_cons, Tw.sl_scr, Tw.sl_lst, Tw.sl_tup, Tw.rev_lst, Tw.rev_tup, Tw.eq_int, Tw.ne_int, Tw.e_kcpB, Tw.e_cpB, Tw.e_compB, Tw.e_fgN, Tw.e_fgC, Tw.e_fgB, Tw.e_fgRt, Tw.e_fgR, Tw.e_for0, Tw.e_for1, Tw.e_cgF, Tw.e_cgT, Tw.e_cgR, Tw.e_neo, Tw.e_cg0, Tw.e_cg1, Tw.e_c2A, Tw.e_c2I, Tw.e_c2T, Tw.e_c2R, Tw.e_c20, Tw.e_c21, Tw.at5_0, Tw.at5_1, Tw.at5_2, Tw.at5_3, Tw.at5_4, Tw.ix5_1, Tw.ix5_2, Tw.ix5_3, Tw.ix5_4, Tw.ints_map, Tw.add_tup, Tw.add_lst, Tw.oks_rows, Tw.frzs_rows, Tw.rows_len, Tw.oks_int, Tw.frzs_int, Tw.oks_tI, Tw.ok_tI, Tw.frz_tI, Tw.e_bok, Tw.e_sbok, List.map_cons, List.map_nil, List.length_cons, List.length_nil, List.cons_append, List.nil_append, List.replicate, List.getElem?_cons_zero, List.getElem?_cons_succ, List.set_cons_zero, List.set_cons_succ, Option.bind_some, Option.map_some, Nat.zero_add, Nat.add_zero, Nat.reduceAdd, Nat.reduceSub, Nat.reduceLT, Nat.reduceLeDiff, Bool.and_true, Bool.true_and, Bool.and_self, Bool.not_true, Bool.not_false, Bool.false_and, Bool.and_false, Bool.or_true, Bool.true_or, Bool.or_false, Bool.false_or, if_true, if_false, Bool.false_eq_true, reduceCtorEq, ite_true, ite_false, decide_true, decide_false, decide_eq_true_eq, ne_eq, Int.reduceEq, not_false_eq_true, not_true_eq_false, List.length_map, Option.map_none, Int.reduceNeg, and_self]
  · simp only [h_law, b_law, e1, e2, c, r3, rngD_0, e4, Tw.e_run, Tw.e_rtR, Tw.e_rtX, Tw.e_rtN, Tw.e_io_nil, Tw.e_io_one, Tw.e_ioR1, Tw.e_seq, Tw.e_seqN, Tw.e_seqR, Tw.e_seqB, Tw.e_seqC, Tw.e_sNil, Tw.e_sBrk, Tw.e_sCont, Tw.e_sRet, Tw.e_sExpr, Tw.e_sIf, Tw.e_sAsg, Tw.e_nxR, Tw.e_bNm, Tw.e_sPar, Tw.e_sFor, Tw.e_sAug, Tw.e_augR, Tw.e_own, Tw.e_ownR, Tw.e_stR2, Tw.e_sStore, Tw.e_stR, Tw.e_stR3, Tw.e_m1R, Tw.e_m1S, Tw.e_m1T, Tw.e_mt1, Tw.e_m0S, Tw.e_mt0, Tw.e_var, Tw.e_varR, Tw.e_move, Tw.e_moveR, Tw.e_K, Tw.e_nil, Tw.e_val, Tw.e_slot, Tw.e_slotR, Tw.e_gnil, Tw.e_gval, Tw.e_gvR, Tw.e_gslot, Tw.e_gsR, Tw.e_gR, Tw.e_gpR, Tw.e_N, Tw.e_vals0, Tw.e_vals1, Tw.e_tup, Tw.e_lst, Tw.e_and, Tw.e_andT, Tw.e_andF, Tw.e_or, Tw.e_orT, Tw.e_orF, Tw.e_not, Tw.e_notR, Tw.e_bE, Tw.e_bR, Tw.e_bAnd, Tw.e_bOr, Tw.e_bNot, Tw.e_bTrue, Tw.e_if, Tw.e_chR2, Tw.e_chRT, Tw.e_chRF, Tw.e_chain, Tw.e_part0, Tw.e_part, Tw.e_partR, Tw.e_sl, Tw.e_rev, Tw.e_kval, Tw.e_kval2, Tw.e_kN, Tw.e_ktup, Tw.e_klst, Tw.e_kand, Tw.e_kor, Tw.e_knot, Tw.e_kbE, Tw.e_kbAnd, Tw.e_kbOr, Tw.e_kbNot, Tw.e_kif, Tw.e_kpart, Tw.e_krev, Tw.e_kcall, Tw.e_ksRet, Tw.e_ksExpr, Tw.e_ksIf, Tw.e_ksAsg, Tw.e_ksFor, Tw.e_ksStore, Tw.e_kstR, Tw.e_km1T, Tw.e_kiSeq, Tw.e_kiRng, Tw.e_kiZip, Tw.e_kmake, Tw.e_kfset, Tw.e_kchRT, Tw.e_kchain2, Tw.e_kchain, Tw.e_ksl, Tw.e_ksl2, Tw.e_ksl3, Tw.e_ksPar, Tw.e_ksPar2, Tw.e_ksAug, Tw.e_ksAug2, Tw.e_kcp3, Tw.e_kcomp, Tw.e_kcomp2, Tw.e_coR, Tw.e_kco2, Tw.e_kco, Tw.e_co, Tw.e_callR, Tw.e_call, Tw.e_io0, Tw.e_io1, Tw.e_io1R, Tw.e_itR, Tw.e_iSeq, Tw.e_rgR, Tw.e_iRng, Tw.e_zpR, Tw.e_iZip, Tw.e_comp, Tw.e_comp2, Tw.e_wipe0, Tw.e_wipe1, Tw.e_bTp, Tw.e_bNil, Tw.e_bCons, Tw.e_mkR, Tw.e_make, Tw.e_fset, Tw.e_fsR, Tw.e_oo, Tw.e_ooR, Tw.e_coR2, Tw.tru_non, Tw.tru_bl, Tw.tru_int, Tw.tru_tup, Tw.tru_lst, Tw.asI_int, Tw.ints_nil, Tw.ints_cons, Tw.items_lst, Tw.items_tup, Tw.seqK_lst, Tw.seqK_tup, Tw.isN_int, Tw.isN_non, Tw.isN_tup, Tw.notN_int, Tw.notN_non, Tw.notN_tup, Tw.mul_int, Tw.add_int, Tw.sub_int, Tw.fdiv_int, Tw.mod_int, Tw.pow_int, Tw.lt_int, Tw.le_int, Tw.gt_int, Tw.ge_int, Tw.neg_int, Tw.imul_int, Tw.iadd_int, Tw.len_lst, Tw.len_tup, Tw.ix_lst, Tw.ix_tup, Tw.tuple_lst, Tw.tuple_tup, Tw.list_lst, Tw.list_tup, Tw.abs_int, Tw.intC_int, Tw.intC_bl, Tw.all_lst, Tw.any_lst, Tw.isi_2, Tw.tag_non, Tw.tag_bl, Tw.tag_int, Tw.tag_str, Tw.tag_tup, Tw.tag_lst, Tw.tag_obj, Tw.asT_ty, Tw.asT_cl, Tw.frz_int, Tw.frz_bl, Tw.frz_non, Tw.frz_ty, Tw.frz_cl, Tw.frz_scr, Tw.frz_tup, Tw.frz_lst, Tw.frz_obj, Tw.frzs_nil, Tw.frzs_cons, Tw.ok_int, Tw.ok_bl, Tw.ok_non, Tw.ok_tup, Tw.ok_lst, Tw.ok_obj, Tw.doks_nil, Tw.doks_cons, Tw.sl_scr, Tw.sl_lst, Tw.sl_tup, Tw.rev_lst, Tw.rev_tup, Tw.eq_int, Tw.ne_int, Tw.e_kcpB, Tw.e_cpB, Tw.e_compB, Tw.e_fgN, Tw.e_fgC, Tw.e_fgB, Tw.e_fgRt, Tw.e_fgR, Tw.e_for0, Tw.e_for1, Tw.e_cgF, Tw.e_cgT, Tw.e_cgR, Tw.e_neo, Tw.e_cg0, Tw.e_cg1, Tw.e_c2A, Tw.e_c2I, Tw.e_c2T, Tw.e_c2R, Tw.e_c20, Tw.e_c21, Tw.at5_0, Tw.at5_1, Tw.at5_2, Tw.at5_3, Tw.at5_4, Tw.ix5_1, Tw.ix5_2, Tw.ix5_3, Tw.ix5_4, Tw.ints_map, Tw.add_tup, Tw.add_lst, Tw.oks_rows, Tw.frzs_rows, Tw.rows_len, Tw.oks_int, Tw.frzs_int, Tw.oks_tI, Tw.ok_tI, Tw.frz_tI, Tw.e_bok, Tw.e_sbok, List.map_cons, List.map_nil, List.length_cons, List.length_nil, List.cons_append, List.nil_append, List.replicate, List.getElem?_cons_zero, List.getElem?_cons_succ, List.set_cons_zero, List.set_cons_succ, Option.bind_some, Option.map_some, Nat.zero_add, Nat.add_zero, Nat.reduceAdd, Nat.reduceSub, Nat.reduceLT, Nat.reduceLeDiff, Bool.and_true, Bool.true_and, Bool.and_self, Bool.not_true, Bool.not_false, Bool.false_and, Bool.and_false, Bool.or_true, Bool.true_or, Bool.or_false, Bool.false_or, if_true, if_false, Bool.false_eq_true, reduceCtorEq, ite_true, ite_false, decide_true, decide_false, decide_eq_true_eq, ne_eq, Int.reduceEq, not_false_eq_true, not_true_eq_false, List.length_map, Option.map_none, Int.reduceNeg, and_self]
end K01
namespace K01
open PySem PySem.Spec PyProof.Rows L2 Tw
theorem all_mk {l : PySem.W.OpenLaw} {w : World} {K : PySem.W.Frag} {h : Heap} {mg : Str → Option Value} {fa : Addr} (X : K.In h) (G : h.Ns mainGlobals mg) (hfa : mg "law" = some (.ref fa))
    {t_LEAST_WORTHS : Tok}
    {t_MOST_ANSWER : Tok}
    {t_MOST_PINS : Tok}
    {t_MOST_WORTHS : Tok}
    {C_Question : Addr}
    {g_is_integer : Addr} {od_is_integer an_is_integer : Option Addr} {sl_is_integer : Array (Option Value)} {oc_is_integer kV_is_integer dc_is_integer pm_is_integer cd_is_integer ct_is_integer : Value}
    {g_is_within : Addr} {od_is_within an_is_within : Option Addr} {sl_is_within : Array (Option Value)} {oc_is_within kV_is_within dc_is_within pm_is_within cd_is_within ct_is_within : Value}
    {g_is_lot : Addr} {od_is_lot an_is_lot : Option Addr} {sl_is_lot : Array (Option Value)} {oc_is_lot kV_is_lot dc_is_lot pm_is_lot cd_is_lot ct_is_lot : Value}
    {g_check_sizes : Addr} {od_check_sizes an_check_sizes : Option Addr} {sl_check_sizes : Array (Option Value)} {oc_check_sizes kV_check_sizes dc_check_sizes pm_check_sizes cd_check_sizes ct_check_sizes : Value}
    {g_tuples_of : Addr} {od_tuples_of an_tuples_of : Option Addr} {sl_tuples_of : Array (Option Value)} {oc_tuples_of kV_tuples_of dc_tuples_of pm_tuples_of cd_tuples_of ct_tuples_of : Value}
    {g_contents : Addr} {od_contents an_contents : Option Addr} {sl_contents : Array (Option Value)} {oc_contents kV_contents dc_contents pm_contents cd_contents ct_contents : Value}
    {g_many_contents : Addr} {od_many_contents an_many_contents : Option Addr} {sl_many_contents : Array (Option Value)} {oc_many_contents kV_many_contents dc_many_contents pm_many_contents cd_many_contents ct_many_contents : Value}
    {g_is_content : Addr} {od_is_content an_is_content : Option Addr} {sl_is_content : Array (Option Value)} {oc_is_content kV_is_content dc_is_content pm_is_content cd_is_content ct_is_content : Value}
    {g_check_content : Addr} {od_check_content an_check_content : Option Addr} {sl_check_content : Array (Option Value)} {oc_check_content kV_check_content dc_check_content pm_check_content cd_check_content ct_check_content : Value}
    {g_number_of : Addr} {od_number_of an_number_of : Option Addr} {sl_number_of : Array (Option Value)} {oc_number_of kV_number_of dc_number_of pm_number_of cd_number_of ct_number_of : Value}
    {g_answer : Addr} {od_answer an_answer : Option Addr} {sl_answer : Array (Option Value)} {oc_answer kV_answer dc_answer pm_answer cd_answer ct_answer : Value}
    {g_many_answers : Addr} {od_many_answers an_many_answers : Option Addr} {sl_many_answers : Array (Option Value)} {oc_many_answers kV_many_answers dc_many_answers pm_many_answers cd_many_answers ct_many_answers : Value}
    {g_singles : Addr} {od_singles an_singles : Option Addr} {sl_singles : Array (Option Value)} {oc_singles kV_singles dc_singles pm_singles cd_singles ct_singles : Value}
    {g_sizes_at : Addr} {od_sizes_at an_sizes_at : Option Addr} {sl_sizes_at : Array (Option Value)} {oc_sizes_at kV_sizes_at dc_sizes_at pm_sizes_at cd_sizes_at ct_sizes_at : Value}
    {g_joints_of : Addr} {od_joints_of an_joints_of : Option Addr} {sl_joints_of : Array (Option Value)} {oc_joints_of kV_joints_of dc_joints_of pm_joints_of cd_joints_of ct_joints_of : Value}
    {g_joints : Addr} {od_joints an_joints : Option Addr} {sl_joints : Array (Option Value)} {oc_joints kV_joints dc_joints pm_joints cd_joints ct_joints : Value}
    {g__law_hand : Addr} {od__law_hand an__law_hand : Option Addr} {sl__law_hand : Array (Option Value)} {oc__law_hand kV__law_hand dc__law_hand pm__law_hand cd__law_hand ct__law_hand : Value}
    {g__law_draw : Addr} {od__law_draw an__law_draw : Option Addr} {sl__law_draw : Array (Option Value)} {oc__law_draw kV__law_draw dc__law_draw pm__law_draw cd__law_draw ct__law_draw : Value}
    {g__law_any : Addr} {od__law_any an__law_any : Option Addr} {sl__law_any : Array (Option Value)} {oc__law_any kV__law_any dc__law_any pm__law_any cd__law_any ct__law_any : Value}
    {g__law_all : Addr} {od__law_all an__law_all : Option Addr} {sl__law_all : Array (Option Value)} {oc__law_all kV__law_all dc__law_all pm__law_all cd__law_all ct__law_all : Value}
    {g__law_sizes : Addr} {od__law_sizes an__law_sizes : Option Addr} {sl__law_sizes : Array (Option Value)} {oc__law_sizes kV__law_sizes dc__law_sizes pm__law_sizes cd__law_sizes ct__law_sizes : Value}
    {g__law_joints : Addr} {od__law_joints an__law_joints : Option Addr} {sl__law_joints : Array (Option Value)} {oc__law_joints kV__law_joints dc__law_joints pm__law_joints cd__law_joints ct__law_joints : Value}
    {g__law_lots : Addr} {od__law_lots an__law_lots : Option Addr} {sl__law_lots : Array (Option Value)} {oc__law_lots kV__law_lots dc__law_lots pm__law_lots cd__law_lots ct__law_lots : Value}
    {g__law_counted : Addr} {od__law_counted an__law_counted : Option Addr} {sl__law_counted : Array (Option Value)} {oc__law_counted kV__law_counted dc__law_counted pm__law_counted cd__law_counted ct__law_counted : Value}
    {g__law_listed_right : Addr} {od__law_listed_right an__law_listed_right : Option Addr} {sl__law_listed_right : Array (Option Value)} {oc__law_listed_right kV__law_listed_right dc__law_listed_right pm__law_listed_right cd__law_listed_right ct__law_listed_right : Value}
    {g_Question_eq : Addr} {od_Question_eq an_Question_eq : Option Addr} {sl_Question_eq : Array (Option Value)} {oc_Question_eq kV_Question_eq dc_Question_eq pm_Question_eq cd_Question_eq ct_Question_eq : Value}
    {qo_Question : Obj} {qn_Question qq_Question : Str} {qN_Question : Addr} {qb_Question qt_Question : List Value} {qs_Question : List Str} {qc_Question : Option Bool} {qd_Question : Option Addr} {q0_Question q1_Question q2_Question q3_Question q5_Question : Option Value}
    {g_Question_init : Addr} {od_Question_init an_Question_init : Option Addr} {sl_Question_init : Array (Option Value)} {oc_Question_init kV_Question_init dc_Question_init pm_Question_init cd_Question_init ct_Question_init : Value}
    {g_law : Addr} {od_law an_law : Option Addr} {sl_law : Array (Option Value)} {oc_law kV_law dc_law pm_law cd_law ct_law : Value}
    (z_abs : PySem.W.nsIn K mainGlobals "abs" = some none)
    (z_all : PySem.W.nsIn K mainGlobals "all" = some none)
    (z_bool : PySem.W.nsIn K mainGlobals "bool" = some none)
    (z_int : PySem.W.nsIn K mainGlobals "int" = some none)
    (z_isinstance : PySem.W.nsIn K mainGlobals "isinstance" = some none)
    (z_len : PySem.W.nsIn K mainGlobals "len" = some none)
    (z_list : PySem.W.nsIn K mainGlobals "list" = some none)
    (z_range : PySem.W.nsIn K mainGlobals "range" = some none)
    (z_set : PySem.W.nsIn K mainGlobals "set" = some none)
    (z_tuple : PySem.W.nsIn K mainGlobals "tuple" = some none)
    (z_zip : PySem.W.nsIn K mainGlobals "zip" = some none)
    (c_LEAST_WORTHS : PySem.W.nsIn K mainGlobals "LEAST_WORTHS" = some (some (.int 2 t_LEAST_WORTHS)))
    (c_MOST_ANSWER : PySem.W.nsIn K mainGlobals "MOST_ANSWER" = some (some (.int 7 t_MOST_ANSWER)))
    (c_MOST_PINS : PySem.W.nsIn K mainGlobals "MOST_PINS" = some (some (.int 6 t_MOST_PINS)))
    (c_MOST_WORTHS : PySem.W.nsIn K mainGlobals "MOST_WORTHS" = some (some (.int 4 t_MOST_WORTHS)))
    (k_Question : PySem.W.nsIn K mainGlobals "Question" = some (some (.ref C_Question)))
    (pg_Question : PySem.W.plainGet K C_Question Str.empty = true)
    (hd_Question : PySem.W.hasDictIn K C_Question = true)
    (po_Question : PySem.W.plainOver K C_Question = true)
    (sa_Question : PySem.W.findIn K (.ref C_Question) "__setattr__" = some (some (.builtin "object.__setattr__")))
    (ha_Question : PySem.W.findIn K (.ref C_Question) "__class__" = some (some (.builtin "object.__class__")))
    (hm_Question : PySem.W.mroIn K C_Question (.type "object") = some true)
    (hn : PySem.W.specialIn K (.builtin "object.__class__") "__get__" = some (some (.builtin "getset_descriptor.__get__")))
    (ht : PySem.W.takesIn K (.builtin "object.__class__") = some true)
    (i0 : PySem.W.kitOne K (.type "int") (.type "int") = some true)
    (i1 : PySem.W.kitOne K (.type "bool") (.type "int") = some true)
    (i2 : PySem.W.kitOne K (.type "str") (.type "int") = some false)
    (i3 : PySem.W.kitOne K (.type "NoneType") (.type "int") = some false)
    (i4 : PySem.W.kitOne K (.type "tuple") (.type "int") = some false)
    (i5 : PySem.W.kitOne K (.type "list") (.type "int") = some false)
    (i6 : PySem.W.kitOne K (.type "dict") (.type "int") = some false)
    (i7 : PySem.W.kitOne K (.ref C_Question) (.type "int") = some false)
    (i8 : PySem.W.kitOne K (.type "int") (.type "bool") = some false)
    (i9 : PySem.W.kitOne K (.type "bool") (.type "bool") = some true)
    (i10 : PySem.W.kitOne K (.type "str") (.type "bool") = some false)
    (i11 : PySem.W.kitOne K (.type "NoneType") (.type "bool") = some false)
    (i12 : PySem.W.kitOne K (.type "tuple") (.type "bool") = some false)
    (i13 : PySem.W.kitOne K (.type "list") (.type "bool") = some false)
    (i14 : PySem.W.kitOne K (.type "dict") (.type "bool") = some false)
    (i15 : PySem.W.kitOne K (.ref C_Question) (.type "bool") = some false)
    (i16 : PySem.W.kitOne K (.type "int") (.type "tuple") = some false)
    (i17 : PySem.W.kitOne K (.type "bool") (.type "tuple") = some false)
    (i18 : PySem.W.kitOne K (.type "str") (.type "tuple") = some false)
    (i19 : PySem.W.kitOne K (.type "NoneType") (.type "tuple") = some false)
    (i20 : PySem.W.kitOne K (.type "tuple") (.type "tuple") = some true)
    (i21 : PySem.W.kitOne K (.type "list") (.type "tuple") = some false)
    (i22 : PySem.W.kitOne K (.type "dict") (.type "tuple") = some false)
    (i23 : PySem.W.kitOne K (.ref C_Question) (.type "tuple") = some false)
    (i24 : PySem.W.kitOne K (.type "int") (.type "list") = some false)
    (i25 : PySem.W.kitOne K (.type "bool") (.type "list") = some false)
    (i26 : PySem.W.kitOne K (.type "str") (.type "list") = some false)
    (i27 : PySem.W.kitOne K (.type "NoneType") (.type "list") = some false)
    (i28 : PySem.W.kitOne K (.type "tuple") (.type "list") = some false)
    (i29 : PySem.W.kitOne K (.type "list") (.type "list") = some true)
    (i30 : PySem.W.kitOne K (.type "dict") (.type "list") = some false)
    (i31 : PySem.W.kitOne K (.ref C_Question) (.type "list") = some false)
    (i32 : PySem.W.kitOne K (.type "int") (.ref C_Question) = some false)
    (i33 : PySem.W.kitOne K (.type "bool") (.ref C_Question) = some false)
    (i34 : PySem.W.kitOne K (.type "str") (.ref C_Question) = some false)
    (i35 : PySem.W.kitOne K (.type "NoneType") (.ref C_Question) = some false)
    (i36 : PySem.W.kitOne K (.type "tuple") (.ref C_Question) = some false)
    (i37 : PySem.W.kitOne K (.type "list") (.ref C_Question) = some false)
    (i38 : PySem.W.kitOne K (.type "dict") (.ref C_Question) = some false)
    (i39 : PySem.W.kitOne K (.ref C_Question) (.ref C_Question) = some true)
    (n_sizes_Question : PySem.W.findIn K (.ref C_Question) "sizes" = some none)
    (n_answers_Question : PySem.W.findIn K (.ref C_Question) "answers" = some none)
    (a_is_integer : PySem.W.nsIn K mainGlobals "is_integer" = some (some (.ref g_is_integer)))
    (l_is_integer : K.lookup g_is_integer = some ⟨oc_is_integer, od_is_integer, .func (PySem.W.fnOf "is_integer" "is_integer" (defArgs s_is_integer) (defBody s_is_integer) (defScope s_is_integer) .none kV_is_integer dc_is_integer pm_is_integer an_is_integer cd_is_integer ct_is_integer), sl_is_integer⟩)
    (c_is_integer : PySem.W.codeIn K cd_is_integer "is_integer" = true)
    (k_is_integer : PySem.W.keepIn K (.ref g_is_integer) = true)
    (a_is_within : PySem.W.nsIn K mainGlobals "is_within" = some (some (.ref g_is_within)))
    (l_is_within : K.lookup g_is_within = some ⟨oc_is_within, od_is_within, .func (PySem.W.fnOf "is_within" "is_within" (defArgs s_is_within) (defBody s_is_within) (defScope s_is_within) .none kV_is_within dc_is_within pm_is_within an_is_within cd_is_within ct_is_within), sl_is_within⟩)
    (c_is_within : PySem.W.codeIn K cd_is_within "is_within" = true)
    (k_is_within : PySem.W.keepIn K (.ref g_is_within) = true)
    (a_is_lot : PySem.W.nsIn K mainGlobals "is_lot" = some (some (.ref g_is_lot)))
    (l_is_lot : K.lookup g_is_lot = some ⟨oc_is_lot, od_is_lot, .func (PySem.W.fnOf "is_lot" "is_lot" (defArgs s_is_lot) (defBody s_is_lot) (defScope s_is_lot) .none kV_is_lot dc_is_lot pm_is_lot an_is_lot cd_is_lot ct_is_lot), sl_is_lot⟩)
    (c_is_lot : PySem.W.codeIn K cd_is_lot "is_lot" = true)
    (k_is_lot : PySem.W.keepIn K (.ref g_is_lot) = true)
    (a_check_sizes : PySem.W.nsIn K mainGlobals "check_sizes" = some (some (.ref g_check_sizes)))
    (l_check_sizes : K.lookup g_check_sizes = some ⟨oc_check_sizes, od_check_sizes, .func (PySem.W.fnOf "check_sizes" "check_sizes" (defArgs s_check_sizes) (defBody s_check_sizes) (defScope s_check_sizes) .none kV_check_sizes dc_check_sizes pm_check_sizes an_check_sizes cd_check_sizes ct_check_sizes), sl_check_sizes⟩)
    (c_check_sizes : PySem.W.codeIn K cd_check_sizes "check_sizes" = true)
    (k_check_sizes : PySem.W.keepIn K (.ref g_check_sizes) = true)
    (a_tuples_of : PySem.W.nsIn K mainGlobals "tuples_of" = some (some (.ref g_tuples_of)))
    (l_tuples_of : K.lookup g_tuples_of = some ⟨oc_tuples_of, od_tuples_of, .func (PySem.W.fnOf "tuples_of" "tuples_of" (defArgs s_tuples_of) (defBody s_tuples_of) (defScope s_tuples_of) .none kV_tuples_of dc_tuples_of pm_tuples_of an_tuples_of cd_tuples_of ct_tuples_of), sl_tuples_of⟩)
    (c_tuples_of : PySem.W.codeIn K cd_tuples_of "tuples_of" = true)
    (k_tuples_of : PySem.W.keepIn K (.ref g_tuples_of) = true)
    (a_contents : PySem.W.nsIn K mainGlobals "contents" = some (some (.ref g_contents)))
    (l_contents : K.lookup g_contents = some ⟨oc_contents, od_contents, .func (PySem.W.fnOf "contents" "contents" (defArgs s_contents) (defBody s_contents) (defScope s_contents) .none kV_contents dc_contents pm_contents an_contents cd_contents ct_contents), sl_contents⟩)
    (c_contents : PySem.W.codeIn K cd_contents "contents" = true)
    (k_contents : PySem.W.keepIn K (.ref g_contents) = true)
    (a_many_contents : PySem.W.nsIn K mainGlobals "many_contents" = some (some (.ref g_many_contents)))
    (l_many_contents : K.lookup g_many_contents = some ⟨oc_many_contents, od_many_contents, .func (PySem.W.fnOf "many_contents" "many_contents" (defArgs s_many_contents) (defBody s_many_contents) (defScope s_many_contents) .none kV_many_contents dc_many_contents pm_many_contents an_many_contents cd_many_contents ct_many_contents), sl_many_contents⟩)
    (c_many_contents : PySem.W.codeIn K cd_many_contents "many_contents" = true)
    (k_many_contents : PySem.W.keepIn K (.ref g_many_contents) = true)
    (a_is_content : PySem.W.nsIn K mainGlobals "is_content" = some (some (.ref g_is_content)))
    (l_is_content : K.lookup g_is_content = some ⟨oc_is_content, od_is_content, .func (PySem.W.fnOf "is_content" "is_content" (defArgs s_is_content) (defBody s_is_content) (defScope s_is_content) .none kV_is_content dc_is_content pm_is_content an_is_content cd_is_content ct_is_content), sl_is_content⟩)
    (c_is_content : PySem.W.codeIn K cd_is_content "is_content" = true)
    (k_is_content : PySem.W.keepIn K (.ref g_is_content) = true)
    (a_check_content : PySem.W.nsIn K mainGlobals "check_content" = some (some (.ref g_check_content)))
    (l_check_content : K.lookup g_check_content = some ⟨oc_check_content, od_check_content, .func (PySem.W.fnOf "check_content" "check_content" (defArgs s_check_content) (defBody s_check_content) (defScope s_check_content) .none kV_check_content dc_check_content pm_check_content an_check_content cd_check_content ct_check_content), sl_check_content⟩)
    (c_check_content : PySem.W.codeIn K cd_check_content "check_content" = true)
    (k_check_content : PySem.W.keepIn K (.ref g_check_content) = true)
    (a_number_of : PySem.W.nsIn K mainGlobals "number_of" = some (some (.ref g_number_of)))
    (l_number_of : K.lookup g_number_of = some ⟨oc_number_of, od_number_of, .func (PySem.W.fnOf "number_of" "number_of" (defArgs s_number_of) (defBody s_number_of) (defScope s_number_of) .none kV_number_of dc_number_of pm_number_of an_number_of cd_number_of ct_number_of), sl_number_of⟩)
    (c_number_of : PySem.W.codeIn K cd_number_of "number_of" = true)
    (k_number_of : PySem.W.keepIn K (.ref g_number_of) = true)
    (a_answer : PySem.W.nsIn K mainGlobals "answer" = some (some (.ref g_answer)))
    (l_answer : K.lookup g_answer = some ⟨oc_answer, od_answer, .func (PySem.W.fnOf "answer" "answer" (defArgs s_answer) (defBody s_answer) (defScope s_answer) .none kV_answer dc_answer pm_answer an_answer cd_answer ct_answer), sl_answer⟩)
    (c_answer : PySem.W.codeIn K cd_answer "answer" = true)
    (k_answer : PySem.W.keepIn K (.ref g_answer) = true)
    (a_many_answers : PySem.W.nsIn K mainGlobals "many_answers" = some (some (.ref g_many_answers)))
    (l_many_answers : K.lookup g_many_answers = some ⟨oc_many_answers, od_many_answers, .func (PySem.W.fnOf "many_answers" "many_answers" (defArgs s_many_answers) (defBody s_many_answers) (defScope s_many_answers) .none kV_many_answers dc_many_answers pm_many_answers an_many_answers cd_many_answers ct_many_answers), sl_many_answers⟩)
    (c_many_answers : PySem.W.codeIn K cd_many_answers "many_answers" = true)
    (k_many_answers : PySem.W.keepIn K (.ref g_many_answers) = true)
    (a_singles : PySem.W.nsIn K mainGlobals "singles" = some (some (.ref g_singles)))
    (l_singles : K.lookup g_singles = some ⟨oc_singles, od_singles, .func (PySem.W.fnOf "singles" "singles" (defArgs s_singles) (defBody s_singles) (defScope s_singles) .none kV_singles dc_singles pm_singles an_singles cd_singles ct_singles), sl_singles⟩)
    (c_singles : PySem.W.codeIn K cd_singles "singles" = true)
    (k_singles : PySem.W.keepIn K (.ref g_singles) = true)
    (a_sizes_at : PySem.W.nsIn K mainGlobals "sizes_at" = some (some (.ref g_sizes_at)))
    (l_sizes_at : K.lookup g_sizes_at = some ⟨oc_sizes_at, od_sizes_at, .func (PySem.W.fnOf "sizes_at" "sizes_at" (defArgs s_sizes_at) (defBody s_sizes_at) (defScope s_sizes_at) .none kV_sizes_at dc_sizes_at pm_sizes_at an_sizes_at cd_sizes_at ct_sizes_at), sl_sizes_at⟩)
    (c_sizes_at : PySem.W.codeIn K cd_sizes_at "sizes_at" = true)
    (k_sizes_at : PySem.W.keepIn K (.ref g_sizes_at) = true)
    (a_joints_of : PySem.W.nsIn K mainGlobals "joints_of" = some (some (.ref g_joints_of)))
    (l_joints_of : K.lookup g_joints_of = some ⟨oc_joints_of, od_joints_of, .func (PySem.W.fnOf "joints_of" "joints_of" (defArgs s_joints_of) (defBody s_joints_of) (defScope s_joints_of) .none kV_joints_of dc_joints_of pm_joints_of an_joints_of cd_joints_of ct_joints_of), sl_joints_of⟩)
    (c_joints_of : PySem.W.codeIn K cd_joints_of "joints_of" = true)
    (k_joints_of : PySem.W.keepIn K (.ref g_joints_of) = true)
    (a_joints : PySem.W.nsIn K mainGlobals "joints" = some (some (.ref g_joints)))
    (l_joints : K.lookup g_joints = some ⟨oc_joints, od_joints, .func (PySem.W.fnOf "joints" "joints" (defArgs s_joints) (defBody s_joints) (defScope s_joints) .none kV_joints dc_joints pm_joints an_joints cd_joints ct_joints), sl_joints⟩)
    (c_joints : PySem.W.codeIn K cd_joints "joints" = true)
    (k_joints : PySem.W.keepIn K (.ref g_joints) = true)
    (a__law_hand : PySem.W.nsIn K mainGlobals "_law_hand" = some (some (.ref g__law_hand)))
    (l__law_hand : K.lookup g__law_hand = some ⟨oc__law_hand, od__law_hand, .func (PySem.W.fnOf "_law_hand" "_law_hand" (defArgs s__law_hand) (defBody s__law_hand) (defScope s__law_hand) .none kV__law_hand dc__law_hand pm__law_hand an__law_hand cd__law_hand ct__law_hand), sl__law_hand⟩)
    (c__law_hand : PySem.W.codeIn K cd__law_hand "_law_hand" = true)
    (k__law_hand : PySem.W.keepIn K (.ref g__law_hand) = true)
    (a__law_draw : PySem.W.nsIn K mainGlobals "_law_draw" = some (some (.ref g__law_draw)))
    (l__law_draw : K.lookup g__law_draw = some ⟨oc__law_draw, od__law_draw, .func (PySem.W.fnOf "_law_draw" "_law_draw" (defArgs s__law_draw) (defBody s__law_draw) (defScope s__law_draw) .none kV__law_draw dc__law_draw pm__law_draw an__law_draw cd__law_draw ct__law_draw), sl__law_draw⟩)
    (c__law_draw : PySem.W.codeIn K cd__law_draw "_law_draw" = true)
    (k__law_draw : PySem.W.keepIn K (.ref g__law_draw) = true)
    (a__law_any : PySem.W.nsIn K mainGlobals "_law_any" = some (some (.ref g__law_any)))
    (l__law_any : K.lookup g__law_any = some ⟨oc__law_any, od__law_any, .func (PySem.W.fnOf "_law_any" "_law_any" (defArgs s__law_any) (defBody s__law_any) (defScope s__law_any) .none kV__law_any dc__law_any pm__law_any an__law_any cd__law_any ct__law_any), sl__law_any⟩)
    (c__law_any : PySem.W.codeIn K cd__law_any "_law_any" = true)
    (k__law_any : PySem.W.keepIn K (.ref g__law_any) = true)
    (a__law_all : PySem.W.nsIn K mainGlobals "_law_all" = some (some (.ref g__law_all)))
    (l__law_all : K.lookup g__law_all = some ⟨oc__law_all, od__law_all, .func (PySem.W.fnOf "_law_all" "_law_all" (defArgs s__law_all) (defBody s__law_all) (defScope s__law_all) .none kV__law_all dc__law_all pm__law_all an__law_all cd__law_all ct__law_all), sl__law_all⟩)
    (c__law_all : PySem.W.codeIn K cd__law_all "_law_all" = true)
    (k__law_all : PySem.W.keepIn K (.ref g__law_all) = true)
    (a__law_sizes : PySem.W.nsIn K mainGlobals "_law_sizes" = some (some (.ref g__law_sizes)))
    (l__law_sizes : K.lookup g__law_sizes = some ⟨oc__law_sizes, od__law_sizes, .func (PySem.W.fnOf "_law_sizes" "_law_sizes" (defArgs s__law_sizes) (defBody s__law_sizes) (defScope s__law_sizes) .none kV__law_sizes dc__law_sizes pm__law_sizes an__law_sizes cd__law_sizes ct__law_sizes), sl__law_sizes⟩)
    (c__law_sizes : PySem.W.codeIn K cd__law_sizes "_law_sizes" = true)
    (k__law_sizes : PySem.W.keepIn K (.ref g__law_sizes) = true)
    (a__law_joints : PySem.W.nsIn K mainGlobals "_law_joints" = some (some (.ref g__law_joints)))
    (l__law_joints : K.lookup g__law_joints = some ⟨oc__law_joints, od__law_joints, .func (PySem.W.fnOf "_law_joints" "_law_joints" (defArgs s__law_joints) (defBody s__law_joints) (defScope s__law_joints) .none kV__law_joints dc__law_joints pm__law_joints an__law_joints cd__law_joints ct__law_joints), sl__law_joints⟩)
    (c__law_joints : PySem.W.codeIn K cd__law_joints "_law_joints" = true)
    (k__law_joints : PySem.W.keepIn K (.ref g__law_joints) = true)
    (a__law_lots : PySem.W.nsIn K mainGlobals "_law_lots" = some (some (.ref g__law_lots)))
    (l__law_lots : K.lookup g__law_lots = some ⟨oc__law_lots, od__law_lots, .func (PySem.W.fnOf "_law_lots" "_law_lots" (defArgs s__law_lots) (defBody s__law_lots) (defScope s__law_lots) .none kV__law_lots dc__law_lots pm__law_lots an__law_lots cd__law_lots ct__law_lots), sl__law_lots⟩)
    (c__law_lots : PySem.W.codeIn K cd__law_lots "_law_lots" = true)
    (k__law_lots : PySem.W.keepIn K (.ref g__law_lots) = true)
    (a__law_counted : PySem.W.nsIn K mainGlobals "_law_counted" = some (some (.ref g__law_counted)))
    (l__law_counted : K.lookup g__law_counted = some ⟨oc__law_counted, od__law_counted, .func (PySem.W.fnOf "_law_counted" "_law_counted" (defArgs s__law_counted) (defBody s__law_counted) (defScope s__law_counted) .none kV__law_counted dc__law_counted pm__law_counted an__law_counted cd__law_counted ct__law_counted), sl__law_counted⟩)
    (c__law_counted : PySem.W.codeIn K cd__law_counted "_law_counted" = true)
    (k__law_counted : PySem.W.keepIn K (.ref g__law_counted) = true)
    (a__law_listed_right : PySem.W.nsIn K mainGlobals "_law_listed_right" = some (some (.ref g__law_listed_right)))
    (l__law_listed_right : K.lookup g__law_listed_right = some ⟨oc__law_listed_right, od__law_listed_right, .func (PySem.W.fnOf "_law_listed_right" "_law_listed_right" (defArgs s__law_listed_right) (defBody s__law_listed_right) (defScope s__law_listed_right) .none kV__law_listed_right dc__law_listed_right pm__law_listed_right an__law_listed_right cd__law_listed_right ct__law_listed_right), sl__law_listed_right⟩)
    (c__law_listed_right : PySem.W.codeIn K cd__law_listed_right "_law_listed_right" = true)
    (k__law_listed_right : PySem.W.keepIn K (.ref g__law_listed_right) = true)
    (a_Question_eq : PySem.W.findIn K (.ref C_Question) "__eq__" = some (some (.ref g_Question_eq)))
    (l_Question_eq : K.lookup g_Question_eq = some ⟨oc_Question_eq, od_Question_eq, .func (PySem.W.fnOf "__eq__" "Question.__eq__" (defArgs s_Question_eq) (defBody s_Question_eq) (defScope s_Question_eq) .none kV_Question_eq dc_Question_eq pm_Question_eq an_Question_eq cd_Question_eq ct_Question_eq), sl_Question_eq⟩)
    (c_Question_eq : PySem.W.codeIn K cd_Question_eq "Question.__eq__" = true)
    (k_Question_eq : PySem.W.keepIn K (.ref g_Question_eq) = true)
    (i_Question_eq : PySem.W.isFn K (.ref g_Question_eq) = true)
    (tf_Question : K.lookup g_Question_eq = some qo_Question)
    (tg_Question : qo_Question.cls = .type "function")
    (xl_Question : K.lookup C_Question = some (excClassObj qn_Question qq_Question C_Question qN_Question qb_Question [.type "object"] true qs_Question qt_Question false qc_Question qd_Question q0_Question q1_Question q2_Question q3_Question q5_Question "object.__new__"))
    (xo_Question : PySem.W.nsOkIn K qN_Question = true)
    (xe_Question : PySem.W.nsIn K qN_Question "__eq__" = some (some (.ref g_Question_eq)))
    (xn_Question : PySem.W.nsIn K qN_Question "__ne__" = some none)
    (a_Question_init : PySem.W.findIn K (.ref C_Question) "__init__" = some (some (.ref g_Question_init)))
    (l_Question_init : K.lookup g_Question_init = some ⟨oc_Question_init, od_Question_init, .func (PySem.W.fnOf "__init__" "Question.__init__" (defArgs s_Question_init) (defBody s_Question_init) (defScope s_Question_init) .none kV_Question_init dc_Question_init pm_Question_init an_Question_init cd_Question_init ct_Question_init), sl_Question_init⟩)
    (c_Question_init : PySem.W.codeIn K cd_Question_init "Question.__init__" = true)
    (k_Question_init : PySem.W.keepIn K (.ref g_Question_init) = true)
    (i_Question_init : PySem.W.isFn K (.ref g_Question_init) = true)
    (mk_Question : PySem.W.makesIn K C_Question = true)
    (kc_Question : PySem.W.keepIn K (.ref C_Question) = true)
    (a_law : PySem.W.nsIn K mainGlobals "law" = some (some (.ref g_law)))
    (l_law : K.lookup g_law = some ⟨oc_law, od_law, .func (PySem.W.fnOf "law" "law" (defArgs s_law) (defBody s_law) (defScope s_law) .none kV_law dc_law pm_law an_law cd_law ct_law), sl_law⟩)
    (c_law : PySem.W.codeIn K cd_law "law" = true)
    (k_law : PySem.W.keepIn K (.ref g_law) = true) :
    ∃ fd : FuncData, (∀ (s : Shared) (v : Value), BindsTo s fd ⟨[v], []⟩ [("script", v)]) ∧ ∀ base : Heap, K.In base → base.Ns mainGlobals mg → FnOk l.prog w K mg base (L2.CX l.prog w) 6 fa fd ["script"] (spD K (clOf K clNs) 1 [] h_law) := by
  have e := hfa.symm.trans (PySem.W.mg_of X G a_law)
  cases e
  have e_Question : clOf K clNs 0 = C_Question := clOf_eq rfl k_Question
  have f_Question : ClsF K (clOf K clNs 0) := by rw [e_Question]; exact ⟨⟨pg_Question, hd_Question, po_Question, sa_Question⟩, ha_Question, hn, ht, hm_Question⟩
  have hI : ∀ z ∈ isaT, PySem.W.kitOne K (tgV (clOf K clNs) z.1) (tgV (clOf K clNs) z.2.1) = some z.2.2 := by
    simp only [isaT, List.forall_mem_cons, tgV, e_Question]
    exact ⟨i0, i1, i2, i3, i4, i5, i6, i7, i8, i9, i10, i11, i12, i13, i14, i15, i16, i17, i18, i19, i20, i21, i22, i23, i24, i25, i26, i27, i28, i29, i30, i31, i32, i33, i34, i35, i36, i37, i38, i39,  fun _ z => by cases z⟩
  have hO : ∀ c u b, (Tg.cl c, u, b) ∈ isaT → ClsF K (clOf K clNs c) := by
    intro c u b z
    simp only [isaT, List.mem_cons, Prod.mk.injEq, Tg.cl.injEq, reduceCtorEq, false_and, false_or, List.not_mem_nil, or_false] at z
    rcases z with ⟨rfl, _⟩ | ⟨rfl, _⟩ | ⟨rfl, _⟩ | ⟨rfl, _⟩ | ⟨rfl, _⟩
    · exact f_Question
    · exact f_Question
    · exact f_Question
    · exact f_Question
    · exact f_Question
  have a_sizes : FldOk K (clOf K clNs) own_sizes "sizes" := ⟨fun c z => by
    simp only [own_sizes, Bool.or_eq_true, beq_iff_eq] at z
    rcases z with rfl
    · exact ⟨f_Question, by rw [e_Question]; exact n_sizes_Question⟩⟩
  have a_answers : FldOk K (clOf K clNs) own_answers "answers" := ⟨fun c z => by
    simp only [own_answers, Bool.or_eq_true, beq_iff_eq] at z
    rcases z with rfl
    · exact ⟨f_Question, by rw [e_Question]; exact n_answers_Question⟩⟩
  have F_is_integer := fun_mk (st := s_is_integer) l_is_integer c_is_integer k_is_integer
  have F_is_within := fun_mk (st := s_is_within) l_is_within c_is_within k_is_within
  have F_is_lot := fun_mk (st := s_is_lot) l_is_lot c_is_lot k_is_lot
  have F_check_sizes := fun_mk (st := s_check_sizes) l_check_sizes c_check_sizes k_check_sizes
  have F_tuples_of := fun_mk (st := s_tuples_of) l_tuples_of c_tuples_of k_tuples_of
  have F_contents := fun_mk (st := s_contents) l_contents c_contents k_contents
  have F_many_contents := fun_mk (st := s_many_contents) l_many_contents c_many_contents k_many_contents
  have F_is_content := fun_mk (st := s_is_content) l_is_content c_is_content k_is_content
  have F_check_content := fun_mk (st := s_check_content) l_check_content c_check_content k_check_content
  have F_number_of := fun_mk (st := s_number_of) l_number_of c_number_of k_number_of
  have F_answer := fun_mk (st := s_answer) l_answer c_answer k_answer
  have F_many_answers := fun_mk (st := s_many_answers) l_many_answers c_many_answers k_many_answers
  have F_singles := fun_mk (st := s_singles) l_singles c_singles k_singles
  have F_sizes_at := fun_mk (st := s_sizes_at) l_sizes_at c_sizes_at k_sizes_at
  have F_joints_of := fun_mk (st := s_joints_of) l_joints_of c_joints_of k_joints_of
  have F_joints := fun_mk (st := s_joints) l_joints c_joints k_joints
  have F__law_hand := fun_mk (st := s__law_hand) l__law_hand c__law_hand k__law_hand
  have F__law_draw := fun_mk (st := s__law_draw) l__law_draw c__law_draw k__law_draw
  have F__law_any := fun_mk (st := s__law_any) l__law_any c__law_any k__law_any
  have F__law_all := fun_mk (st := s__law_all) l__law_all c__law_all k__law_all
  have F__law_sizes := fun_mk (st := s__law_sizes) l__law_sizes c__law_sizes k__law_sizes
  have F__law_joints := fun_mk (st := s__law_joints) l__law_joints c__law_joints k__law_joints
  have F__law_lots := fun_mk (st := s__law_lots) l__law_lots c__law_lots k__law_lots
  have F__law_counted := fun_mk (st := s__law_counted) l__law_counted c__law_counted k__law_counted
  have F__law_listed_right := fun_mk (st := s__law_listed_right) l__law_listed_right c__law_listed_right k__law_listed_right
  have F_Question_eq := fun_mk (st := s_Question_eq) l_Question_eq c_Question_eq k_Question_eq
  have F_Question_init := fun_mk (st := s_Question_init) l_Question_init c_Question_init k_Question_init
  have F_law := fun_mk (st := s_law) l_law c_law k_law
  have T : Txt K mg (clOf K clNs) := ⟨PySem.W.mg_none_of X G z_abs,
    PySem.W.mg_none_of X G z_all,
    PySem.W.mg_none_of X G z_bool,
    PySem.W.mg_none_of X G z_int,
    PySem.W.mg_none_of X G z_isinstance,
    PySem.W.mg_none_of X G z_len,
    PySem.W.mg_none_of X G z_list,
    PySem.W.mg_none_of X G z_range,
    PySem.W.mg_none_of X G z_set,
    PySem.W.mg_none_of X G z_tuple,
    PySem.W.mg_none_of X G z_zip,
    ⟨t_LEAST_WORTHS, PySem.W.mg_of X G c_LEAST_WORTHS⟩,
    ⟨t_MOST_ANSWER, PySem.W.mg_of X G c_MOST_ANSWER⟩,
    ⟨t_MOST_PINS, PySem.W.mg_of X G c_MOST_PINS⟩,
    ⟨t_MOST_WORTHS, PySem.W.mg_of X G c_MOST_WORTHS⟩,
    by rw [e_Question]; exact PySem.W.mg_of X G k_Question,
    isaOk_of hI hO,
    a_sizes,
    a_answers,
    ⟨g_is_integer, _, PySem.W.mg_of X G a_is_integer, F_is_integer, (F_is_integer.binds (ps := ["thing"]) fun _ _ _ _ _ _ us hl => match us, hl with | [_], _ => rfl)⟩,
    ⟨g_is_within, _, PySem.W.mg_of X G a_is_within, F_is_within, (F_is_within.binds (ps := ["thing", "least", "most"]) fun _ _ _ _ _ _ us hl => match us, hl with | [_, _, _], _ => rfl)⟩,
    ⟨g_is_lot, _, PySem.W.mg_of X G a_is_lot, F_is_lot, (F_is_lot.binds (ps := ["thing", "many"]) fun _ _ _ _ _ _ us hl => match us, hl with | [_, _], _ => rfl)⟩,
    ⟨g_check_sizes, _, PySem.W.mg_of X G a_check_sizes, F_check_sizes, (F_check_sizes.binds (ps := ["thing"]) fun _ _ _ _ _ _ us hl => match us, hl with | [_], _ => rfl)⟩,
    ⟨g_tuples_of, _, PySem.W.mg_of X G a_tuples_of, F_tuples_of, (F_tuples_of.binds (ps := ["sizes"]) fun _ _ _ _ _ _ us hl => match us, hl with | [_], _ => rfl)⟩,
    ⟨g_contents, _, PySem.W.mg_of X G a_contents, F_contents, (F_contents.binds (ps := ["sizes"]) fun _ _ _ _ _ _ us hl => match us, hl with | [_], _ => rfl)⟩,
    ⟨g_many_contents, _, PySem.W.mg_of X G a_many_contents, F_many_contents, (F_many_contents.binds (ps := ["sizes"]) fun _ _ _ _ _ _ us hl => match us, hl with | [_], _ => rfl)⟩,
    ⟨g_is_content, _, PySem.W.mg_of X G a_is_content, F_is_content, (F_is_content.binds (ps := ["sizes", "thing"]) fun _ _ _ _ _ _ us hl => match us, hl with | [_, _], _ => rfl)⟩,
    ⟨g_check_content, _, PySem.W.mg_of X G a_check_content, F_check_content, (F_check_content.binds (ps := ["sizes", "thing"]) fun _ _ _ _ _ _ us hl => match us, hl with | [_, _], _ => rfl)⟩,
    ⟨g_number_of, _, PySem.W.mg_of X G a_number_of, F_number_of, (F_number_of.binds (ps := ["sizes", "content"]) fun _ _ _ _ _ _ us hl => match us, hl with | [_, _], _ => rfl)⟩,
    ⟨g_answer, _, PySem.W.mg_of X G a_answer, F_answer, (F_answer.binds (ps := ["question", "content"]) fun _ _ _ _ _ _ us hl => match us, hl with | [_, _], _ => rfl)⟩,
    ⟨g_many_answers, _, PySem.W.mg_of X G a_many_answers, F_many_answers, (F_many_answers.binds (ps := ["question"]) fun _ _ _ _ _ _ us hl => match us, hl with | [_], _ => rfl)⟩,
    ⟨g_singles, _, PySem.W.mg_of X G a_singles, F_singles, (F_singles.binds (ps := ["sizes"]) fun _ _ _ _ _ _ us hl => match us, hl with | [_], _ => rfl)⟩,
    ⟨g_sizes_at, _, PySem.W.mg_of X G a_sizes_at, F_sizes_at, (F_sizes_at.binds (ps := ["sizes", "lot"]) fun _ _ _ _ _ _ us hl => match us, hl with | [_, _], _ => rfl)⟩,
    ⟨g_joints_of, _, PySem.W.mg_of X G a_joints_of, F_joints_of, (F_joints_of.binds (ps := ["sizes", "lot"]) fun _ _ _ _ _ _ us hl => match us, hl with | [_, _], _ => rfl)⟩,
    ⟨g_joints, _, PySem.W.mg_of X G a_joints, F_joints, (F_joints.binds (ps := ["sizes", "lot"]) fun _ _ _ _ _ _ us hl => match us, hl with | [_, _], _ => rfl)⟩,
    ⟨g__law_hand, _, PySem.W.mg_of X G a__law_hand, F__law_hand, (F__law_hand.binds (ps := ["script"]) fun _ _ _ _ _ _ us hl => match us, hl with | [_], _ => rfl)⟩,
    ⟨g__law_draw, _, PySem.W.mg_of X G a__law_draw, F__law_draw, (F__law_draw.binds (ps := ["hand", "many"]) fun _ _ _ _ _ _ us hl => match us, hl with | [_, _], _ => rfl)⟩,
    ⟨g__law_any, _, PySem.W.mg_of X G a__law_any, F__law_any, (F__law_any.binds (ps := ["hand", "some"]) fun _ _ _ _ _ _ us hl => match us, hl with | [_, _], _ => rfl)⟩,
    ⟨g__law_all, _, PySem.W.mg_of X G a__law_all, F__law_all, (F__law_all.binds (ps := ["sizes"]) fun _ _ _ _ _ _ us hl => match us, hl with | [_], _ => rfl)⟩,
    ⟨g__law_sizes, _, PySem.W.mg_of X G a__law_sizes, F__law_sizes, (F__law_sizes.binds (ps := ["hand", "most", "bound"]) fun _ _ _ _ _ _ us hl => match us, hl with | [_, _, _], _ => rfl)⟩,
    ⟨g__law_joints, _, PySem.W.mg_of X G a__law_joints, F__law_joints, (F__law_joints.binds (ps := ["sizes", "lot"]) fun _ _ _ _ _ _ us hl => match us, hl with | [_, _], _ => rfl)⟩,
    ⟨g__law_lots, _, PySem.W.mg_of X G a__law_lots, F__law_lots, (F__law_lots.binds (ps := ["many"]) fun _ _ _ _ _ _ us hl => match us, hl with | [_], _ => rfl)⟩,
    ⟨g__law_counted, _, PySem.W.mg_of X G a__law_counted, F__law_counted, (F__law_counted.binds (ps := ["sizes", "number"]) fun _ _ _ _ _ _ us hl => match us, hl with | [_, _], _ => rfl)⟩,
    ⟨g__law_listed_right, _, PySem.W.mg_of X G a__law_listed_right, F__law_listed_right, (F__law_listed_right.binds (ps := ["sizes"]) fun _ _ _ _ _ _ us hl => match us, hl with | [_], _ => rfl)⟩,
    ⟨g_Question_eq, by rw [e_Question]; exact ⟨a_Question_eq, i_Question_eq, ⟨_, tf_Question, tg_Question⟩, ⟨_, _, _, _, _, _, _, _, _, _, _, _, _, xl_Question, xo_Question, xe_Question, xn_Question⟩⟩, _, F_Question_eq, (F_Question_eq.binds (ps := ["self", "other"]) fun _ _ _ _ _ _ us hl => match us, hl with | [_, _], _ => rfl)⟩,
    ⟨g_Question_init, by rw [e_Question]; exact ⟨mk_Question, a_Question_init, i_Question_init, kc_Question⟩, _, F_Question_init, (F_Question_init.binds (ps := ["self", "sizes", "answers"]) fun _ _ _ _ _ _ us hl => match us, hl with | [_, _, _], _ => rfl)⟩⟩
  exact ⟨PySem.W.fnOf "law" "law" (defArgs s_law) (defBody s_law) (defScope s_law) .none kV_law dc_law pm_law an_law cd_law ct_law, fun s v => .of_eq rfl, fun base _ _ => ok_law T F_law⟩
theorem walk {l : PySem.W.OpenLaw} {q : Program} {loose : List Str} {XP : (Str → Option Value) → Heap → Prop} {YP : World → Heap → Prop} {d : DefRec} {K : Params → PySem.W.Frag} (hn : l.most = some 63) (hdf : d.params.defaults = [])
    (hY : ∀ (w : World) (h : Heap), YP w h → (K w.params).In h)
    (F : ∀ (w : World) (mg : Str → Option Value) (fa : Addr) (h : Heap), (K w.params).In h → h.Ns mainGlobals mg → mg d.name = some (.ref fa) →
      ∃ fd : FuncData, (∀ (s : Shared) (u : Value), BindsTo s fd ⟨[u], []⟩ [("script", u)]) ∧ ∀ base : Heap, (K w.params).In base → base.Ns mainGlobals mg → FnOk l.prog w (K w.params) mg base (L2.CX l.prog w) 6 fa fd ["script"] (spD (K w.params) (clOf (K w.params) clNs) 1 [] h_law)) :
    PySem.W.WalkO q loose XP YP l.row.toRowW d [] (fun f vs => PySem.call f vs) :=
  L2.walk_of (n := 63) (k := 6) (x := "script") (CX := fun w => L2.CX l.prog w) (sp := fun w => spD (K w.params) (clOf (K w.params) clNs) 1 [] h_law) hn (by decide) hdf ⟨rfl, by decide, by decide⟩ hY F (fun _ _ a ns hl _ hS => law_sp (law_true ns hl) hS) fun _ _ _ _ _ ⟨_, _, _, _, _, z⟩ => z.2.2.2.2.2.2.2
end K01
open PySem PySem.W PyProof.Rows in
set_option maxRecDepth 100000 in
set_option maxHeartbeats 0 in
theorem PySem.Challenge.cw_twostandings_k01_whole_contents_and_answ_holds : PySem.Challenge.rw_twostandings_k01_whole_contents_and_answ.Holds := by
  w_on; o_law; k_head; (case hw => w_witness2)
  k_fill
  refine K01.walk (l := PySem.Challenge.rw_twostandings_k01_whole_contents_and_answ) rfl rfl (fun w h Y => PySem.W.kIn_of Y) ?F
  case F =>
    intro w mg fa h KX G hmg
    refine' K01.all_mk KX G hmg ?z_abs ?z_all ?z_bool ?z_int ?z_isinstance ?z_len ?z_list ?z_range ?z_set ?z_tuple ?z_zip ?c_LEAST_WORTHS ?c_MOST_ANSWER ?c_MOST_PINS ?c_MOST_WORTHS ?k_Question ?pg_Question ?hd_Question ?po_Question ?sa_Question ?ha_Question ?hm_Question ?hn ?ht ?i0 ?i1 ?i2 ?i3 ?i4 ?i5 ?i6 ?i7 ?i8 ?i9 ?i10 ?i11 ?i12 ?i13 ?i14 ?i15 ?i16 ?i17 ?i18 ?i19 ?i20 ?i21 ?i22 ?i23 ?i24 ?i25 ?i26 ?i27 ?i28 ?i29 ?i30 ?i31 ?i32 ?i33 ?i34 ?i35 ?i36 ?i37 ?i38 ?i39 ?n_sizes_Question ?n_answers_Question ?a_is_integer ?l_is_integer ?c_is_integer ?k_is_integer ?a_is_within ?l_is_within ?c_is_within ?k_is_within ?a_is_lot ?l_is_lot ?c_is_lot ?k_is_lot ?a_check_sizes ?l_check_sizes ?c_check_sizes ?k_check_sizes ?a_tuples_of ?l_tuples_of ?c_tuples_of ?k_tuples_of ?a_contents ?l_contents ?c_contents ?k_contents ?a_many_contents ?l_many_contents ?c_many_contents ?k_many_contents ?a_is_content ?l_is_content ?c_is_content ?k_is_content ?a_check_content ?l_check_content ?c_check_content ?k_check_content ?a_number_of ?l_number_of ?c_number_of ?k_number_of ?a_answer ?l_answer ?c_answer ?k_answer ?a_many_answers ?l_many_answers ?c_many_answers ?k_many_answers ?a_singles ?l_singles ?c_singles ?k_singles ?a_sizes_at ?l_sizes_at ?c_sizes_at ?k_sizes_at ?a_joints_of ?l_joints_of ?c_joints_of ?k_joints_of ?a_joints ?l_joints ?c_joints ?k_joints ?a__law_hand ?l__law_hand ?c__law_hand ?k__law_hand ?a__law_draw ?l__law_draw ?c__law_draw ?k__law_draw ?a__law_any ?l__law_any ?c__law_any ?k__law_any ?a__law_all ?l__law_all ?c__law_all ?k__law_all ?a__law_sizes ?l__law_sizes ?c__law_sizes ?k__law_sizes ?a__law_joints ?l__law_joints ?c__law_joints ?k__law_joints ?a__law_lots ?l__law_lots ?c__law_lots ?k__law_lots ?a__law_counted ?l__law_counted ?c__law_counted ?k__law_counted ?a__law_listed_right ?l__law_listed_right ?c__law_listed_right ?k__law_listed_right ?a_Question_eq ?l_Question_eq ?c_Question_eq ?k_Question_eq ?i_Question_eq ?tf_Question ?tg_Question ?xl_Question ?xo_Question ?xe_Question ?xn_Question ?a_Question_init ?l_Question_init ?c_Question_init ?k_Question_init ?i_Question_init ?mk_Question ?kc_Question ?a_law ?l_law ?c_law ?k_law
    (case z_abs => k_is)
    (case z_all => k_is)
    (case z_bool => k_is)
    (case z_int => k_is)
    (case z_isinstance => k_is)
    (case z_len => k_is)
    (case z_list => k_is)
    (case z_range => k_is)
    (case z_set => k_is)
    (case z_tuple => k_is)
    (case z_zip => k_is)
    (case c_LEAST_WORTHS => k_is)
    (case c_MOST_ANSWER => k_is)
    (case c_MOST_PINS => k_is)
    (case c_MOST_WORTHS => k_is)
    (case k_Question => k_is)
    (case pg_Question => k_is)
    (case hd_Question => k_is)
    (case po_Question => k_is)
    (case sa_Question => k_is)
    (case ha_Question => k_is)
    (case hm_Question => k_is)
    (case hn => k_is)
    (case ht => k_is)
    (case i0 => kit_is)
    (case i1 => kit_is)
    (case i2 => kit_is)
    (case i3 => kit_is)
    (case i4 => kit_is)
    (case i5 => kit_is)
    (case i6 => kit_is)
    (case i7 => kit_is)
    (case i8 => kit_is)
    (case i9 => kit_is)
    (case i10 => kit_is)
    (case i11 => kit_is)
    (case i12 => kit_is)
    (case i13 => kit_is)
    (case i14 => kit_is)
    (case i15 => kit_is)
    (case i16 => kit_is)
    (case i17 => kit_is)
    (case i18 => kit_is)
    (case i19 => kit_is)
    (case i20 => kit_is)
    (case i21 => kit_is)
    (case i22 => kit_is)
    (case i23 => kit_is)
    (case i24 => kit_is)
    (case i25 => kit_is)
    (case i26 => kit_is)
    (case i27 => kit_is)
    (case i28 => kit_is)
    (case i29 => kit_is)
    (case i30 => kit_is)
    (case i31 => kit_is)
    (case i32 => kit_is)
    (case i33 => kit_is)
    (case i34 => kit_is)
    (case i35 => kit_is)
    (case i36 => kit_is)
    (case i37 => kit_is)
    (case i38 => kit_is)
    (case i39 => kit_is)
    (case n_sizes_Question => k_is)
    (case n_answers_Question => k_is)
    (case a_is_integer => k_is)
    (case l_is_integer => k_is)
    (case c_is_integer => k_is)
    (case k_is_integer => k_is)
    (case a_is_within => k_is)
    (case l_is_within => k_is)
    (case c_is_within => k_is)
    (case k_is_within => k_is)
    (case a_is_lot => k_is)
    (case l_is_lot => k_is)
    (case c_is_lot => k_is)
    (case k_is_lot => k_is)
    (case a_check_sizes => k_is)
    (case l_check_sizes => k_is)
    (case c_check_sizes => k_is)
    (case k_check_sizes => k_is)
    (case a_tuples_of => k_is)
    (case l_tuples_of => k_is)
    (case c_tuples_of => k_is)
    (case k_tuples_of => k_is)
    (case a_contents => k_is)
    (case l_contents => k_is)
    (case c_contents => k_is)
    (case k_contents => k_is)
    (case a_many_contents => k_is)
    (case l_many_contents => k_is)
    (case c_many_contents => k_is)
    (case k_many_contents => k_is)
    (case a_is_content => k_is)
    (case l_is_content => k_is)
    (case c_is_content => k_is)
    (case k_is_content => k_is)
    (case a_check_content => k_is)
    (case l_check_content => k_is)
    (case c_check_content => k_is)
    (case k_check_content => k_is)
    (case a_number_of => k_is)
    (case l_number_of => k_is)
    (case c_number_of => k_is)
    (case k_number_of => k_is)
    (case a_answer => k_is)
    (case l_answer => k_is)
    (case c_answer => k_is)
    (case k_answer => k_is)
    (case a_many_answers => k_is)
    (case l_many_answers => k_is)
    (case c_many_answers => k_is)
    (case k_many_answers => k_is)
    (case a_singles => k_is)
    (case l_singles => k_is)
    (case c_singles => k_is)
    (case k_singles => k_is)
    (case a_sizes_at => k_is)
    (case l_sizes_at => k_is)
    (case c_sizes_at => k_is)
    (case k_sizes_at => k_is)
    (case a_joints_of => k_is)
    (case l_joints_of => k_is)
    (case c_joints_of => k_is)
    (case k_joints_of => k_is)
    (case a_joints => k_is)
    (case l_joints => k_is)
    (case c_joints => k_is)
    (case k_joints => k_is)
    (case a__law_hand => k_is)
    (case l__law_hand => k_is)
    (case c__law_hand => k_is)
    (case k__law_hand => k_is)
    (case a__law_draw => k_is)
    (case l__law_draw => k_is)
    (case c__law_draw => k_is)
    (case k__law_draw => k_is)
    (case a__law_any => k_is)
    (case l__law_any => k_is)
    (case c__law_any => k_is)
    (case k__law_any => k_is)
    (case a__law_all => k_is)
    (case l__law_all => k_is)
    (case c__law_all => k_is)
    (case k__law_all => k_is)
    (case a__law_sizes => k_is)
    (case l__law_sizes => k_is)
    (case c__law_sizes => k_is)
    (case k__law_sizes => k_is)
    (case a__law_joints => k_is)
    (case l__law_joints => k_is)
    (case c__law_joints => k_is)
    (case k__law_joints => k_is)
    (case a__law_lots => k_is)
    (case l__law_lots => k_is)
    (case c__law_lots => k_is)
    (case k__law_lots => k_is)
    (case a__law_counted => k_is)
    (case l__law_counted => k_is)
    (case c__law_counted => k_is)
    (case k__law_counted => k_is)
    (case a__law_listed_right => k_is)
    (case l__law_listed_right => k_is)
    (case c__law_listed_right => k_is)
    (case k__law_listed_right => k_is)
    (case a_Question_eq => k_is)
    (case l_Question_eq => k_is)
    (case c_Question_eq => k_is)
    (case k_Question_eq => k_is)
    (case i_Question_eq => k_is)
    (case tf_Question => k_is)
    (case tg_Question => exact rfl)
    (case xl_Question => k_is)
    (case xo_Question => first | exact rfl | kernel_rfl)
    (case xe_Question => k_is)
    (case xn_Question => k_is)
    (case a_Question_init => k_is)
    (case l_Question_init => k_is)
    (case c_Question_init => k_is)
    (case k_Question_init => k_is)
    (case i_Question_init => k_is)
    (case mk_Question => k_is)
    (case kc_Question => k_is)
    (case a_law => k_is)
    (case l_law => k_is)
    (case c_law => k_is)
    (case k_law => k_is)
