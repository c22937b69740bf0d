import PyProof.Rows.All
import Wide.All
import OpenK.AllK
import Wide.FinOn
import HandS.ForMost
import HandS.ForExc
import HandS.CallSlots
import HandS.TupAny
import HandS.TupMul
import HandS.IsInst
import HandS.Deep
import HandS.Style
import HandS.Flow
import HandS.Comp
import HandS.Zip
import KE.GoesZip
import KE.GoesMore
import HandS.Ends
import HandS.SetFor
import HandS.OwnEq
import KE.RegKIsAll
import PyProof.InstNe
import PyProof.P3Eq
import HandS.Conv
import HandS.SortInts
import KE.GoesEnum
import HandS.Iter
import HandS.SortOrd
import KE.DataMinMax
import HandS.SortKw
import HandS.ReCall
import HandS.Strs
import HandS.Dict
import KE.KDictDisplayH
import KE.KDictCopyH
import KE.KDictPairs
import HandS.Keys
import HandS.DictTup
import PySem.Challenge.RW_twostandings_k29_whole_rounds_by_one_con
set_option Elab.async false
set_option linter.all false
set_option maxRecDepth 100000
set_option maxHeartbeats 4000000
namespace Tw
open PySem PySem.Spec PyProof.Rows L2

/-! ## values as data, with what may still be changed marked -/
inductive D where
  | non | bl (b : Bool) | int (i : Int) | str (x : Str) | ty (n : String) | cl (c : Nat)
  | scr (ns : List Int)
  | at (a : Addr)
  | tup (xs : List D) | lst (m : Bool) (xs : List D)
  /-- a pair that a walk over zip or enumerate hands on -/
  | pr (xs : List D)
  /-- a dict whose keys are tuples of whole numbers, read only -/
  | dtt (ks : List (List Int)) (xs : List D)
  | obj (m : Bool) (c : Nat) (ns : List Str) (xs : List D)
  | dct (m : Bool) (ks : List Key) (xs : List D)

abbrev Env := List (Option D)

mutual
def D.frz : D → D
  | .non => .non | .bl b => .bl b | .int i => .int i | .str x => .str x | .ty n => .ty n | .cl c => .cl c | .scr ns => .scr ns | .at a => .at a
  | .tup xs => .tup (D.frzs xs)
  | .pr xs => .pr (D.frzs xs)
  | .dtt ks xs => .dtt ks (D.frzs xs)
  | .lst _ xs => .lst false (D.frzs xs)
  | .obj _ c ns xs => .obj false c ns (D.frzs xs)
  | .dct _ ks xs => .dct false ks (D.frzs xs)
def D.frzs : List D → List D
  | [] => []
  | d :: ds => D.frz d :: D.frzs ds
end
mutual
/-- nothing in it may still be changed -/
def D.ok : D → Bool
  | .non => true | .bl _ => true | .int _ => true | .str _ => true | .ty _ => true | .cl _ => true | .scr _ => true | .at _ => true
  | .tup xs => D.oks xs
  | .pr xs => D.oks xs
  | .dtt _ xs => D.oks xs
  | .lst m xs => !m && D.oks xs
  | .obj m _ _ xs => !m && D.oks xs
  | .dct m _ xs => !m && D.oks xs
def D.oks : List D → Bool
  | [] => true
  | d :: ds => D.ok d && D.oks ds
end
theorem D.oks_iff : ∀ {ds : List D}, D.oks ds = true ↔ ∀ d ∈ ds, D.ok d = true
  | [] => by simp [D.oks]
  | d :: ds => by simp [D.oks, D.oks_iff (ds := ds)]
theorem D.frzs_map : ∀ ds : List D, D.frzs ds = ds.map D.frz
  | [] => rfl
  | d :: ds => by simp [D.frzs, D.frzs_map ds]
mutual
theorem D.frz_ok : ∀ {d : D}, D.ok d = true → D.frz d = d
  | .non, _ => rfl | .bl _, _ => rfl | .int _, _ => rfl | .str _, _ => rfl | .ty _, _ => rfl | .cl _, _ => rfl | .scr _, _ => rfl | .at _, _ => rfl
  | .tup xs, h => by rw [D.frz, D.frzs_ok (ds := xs) (by simpa [D.ok] using h)]
  | .pr xs, h => by rw [D.frz, D.frzs_ok (ds := xs) (by simpa [D.ok] using h)]
  | .dtt _ xs, h => by rw [D.frz, D.frzs_ok (ds := xs) (by simpa [D.ok] using h)]
  | .lst m xs, h => by simp [D.ok] at h; rw [D.frz, D.frzs_ok (ds := xs) h.2, h.1]
  | .obj m _ _ xs, h => by simp [D.ok] at h; rw [D.frz, D.frzs_ok (ds := xs) h.2, h.1]
  | .dct m _ xs, h => by simp [D.ok] at h; rw [D.frz, D.frzs_ok (ds := xs) h.2, h.1]
theorem D.frzs_ok : ∀ {ds : List D}, D.oks ds = true → D.frzs ds = ds
  | [], _ => rfl
  | d :: ds, h => by simp [D.oks] at h; rw [D.frzs, D.frz_ok h.1, D.frzs_ok h.2]
end
mutual
theorem D.ok_frz : ∀ d : D, D.ok (D.frz d) = true
  | .non => rfl | .bl _ => rfl | .int _ => rfl | .str _ => rfl | .ty _ => rfl | .cl _ => rfl | .scr _ => rfl | .at _ => rfl
  | .tup xs => by simp [D.frz, D.ok, D.oks_frzs xs]
  | .pr xs => by simp [D.frz, D.ok, D.oks_frzs xs]
  | .dtt _ xs => by simp [D.frz, D.ok, D.oks_frzs xs]
  | .lst _ xs => by simp [D.frz, D.ok, D.oks_frzs xs]
  | .obj _ _ _ xs => by simp [D.frz, D.ok, D.oks_frzs xs]
  | .dct _ _ xs => by simp [D.frz, D.ok, D.oks_frzs xs]
theorem D.oks_frzs : ∀ ds : List D, D.oks (D.frzs ds) = true
  | [] => rfl
  | d :: ds => by simp [D.frzs, D.oks, D.ok_frz d, D.oks_frzs ds]
end

/-! ## how data lie in the heap; f: the places that may still be changed; M: all such of the whole stack -/
def Ow (m : Bool) (M : Addr → Prop) (a : Addr) (f g : List Addr) : Prop := (m = true ∧ M a ∧ f = a :: g) ∨ (m = false ∧ ¬ M a ∧ f = [] ∧ g = [])
def KTup (K : PySem.W.Frag) (a : Addr) (xs : List V) : Prop := ∃ (o : Obj) (its : Array Value) (n : Nat), K.lookup a = some o ∧ o.cls = .type "tuple" ∧ o.dict = none ∧ o.data = .seq its n ∧ its.size ≤ sizeLine ∧ Vals xs its.toList
/-- a tuple as it is made: no dict hangs on it -/
def tupO (its : List Value) : Obj := { cls := .type "tuple", data := .seq its.toArray }
/-- the abstract thing at a made tuple -/
def tupH (its : List Value) (xs : List V) : HO := .frz (tupO its) (.tup xs)
def FzT (K : PySem.W.Frag) (M : Addr → Prop) (H : Hp) (a : Addr) (xs : List V) : Prop := (∃ its, H a = some (tupH its xs) ∧ ¬ M a) ∨ KTup K a xs
/-- the entry of a dict at a tuple of whole numbers -/
def hashI (ks : List Int) : Int := reduceHash (Builtin.Tuple.tupleHashOf (ks.map hashInt))
def entI (x : List Int × Addr × Value) : DictEntry := ⟨hashI x.1, .ref x.2.1, x.2.2⟩
def RawT (a : Addr) (xs : List (List Int × Addr × Value)) (h : Heap) : Prop := (a == sysModules) = false ∧ ∃ o es ep, h.get? a = some o ∧ o.ExactDict ∧ o.data = .dict es ep ∧ es.toList = xs.map entI ∧ (xs.map (·.1)).Nodup
def DtO (a : Addr) (xs : List (List Int × Addr × Value)) : HO := .ext (RawT a xs)
def FzS (K : PySem.W.Frag) (M : Addr → Prop) (H : Hp) (a : Addr) (xs : List V) : Prop := (Rd H a (.lst xs) ∧ ¬ M a) ∨ ∃ (o : Obj) (its : Array Value) (n : Nat), K.lookup a = some o ∧ o.cls = .type "list" ∧ o.dict = none ∧ o.data = .seq its n ∧ its.size ≤ sizeLine ∧ Vals xs its.toList
theorem FzS.sq {K : PySem.W.Frag} {M : Addr → Prop} {H : Hp} {a : Addr} {xs : List V} (h : FzS K M H a xs) : SqL K H a xs := h.elim (fun z => .inl z.1) .inr
theorem FzT.sq {K : PySem.W.Frag} {M : Addr → Prop} {H : Hp} {a : Addr} {xs : List V} (h : FzT K M H a xs) : SqT K H a xs := h.elim (fun ⟨its, z, _⟩ => .inl (.inr ⟨tupO its, z⟩)) fun ⟨o, its, n, h1, h2, _, h3⟩ => .inr ⟨o, its, n, h1, h2, h3⟩
mutual
def Dat (K : PySem.W.Frag) (cl : Nat → Addr) (M : Addr → Prop) (H : Hp) : D → V → List Addr → Prop
  | .non, v, f => v = .non ∧ f = []
  | .bl b, v, f => v = .bl b ∧ f = []
  | .int i, v, f => v = .int i ∧ f = []
  | .str x, v, f => v = .str x ∧ f = []
  | .ty n, v, f => v = .ty n ∧ f = []
  | .cl c, v, f => v = .ref (cl c) ∧ f = []
  | .at a, v, f => v = .ref a ∧ f = []
  | .scr ns, v, f => f = [] ∧ ∃ a, v = .ref a ∧ FzS K M H a (ns.map V.int)
  | .tup ds, v, f => ∃ a vs, v = .ref a ∧ FzT K M H a vs ∧ Dats K cl M H ds vs f
  | .pr ds, v, f => ∃ a vs, v = .ref a ∧ (H a = some (.tup vs) ∧ ¬ M a) ∧ Dats K cl M H ds vs f
  | .dtt ks ds, v, f => ∃ a vs xs, v = .ref a ∧ (H a = some (DtO a xs) ∧ ¬ M a) ∧ (xs.map (·.1) = ks ∧ (∀ x ∈ xs, FzT K M H x.2.1 (x.1.map V.int)) ∧ Vals vs (xs.map (·.2.2))) ∧ Dats K cl M H ds vs f
  | .lst m ds, v, f => ∃ a vs g, v = .ref a ∧ H a = some (.lst vs) ∧ Dats K cl M H ds vs g ∧ Ow m M a f g
  | .obj m c ns ds, v, f => ∃ a dx vs g, v = .ref a ∧ H a = some (.ins (cl c) dx (ns.zip vs)) ∧ ns.length = vs.length ∧ Dats K cl M H ds vs g ∧ Ow m M a f g
  | .dct m ks ds, v, f => ∃ a vs g, v = .ref a ∧ H a = some (.dK (ks.zip vs)) ∧ ks.length = vs.length ∧ Dats K cl M H ds vs g ∧ Ow m M a f g
def Dats (K : PySem.W.Frag) (cl : Nat → Addr) (M : Addr → Prop) (H : Hp) : List D → List V → List Addr → Prop
  | [], vs, f => vs = [] ∧ f = []
  | d :: ds, vs, f => ∃ v vs' f1 f2, vs = v :: vs' ∧ f = f1 ++ f2 ∧ Dat K cl M H d v f1 ∧ Dats K cl M H ds vs' f2
end
section
variable {K : PySem.W.Frag} {cl : Nat → Addr} {M M' : Addr → Prop} {H H' : Hp}
theorem Ow.tr {m : Bool} {a : Addr} {f g : List Addr} {o : HO} (w : Ow m M a f g) (ha : H a = some o) (hM : ∀ a, M' a → M a ∨ H a = none) (hf : ∀ a ∈ f, M' a) : Ow m M' a f g := by
  rcases w with ⟨e, h, e2⟩ | ⟨e, h, e2, e3⟩
  · exact .inl ⟨e, hf a (by rw [e2]; exact List.mem_cons_self), e2⟩
  · exact .inr ⟨e, (fun z => (hM a z).elim h (fun q => by rw [ha] at q; cases q)), e2, e3⟩
theorem Ow.sub {m : Bool} {a b : Addr} {f g : List Addr} (w : Ow m M a f g) (h : b ∈ g) : b ∈ f := by
  rcases w with ⟨_, _, e2⟩ | ⟨_, _, e2, e3⟩
  · rw [e2]; exact List.mem_cons_of_mem _ h
  · rw [e3] at h; cases h
theorem Ow.self {m : Bool} {a : Addr} {f g : List Addr} (w : Ow m M a f g) (h : M a) : a ∈ f := by
  rcases w with ⟨_, _, e2⟩ | ⟨_, n, _, _⟩
  · rw [e2]; exact List.mem_cons_self
  · exact absurd h n
theorem Ow.frz {m : Bool} {a : Addr} {f g : List Addr} {o : HO} (w : Ow m M a f g) (ha : H a = some o) (hM : ∀ a, M' a → (M a ∧ a ∉ f) ∨ H a = none) : Ow false M' a [] [] :=
  .inr ⟨rfl, (fun z => (hM a z).elim (fun q => q.2 (w.self q.1)) (fun q => by rw [ha] at q; cases q)), rfl, rfl⟩
mutual
theorem dat_tr : ∀ {d : D} {v : V} {f : List Addr}, Dat K cl M H d v f → (∀ a, M' a → M a ∨ H a = none) → (∀ a ∈ f, M' a) → (∀ a o, H a = some o → (M a → a ∈ f) → H' a = some o) → Dat K cl M' H' d v f
  | .non, _, _, h, _, _, _ => h
  | .bl _, _, _, h, _, _, _ => h
  | .int _, _, _, h, _, _, _ => h
  | .str _, _, _, h, _, _, _ => h
  | .ty _, _, _, h, _, _, _ => h
  | .cl _, _, _, h, _, _, _ => h
  | .at _, _, _, h, _, _, _ => h
  | .scr ns, v, f, h, hM, hf, hH => by
    obtain ⟨e, a, e2, s⟩ := h
    refine ⟨e, a, e2, ?_⟩
    rcases s with ⟨s, n⟩ | s
    · have ha : ∃ o, H a = some o := s.elim (fun z => ⟨_, z⟩) fun ⟨o, z⟩ => ⟨_, z⟩
      obtain ⟨o, ha⟩ := ha
      refine .inl ⟨?_, fun z => (hM a z).elim n fun q => by rw [ha] at q; cases q⟩
      rcases s with s | ⟨o, s⟩
      · exact .inl (hH a _ s fun z => absurd z n)
      · exact .inr ⟨o, hH a _ s fun z => absurd z n⟩
    · exact .inr s
  | .tup ds, v, f, h, hM, hf, hH => by
    obtain ⟨a, vs, e, t, hd⟩ := h
    refine ⟨a, vs, e, ?_, dats_tr hd hM hf hH⟩
    rcases t with ⟨its, t, n⟩ | t
    · exact .inl ⟨its, hH a _ t fun z => absurd z n, fun z => (hM a z).elim n fun q => by rw [t] at q; cases q⟩
    · exact .inr t
  | .pr ds, v, f, h, hM, hf, hH => by
    obtain ⟨a, vs, e, ⟨t, n⟩, hd⟩ := h
    exact ⟨a, vs, e, ⟨hH a _ t fun z => absurd z n, fun z => (hM a z).elim n fun q => by rw [t] at q; cases q⟩, dats_tr hd hM hf hH⟩
  | .dtt ks ds, v, f, h, hM, hf, hH => by
    obtain ⟨a, vs, xs, e, ⟨t, n⟩, ⟨k1, k2, k3⟩, hd⟩ := h
    refine ⟨a, vs, xs, e, ⟨hH a _ t fun z => absurd z n, fun z => (hM a z).elim n fun q => by rw [t] at q; cases q⟩, ⟨k1, fun x hx => ?_, k3⟩, dats_tr hd hM hf hH⟩
    rcases k2 x hx with ⟨its, t, n⟩ | t
    · exact .inl ⟨its, hH _ _ t fun z => absurd z n, fun z => (hM _ z).elim n fun q => by rw [t] at q; cases q⟩
    · exact .inr t
  | .lst m ds, v, f, h, hM, hf, hH => by
    obtain ⟨a, vs, g, e, t, hd, w⟩ := h
    exact ⟨a, vs, g, e, hH a _ t w.self, dats_tr hd hM (fun b hb => hf b (w.sub hb)) (fun b o q z => hH b o q fun r => w.sub (z r)), w.tr t hM hf⟩
  | .obj m c ns ds, v, f, h, hM, hf, hH => by
    obtain ⟨a, dx, vs, g, e, t, l, hd, w⟩ := h
    exact ⟨a, dx, vs, g, e, hH a _ t w.self, l, dats_tr hd hM (fun b hb => hf b (w.sub hb)) (fun b o q z => hH b o q fun r => w.sub (z r)), w.tr t hM hf⟩
  | .dct m ks ds, v, f, h, hM, hf, hH => by
    obtain ⟨a, vs, g, e, t, l, hd, w⟩ := h
    exact ⟨a, vs, g, e, hH a _ t w.self, l, dats_tr hd hM (fun b hb => hf b (w.sub hb)) (fun b o q z => hH b o q fun r => w.sub (z r)), w.tr t hM hf⟩
theorem dats_tr : ∀ {ds : List D} {vs : List V} {f : List Addr}, Dats K cl M H ds vs f → (∀ a, M' a → M a ∨ H a = none) → (∀ a ∈ f, M' a) → (∀ a o, H a = some o → (M a → a ∈ f) → H' a = some o) → Dats K cl M' H' ds vs f
  | [], _, _, h, _, _, _ => h
  | d :: ds, vs, f, h, hM, hf, hH => by
    obtain ⟨v, vs', f1, f2, e1, e2, h1, h2⟩ := h
    subst e2
    exact ⟨v, vs', f1, f2, e1, rfl, dat_tr h1 hM (fun b hb => hf b (List.mem_append_left _ hb)) (fun b o q z => hH b o q fun r => List.mem_append_left _ (z r)),
      dats_tr h2 hM (fun b hb => hf b (List.mem_append_right _ hb)) (fun b o q z => hH b o q fun r => List.mem_append_right _ (z r))⟩
end
end
end Tw
namespace Tw
open PySem PySem.Spec PyProof.Rows L2
section
variable {K : PySem.W.Frag} {cl : Nat → Addr} {M M' : Addr → Prop} {H H' : Hp}
mutual
theorem dat_ok : ∀ {d : D} {v : V} {f : List Addr}, Dat K cl M H d v f → D.ok d = true → f = []
  | .non, _, _, h, _ => h.2 | .bl _, _, _, h, _ => h.2 | .int _, _, _, h, _ => h.2 | .str _, _, _, h, _ => h.2 | .ty _, _, _, h, _ => h.2 | .cl _, _, _, h, _ => h.2
  | .scr _, _, _, h, _ => h.1
  | .at _, _, _, h, _ => h.2
  | .tup ds, _, _, h, e => by
    obtain ⟨_, _, _, _, hd⟩ := h
    exact dats_ok hd e
  | .pr ds, _, _, h, e => by
    obtain ⟨_, _, _, _, hd⟩ := h
    exact dats_ok hd e
  | .dtt _ ds, _, _, h, e => by
    obtain ⟨_, _, _, _, _, _, hd⟩ := h
    exact dats_ok hd e
  | .lst m ds, _, _, h, e => by
    obtain ⟨_, _, _, _, _, _, w⟩ := h
    rcases w with ⟨q, _⟩ | ⟨_, _, q, _⟩
    · subst q; simp [D.ok] at e
    · exact q
  | .obj m _ _ ds, _, _, h, e => by
    obtain ⟨_, _, _, _, _, _, _, _, w⟩ := h
    rcases w with ⟨q, _⟩ | ⟨_, _, q, _⟩
    · subst q; simp [D.ok] at e
    · exact q
  | .dct m _ ds, _, _, h, e => by
    obtain ⟨_, _, _, _, _, _, _, w⟩ := h
    rcases w with ⟨q, _⟩ | ⟨_, _, q, _⟩
    · subst q; simp [D.ok] at e
    · exact q
theorem dats_ok : ∀ {ds : List D} {vs : List V} {f : List Addr}, Dats K cl M H ds vs f → D.oks ds = true → f = []
  | [], _, _, h, _ => h.2
  | d :: ds, _, _, h, e => by
    obtain ⟨_, _, f1, f2, _, e2, h1, h2⟩ := h
    simp [D.oks] at e
    rw [e2, dat_ok h1 e.1, dats_ok h2 e.2]
    rfl
end
mutual
theorem dat_frz : ∀ {d : D} {v : V} {f : List Addr}, Dat K cl M H d v f → (∀ a, M' a → (M a ∧ a ∉ f) ∨ H a = none) → Dat K cl M' H (D.frz d) v []
  | .non, _, _, h, _ => ⟨h.1, rfl⟩ | .bl _, _, _, h, _ => ⟨h.1, rfl⟩ | .int _, _, _, h, _ => ⟨h.1, rfl⟩ | .str _, _, _, h, _ => ⟨h.1, rfl⟩ | .ty _, _, _, h, _ => ⟨h.1, rfl⟩ | .cl _, _, _, h, _ => ⟨h.1, rfl⟩
  | .at _, _, _, h, _ => ⟨h.1, rfl⟩
  | .scr ns, v, f, h, hM => by
    have q := dat_tr (M' := fun a => M' a ∧ M a) (H' := H) h (fun a z => .inl z.2) (by rw [h.1]; intro a z; cases z) (fun _ _ z _ => z)
    obtain ⟨e, a, e2, s⟩ := h
    refine ⟨rfl, a, e2, ?_⟩
    rcases s with ⟨s, n⟩ | s
    · refine .inl ⟨s, fun z => (hM a z).elim (fun q => n q.1) fun q => ?_⟩
      rcases s with s | ⟨o, s⟩ <;> (rw [s] at q; cases q)
    · exact .inr s
  | .tup ds, v, f, h, hM => by
    obtain ⟨a, vs, e, t, hd⟩ := h
    refine ⟨a, vs, e, ?_, dats_frz hd hM⟩
    rcases t with ⟨its, t, n⟩ | t
    · exact .inl ⟨its, t, fun z => (hM a z).elim (fun q => n q.1) fun q => by rw [t] at q; cases q⟩
    · exact .inr t
  | .pr ds, v, f, h, hM => by
    obtain ⟨a, vs, e, ⟨t, n⟩, hd⟩ := h
    exact ⟨a, vs, e, ⟨t, fun z => (hM a z).elim (fun q => n q.1) fun q => by rw [t] at q; cases q⟩, dats_frz hd hM⟩
  | .dtt ks ds, v, f, h, hM => by
    obtain ⟨a, vs, xs, e, ⟨t, n⟩, ⟨k1, k2, k3⟩, hd⟩ := h
    refine ⟨a, vs, xs, e, ⟨t, fun z => (hM a z).elim (fun q => n q.1) fun q => by rw [t] at q; cases q⟩, ⟨k1, fun x hx => ?_, k3⟩, dats_frz hd hM⟩
    rcases k2 x hx with ⟨its, t, n⟩ | t
    · exact .inl ⟨its, t, fun z => (hM _ z).elim (fun q => n q.1) fun q => by rw [t] at q; cases q⟩
    · exact .inr t
  | .lst m ds, v, f, h, hM => by
    obtain ⟨a, vs, g, e, t, hd, w⟩ := h
    exact ⟨a, vs, [], e, t, dats_frz hd (fun b z => (hM b z).imp (fun q => ⟨q.1, fun r => q.2 (w.sub r)⟩) id), w.frz t hM⟩
  | .obj m c ns ds, v, f, h, hM => by
    obtain ⟨a, dx, vs, g, e, t, l, hd, w⟩ := h
    exact ⟨a, dx, vs, [], e, t, l, dats_frz hd (fun b z => (hM b z).imp (fun q => ⟨q.1, fun r => q.2 (w.sub r)⟩) id), w.frz t hM⟩
  | .dct m ks ds, v, f, h, hM => by
    obtain ⟨a, vs, g, e, t, l, hd, w⟩ := h
    exact ⟨a, vs, [], e, t, l, dats_frz hd (fun b z => (hM b z).imp (fun q => ⟨q.1, fun r => q.2 (w.sub r)⟩) id), w.frz t hM⟩
theorem dats_frz : ∀ {ds : List D} {vs : List V} {f : List Addr}, Dats K cl M H ds vs f → (∀ a, M' a → (M a ∧ a ∉ f) ∨ H a = none) → Dats K cl M' H (D.frzs ds) vs []
  | [], _, _, h, _ => ⟨h.1, rfl⟩
  | d :: ds, vs, f, h, hM => by
    obtain ⟨v, vs', f1, f2, e1, e2, h1, h2⟩ := h
    subst e2
    exact ⟨v, vs', [], [], e1, rfl, dat_frz h1 (fun b z => (hM b z).imp (fun q => ⟨q.1, fun r => q.2 (List.mem_append_left _ r)⟩) id),
      dats_frz h2 (fun b z => (hM b z).imp (fun q => ⟨q.1, fun r => q.2 (List.mem_append_right _ r)⟩) id)⟩
end
mutual
/-- every place that may still be changed stands in the heap, and is such -/
theorem dat_in : ∀ {d : D} {v : V} {f : List Addr}, Dat K cl M H d v f → ∀ a ∈ f, M a ∧ ∃ o, H a = some o
  | .non, _, _, h => by rw [h.2]; intro a z; cases z
  | .bl _, _, _, h => by rw [h.2]; intro a z; cases z
  | .int _, _, _, h => by rw [h.2]; intro a z; cases z
  | .str _, _, _, h => by rw [h.2]; intro a z; cases z
  | .ty _, _, _, h => by rw [h.2]; intro a z; cases z
  | .cl _, _, _, h => by rw [h.2]; intro a z; cases z
  | .scr _, _, _, h => by rw [h.1]; intro a z; cases z
  | .at _, _, _, h => by rw [h.2]; intro a z; cases z
  | .tup ds, _, _, h => by
    obtain ⟨_, _, _, _, hd⟩ := h
    exact dats_in hd
  | .pr ds, _, _, h => by
    obtain ⟨_, _, _, _, hd⟩ := h
    exact dats_in hd
  | .dtt _ ds, _, _, h => by
    obtain ⟨_, _, _, _, _, _, hd⟩ := h
    exact dats_in hd
  | .lst m ds, _, _, h => by
    obtain ⟨a, _, g, _, t, hd, w⟩ := h
    rcases w with ⟨_, q, e⟩ | ⟨_, _, e, _⟩
    · subst e
      intro b z
      rcases List.mem_cons.mp z with z | z
      · rw [z]; exact ⟨q, _, t⟩
      · exact dats_in hd b z
    · rw [e]; intro a z; cases z
  | .obj m _ _ ds, _, _, h => by
    obtain ⟨a, _, _, g, _, t, _, hd, w⟩ := h
    rcases w with ⟨_, q, e⟩ | ⟨_, _, e, _⟩
    · subst e
      intro b z
      rcases List.mem_cons.mp z with z | z
      · rw [z]; exact ⟨q, _, t⟩
      · exact dats_in hd b z
    · rw [e]; intro a z; cases z
  | .dct m _ ds, _, _, h => by
    obtain ⟨a, _, g, _, t, _, hd, w⟩ := h
    rcases w with ⟨_, q, e⟩ | ⟨_, _, e, _⟩
    · subst e
      intro b z
      rcases List.mem_cons.mp z with z | z
      · rw [z]; exact ⟨q, _, t⟩
      · exact dats_in hd b z
    · rw [e]; intro a z; cases z
theorem dats_in : ∀ {ds : List D} {vs : List V} {f : List Addr}, Dats K cl M H ds vs f → ∀ a ∈ f, M a ∧ ∃ o, H a = some o
  | [], _, _, h => by rw [h.2]; intro a z; cases z
  | d :: ds, _, _, h => by
    obtain ⟨_, _, f1, f2, _, e2, h1, h2⟩ := h
    subst e2
    intro a z
    rcases List.mem_append.mp z with z | z
    · exact dat_in h1 a z
    · exact dats_in h2 a z
end
theorem dats_length : ∀ {ds : List D} {vs : List V} {f : List Addr}, Dats K cl M H ds vs f → vs.length = ds.length
  | [], _, _, h => by rw [h.1]; rfl
  | d :: ds, _, _, h => by
    obtain ⟨_, _, f1, f2, e1, _, _, h2⟩ := h
    rw [e1, List.length_cons, List.length_cons, dats_length h2]
/-- one of some things none of which may be changed -/
theorem dats_get : ∀ {ds : List D} {vs : List V} {i : Nat} {d : D}, Dats K cl M H ds vs [] → ds[i]? = some d → ∃ v, vs[i]? = some v ∧ Dat K cl M H d v []
  | [], _, _, _, _, e => by simp at e
  | d :: ds, _, i, x, h, e => by
    obtain ⟨v, vs', f1, f2, e1, e2, h1, h2⟩ := h
    obtain ⟨rfl, rfl⟩ := List.append_eq_nil_iff.mp e2.symm
    subst e1
    cases i with
    | zero => cases e; exact ⟨v, rfl, h1⟩
    | succ i =>
      obtain ⟨w, q1, q2⟩ := dats_get (i := i) (d := x) h2 (by simpa using e)
      exact ⟨w, by simpa using q1, q2⟩
theorem dats_nil_append : ∀ {ds es : List D} {vs us : List V}, Dats K cl M H ds vs [] → Dats K cl M H es us [] → Dats K cl M H (ds ++ es) (vs ++ us) []
  | [], _, _, _, h, q => by rw [h.1]; exact q
  | d :: ds, es, _, us, h, q => by
    obtain ⟨v, vs', f1, f2, e1, e2, h1, h2⟩ := h
    obtain ⟨rfl, rfl⟩ := List.append_eq_nil_iff.mp e2.symm
    subst e1
    exact ⟨v, vs' ++ us, [], [], rfl, rfl, h1, dats_nil_append h2 q⟩
theorem dats_append : ∀ {ds es : List D} {vs us : List V} {f g : List Addr}, Dats K cl M H ds vs f → Dats K cl M H es us g → Dats K cl M H (ds ++ es) (vs ++ us) (f ++ g)
  | [], _, _, _, _, _, h, q => by rw [h.1, h.2]; exact q
  | d :: ds, es, _, us, _, g, h, q => by
    obtain ⟨v, vs', f1, f2, e1, e2, h1, h2⟩ := h
    subst e1; subst e2
    exact ⟨v, vs' ++ us, f1, f2 ++ g, rfl, by rw [List.append_assoc], h1, dats_append h2 q⟩
theorem dats_take : ∀ {ds : List D} {vs : List V} (n : Nat), Dats K cl M H ds vs [] → Dats K cl M H (ds.take n) (vs.take n) []
  | _, _, 0, _ => ⟨rfl, rfl⟩
  | [], _, n + 1, h => by rw [h.1]; exact ⟨rfl, rfl⟩
  | d :: ds, _, n + 1, h => by
    obtain ⟨v, vs', f1, f2, e1, e2, h1, h2⟩ := h
    obtain ⟨rfl, rfl⟩ := List.append_eq_nil_iff.mp e2.symm
    subst e1
    exact ⟨v, vs'.take n, [], [], rfl, rfl, h1, dats_take n h2⟩
theorem dats_drop : ∀ {ds : List D} {vs : List V} (n : Nat), Dats K cl M H ds vs [] → Dats K cl M H (ds.drop n) (vs.drop n) []
  | _, _, 0, h => h
  | [], _, n + 1, h => by rw [h.1]; exact ⟨rfl, rfl⟩
  | d :: ds, _, n + 1, h => by
    obtain ⟨v, vs', f1, f2, e1, e2, h1, h2⟩ := h
    obtain ⟨rfl, rfl⟩ := List.append_eq_nil_iff.mp e2.symm
    subst e1
    exact dats_drop n h2
end

/-! ## the stack: slots of frames and things held meanwhile -/
def Slots (K : PySem.W.Frag) (cl : Nat → Addr) (M : Addr → Prop) (H : Hp) : Env → L2.St → List Addr → Prop
  | [], xs, f => xs = [] ∧ f = []
  | none :: ds, xs, f => ∃ x xs', xs = x :: xs' ∧ Slots K cl M H ds xs' f
  | some d :: ds, xs, f => ∃ v xs' f1 f2, xs = some v :: xs' ∧ f = f1 ++ f2 ∧ Dat K cl M H d v f1 ∧ Slots K cl M H ds xs' f2
def Rel (K : PySem.W.Frag) (cl : Nat → Addr) (H : Hp) (ds : Env) (xs : L2.St) : Prop := ∃ f, f.Nodup ∧ Slots K cl (· ∈ f) H ds xs f
section
variable {K : PySem.W.Frag} {cl : Nat → Addr} {M M' : Addr → Prop} {H H' : Hp}
theorem slots_len : ∀ {ds : Env} {xs : L2.St} {f : List Addr}, Slots K cl M H ds xs f → xs.length = ds.length
  | [], _, _, h => by rw [h.1]; rfl
  | none :: ds, _, _, h => by
    obtain ⟨x, xs', e, h⟩ := h
    rw [e, List.length_cons, List.length_cons, slots_len h]
  | some d :: ds, _, _, h => by
    obtain ⟨v, xs', f1, f2, e, _, _, h⟩ := h
    rw [e, List.length_cons, List.length_cons, slots_len h]
theorem Rel.len {ds : Env} {xs : L2.St} (h : Rel K cl H ds xs) : xs.length = ds.length := by
  obtain ⟨f, _, h⟩ := h
  exact slots_len h
theorem slots_tr : ∀ {ds : Env} {xs : L2.St} {f : List Addr}, Slots K cl M H ds xs f → (∀ a, M' a → M a ∨ H a = none) → (∀ a ∈ f, M' a) → (∀ a o, H a = some o → (M a → a ∈ f) → H' a = some o) → Slots K cl M' H' ds xs f
  | [], _, _, h, _, _, _ => h
  | none :: ds, _, _, h, hM, hf, hH => by
    obtain ⟨x, xs', e, h⟩ := h
    exact ⟨x, xs', e, slots_tr h hM hf hH⟩
  | some d :: ds, _, _, h, hM, hf, hH => by
    obtain ⟨v, xs', f1, f2, e, e2, h1, h2⟩ := h
    subst e2
    exact ⟨v, xs', f1, f2, e, rfl, dat_tr h1 hM (fun b hb => hf b (List.mem_append_left _ hb)) (fun b o q z => hH b o q fun r => List.mem_append_left _ (z r)),
      slots_tr h2 hM (fun b hb => hf b (List.mem_append_right _ hb)) (fun b o q z => hH b o q fun r => List.mem_append_right _ (z r))⟩
theorem slots_in : ∀ {ds : Env} {xs : L2.St} {f : List Addr}, Slots K cl M H ds xs f → ∀ a ∈ f, M a ∧ ∃ o, H a = some o
  | [], _, _, h => by rw [h.2]; intro a z; cases z
  | none :: ds, _, _, h => by
    obtain ⟨x, xs', e, h⟩ := h
    exact slots_in h
  | some d :: ds, _, _, h => by
    obtain ⟨v, xs', f1, f2, e, e2, h1, h2⟩ := h
    subst e2
    intro a z
    rcases List.mem_append.mp z with z | z
    · exact dat_in h1 a z
    · exact slots_in h2 a z
/-- the heap only grows -/
theorem Rel.same {ds : Env} {xs : L2.St} (h : Rel K cl H ds xs) (s : Same H H') : Rel K cl H' ds xs := by
  obtain ⟨f, n, h⟩ := h
  exact ⟨f, n, slots_tr h (fun a z => .inl z) (fun a z => z) fun a o q _ => s a o q⟩
theorem same_upd {p : Addr} {o : HO} (h : H p = none) : Same H (upd H p o) := fun b x e => by
  rw [upd_ne (ne_of_none e h)]
  exact e
/-- split at a place -/
theorem slots_at : ∀ {ds : Env} {xs : L2.St} {f : List Addr} {i : Nat} {d : D}, Slots K cl M H ds xs f → ds[i]? = some (some d) →
    ∃ v f1 g f2, xs[i]? = some (some v) ∧ f = f1 ++ (g ++ f2) ∧ Dat K cl M H d v g ∧ Slots K cl M H (ds.set i none) xs (f1 ++ f2)
  | [], _, _, _, _, _, e => by simp at e
  | none :: ds, _, f, 0, d, h, e => by simp at e
  | none :: ds, _, f, i + 1, d, h, e => by
    obtain ⟨x, xs', e1, h⟩ := h
    subst e1
    obtain ⟨v, f1, g, f2, q1, q2, q3, q4⟩ := slots_at (i := i) (d := d) h (by simpa using e)
    exact ⟨v, f1, g, f2, by simpa using q1, q2, q3, x, xs', rfl, q4⟩
  | some c :: ds, _, f, 0, d, h, e => by
    obtain ⟨v, xs', f1, f2, e1, e2, h1, h2⟩ := h
    cases e
    subst e1
    exact ⟨v, [], f1, f2, rfl, e2, h1, some v, xs', rfl, h2⟩
  | some c :: ds, _, f, i + 1, d, h, e => by
    obtain ⟨v, xs', f1, f2, e1, e2, h1, h2⟩ := h
    subst e1; subst e2
    obtain ⟨v', g1, g, g2, q1, q2, q3, q4⟩ := slots_at (i := i) (d := d) h2 (by simpa using e)
    exact ⟨v', f1 ++ g1, g, g2, by simpa using q1, by rw [q2, List.append_assoc], q3, v, xs', f1, g1 ++ g2, rfl, by rw [List.append_assoc], h1, q4⟩
/-- put at a place -/
theorem slots_put : ∀ {ds : Env} {xs : L2.St} {f g : List Addr} {i : Nat} {d : D} {v : V}, Slots K cl M H ds xs f → i < ds.length → Dat K cl M H d v g →
    ∃ f1 f2 k, f.Perm (f1 ++ (k ++ f2)) ∧ Slots K cl M H (ds.set i (some d)) (xs.set i (some v)) (f1 ++ (g ++ f2))
  | [], _, _, _, _, _, _, _, l, _ => absurd l (by simp)
  | none :: ds, _, f, g, 0, d, v, h, l, hd => by
    obtain ⟨x, xs', e1, h⟩ := h
    subst e1
    exact ⟨[], f, [], .refl _, v, xs', g, f, rfl, rfl, hd, h⟩
  | some c :: ds, _, f, g, 0, d, v, h, l, hd => by
    obtain ⟨x, xs', f1, f2, e1, e2, h1, h2⟩ := h
    subst e1; subst e2
    exact ⟨[], f2, f1, .refl _, v, xs', g, f2, rfl, rfl, hd, h2⟩
  | none :: ds, _, f, g, i + 1, d, v, h, l, hd => by
    obtain ⟨x, xs', e1, h⟩ := h
    subst e1
    obtain ⟨f1, f2, k, p, q⟩ := slots_put (i := i) h (by simpa using l) hd
    exact ⟨f1, f2, k, p, x, xs'.set i (some v), rfl, q⟩
  | some c :: ds, _, f, g, i + 1, d, v, h, l, hd => by
    obtain ⟨x, xs', f1, f2, e1, e2, h1, h2⟩ := h
    subst e1; subst e2
    obtain ⟨g1, g2, k, p, q⟩ := slots_put (i := i) h2 (by simpa using l) hd
    refine ⟨f1 ++ g1, g2, k, ?_, x, xs'.set i (some v), f1, g1 ++ (g ++ g2), rfl, by rw [List.append_assoc], h1, q⟩
    rw [List.append_assoc]
    exact List.Perm.append_left f1 p
theorem slots_app : ∀ {ds es : Env} {xs ys : L2.St} {f g : List Addr}, Slots K cl M H ds xs f → Slots K cl M H es ys g → Slots K cl M H (ds ++ es) (xs ++ ys) (f ++ g)
  | [], _, _, _, _, _, h, q => by rw [h.1, h.2]; exact q
  | none :: ds, _, _, _, _, _, h, q => by
    obtain ⟨x, xs', e1, h⟩ := h
    subst e1
    exact ⟨x, _, rfl, slots_app h q⟩
  | some c :: ds, _, _, _, _, _, h, q => by
    obtain ⟨x, xs', f1, f2, e1, e2, h1, h2⟩ := h
    subst e1; subst e2
    exact ⟨x, _, f1, _, rfl, by rw [List.append_assoc], h1, slots_app h2 q⟩
theorem slots_split : ∀ {ds es : Env} {zs : L2.St} {f : List Addr}, Slots K cl M H (ds ++ es) zs f → ∃ xs ys g k, zs = xs ++ ys ∧ f = g ++ k ∧ xs.length = ds.length ∧ Slots K cl M H ds xs g ∧ Slots K cl M H es ys k
  | [], es, zs, f, h => ⟨[], zs, [], f, rfl, rfl, rfl, ⟨rfl, rfl⟩, h⟩
  | none :: ds, es, zs, f, h => by
    obtain ⟨x, xs', e1, h⟩ := h
    subst e1
    obtain ⟨xs, ys, g, k, e2, e3, l, h1, h2⟩ := slots_split h
    subst e2
    exact ⟨x :: xs, ys, g, k, rfl, e3, by simp [l], ⟨x, xs, rfl, h1⟩, h2⟩
  | some c :: ds, es, zs, f, h => by
    obtain ⟨x, xs', f1, f2, e1, e2, h1, h⟩ := h
    subst e1; subst e2
    obtain ⟨xs, ys, g, k, e2, e3, l, h2, h3⟩ := slots_split h
    subst e2; subst e3
    exact ⟨some x :: xs, ys, f1 ++ g, k, rfl, by rw [List.append_assoc], by simp [l], ⟨x, xs, f1, g, rfl, rfl, h1, h2⟩, h3⟩
/-- the same stack, its places counted in another order -/
theorem Rel.of_perm {ds : Env} {xs : L2.St} {f g : List Addr} (h : Slots K cl (· ∈ f) H ds xs g) (n : f.Nodup) (p : f.Perm g) : Rel K cl H ds xs :=
  ⟨g, p.nodup_iff.mp n, slots_tr h (fun a z => .inl (p.mem_iff.mpr z)) (fun a z => z) fun a o q _ => q⟩
/-- some of the places are let go -/
theorem Rel.of_sub {ds : Env} {xs : L2.St} {f g : List Addr} (h : Slots K cl (· ∈ f) H ds xs g) (n : g.Nodup) (p : ∀ a ∈ g, a ∈ f) : Rel K cl H ds xs :=
  ⟨g, n, slots_tr h (fun a z => .inl (p a z)) (fun a z => z) fun a o q _ => q⟩
theorem Rel.swap {A B : Env} {X Y : L2.St} (h : Rel K cl H (A ++ B) (X ++ Y)) (l : X.length = A.length) : Rel K cl H (B ++ A) (Y ++ X) := by
  obtain ⟨f, n, h⟩ := h
  obtain ⟨X', Y', g, k, e, e2, l2, h1, h2⟩ := slots_split h
  obtain ⟨rfl, rfl⟩ := List.append_inj e (by omega)
  subst e2
  exact .of_perm (slots_app h2 h1) n List.perm_append_comm
theorem Rel.drop {A B : Env} {X Y : L2.St} (h : Rel K cl H (A ++ B) (X ++ Y)) (l : X.length = A.length) : Rel K cl H B Y := by
  obtain ⟨f, n, h⟩ := h
  obtain ⟨X', Y', g, k, e, e2, l2, h1, h2⟩ := slots_split h
  obtain ⟨rfl, rfl⟩ := List.append_inj e (by omega)
  subst e2
  exact .of_sub h2 (List.nodup_append.mp n).2.1 fun a z => List.mem_append_right _ z
theorem Rel.pop {d : Option D} {x : Option V} {B : Env} {Y : L2.St} (h : Rel K cl H (d :: B) (x :: Y)) : Rel K cl H B Y := Rel.drop (A := [d]) (X := [x]) h rfl
/-- a block moves over another, in front of a rest -/
theorem Rel.swap3 {A B C : Env} {X Y Z : L2.St} (h : Rel K cl H (A ++ (B ++ C)) (X ++ (Y ++ Z))) (l : X.length = A.length) (l2 : Y.length = B.length) : Rel K cl H (B ++ (A ++ C)) (Y ++ (X ++ Z)) := by
  obtain ⟨f, n, h⟩ := h
  obtain ⟨X', Y', g, k, e, e2, l3, h1, h2⟩ := slots_split h
  obtain ⟨rfl, rfl⟩ := List.append_inj e (by omega)
  obtain ⟨X', Y', g', k', e, e3, l4, h3, h4⟩ := slots_split h2
  obtain ⟨rfl, rfl⟩ := List.append_inj e (by omega)
  subst e2; subst e3
  refine .of_perm (slots_app h3 (slots_app h1 h4)) n ?_
  rw [← List.append_assoc, ← List.append_assoc]
  exact List.Perm.append_right _ List.perm_append_comm
/-- a thing that lies nowhere -/
theorem Rel.push {ds : Env} {xs : L2.St} {d : D} {v : V} (h : Rel K cl H ds xs) (q : ∀ M : Addr → Prop, Dat K cl M H d v []) : Rel K cl H (some d :: ds) (some v :: xs) := by
  obtain ⟨f, n, h⟩ := h
  exact ⟨f, n, v, xs, [], f, rfl, rfl, q _, h⟩
/-- take out of a place to the front -/
theorem Rel.take {ds : Env} {xs : L2.St} {i : Nat} {d : D} (h : Rel K cl H ds xs) (e : ds[i]? = some (some d)) : ∃ v, xs[i]? = some (some v) ∧ Rel K cl H (some d :: ds.set i none) (some v :: xs) := by
  obtain ⟨f, n, h⟩ := h
  obtain ⟨v, f1, g, f2, e1, e2, h1, h2⟩ := slots_at h e
  refine ⟨v, e1, .of_perm (g := g ++ (f1 ++ f2)) ⟨v, xs, g, f1 ++ f2, rfl, rfl, h1, h2⟩ n ?_⟩
  rw [e2, ← List.append_assoc, ← List.append_assoc]
  exact List.Perm.append_right _ List.perm_append_comm
/-- put from the front into a place -/
theorem Rel.put {ds : Env} {xs : L2.St} {i : Nat} {d : D} {v : V} (h : Rel K cl H (some d :: ds) (some v :: xs)) (l : i < ds.length) : Rel K cl H (ds.set i (some d)) (xs.set i (some v)) := by
  obtain ⟨f, n, h⟩ := h
  obtain ⟨v', xs', f1, f2, e1, e2, h1, h2⟩ := h
  cases e1
  obtain ⟨g1, g2, k, p, q⟩ := slots_put h2 l h1
  subst e2
  have p2 : (f1 ++ f2).Perm (k ++ (g1 ++ (f1 ++ g2))) := by
    refine (List.Perm.append_left f1 p).trans ?_
    refine List.Perm.trans ?_ (List.perm_append_comm_assoc g1 k (f1 ++ g2))
    refine (List.perm_append_comm_assoc f1 g1 (k ++ g2)).trans (List.Perm.append_left g1 ?_)
    exact List.perm_append_comm_assoc f1 k g2
  have n2 := (p2.nodup_iff.mp n)
  exact .of_sub q (List.nodup_append.mp n2).2.1 fun a z => p2.mem_iff.mpr (List.mem_append_right _ z)
theorem Rel.back {ds : Env} {xs : L2.St} {i : Nat} {d : D} {v : V} (h : Rel K cl H (some d :: ds) (some v :: xs)) (e : xs[i]? = some (some v)) : Rel K cl H (ds.set i (some d)) xs := by
  have l : i < ds.length := by
    have q := h.len
    have q2 := (List.getElem?_eq_some_iff.mp e).1
    simp only [List.length_cons] at q
    omega
  have q := h.put l
  have e2 : xs.set i (some v) = xs := by
    obtain ⟨hi, e⟩ := List.getElem?_eq_some_iff.mp e
    rw [← e]
    exact List.set_getElem_self hi
  rwa [e2] at q
/-- the front is frozen -/
theorem Rel.freeze {ds : Env} {xs : L2.St} {d : D} {v : V} (h : Rel K cl H (some d :: ds) (some v :: xs)) : Rel K cl H (some (D.frz d) :: ds) (some v :: xs) := by
  obtain ⟨f, n, h⟩ := h
  obtain ⟨v', xs', f1, f2, e1, e2, h1, h2⟩ := h
  cases e1
  subst e2
  have n3 := List.nodup_append.mp n
  refine ⟨f2, n3.2.1, v, xs, [], f2, rfl, rfl, dat_frz h1 fun a z => .inl ⟨List.mem_append_right _ z, fun q => n3.2.2 a q a z rfl⟩, ?_⟩
  exact slots_tr h2 (fun a z => .inl (List.mem_append_right _ z)) (fun a z => z) fun a o q _ => q
/-- what is frozen may be held twice -/
theorem Rel.dup {ds : Env} {xs : L2.St} {d : D} {v : V} (h : Rel K cl H (some d :: ds) (some v :: xs)) (o : D.ok d = true) : Rel K cl H (some d :: some d :: ds) (some v :: some v :: xs) := by
  obtain ⟨f, n, h⟩ := h
  obtain ⟨v', xs', f1, f2, e1, e2, h1, h2⟩ := h
  cases e1
  subst e2
  have e := dat_ok h1 o
  subst e
  exact ⟨_, n, v, _, [], _, rfl, rfl, h1, v, xs, [], f2, rfl, rfl, h1, h2⟩
/-- read a place as a value: it is frozen from then on -/
theorem Rel.read {ds : Env} {xs : L2.St} {i : Nat} {d : D} (h : Rel K cl H ds xs) (e : ds[i]? = some (some d)) : ∃ v, xs[i]? = some (some v) ∧ Rel K cl H (some (D.frz d) :: ds.set i (some (D.frz d))) (some v :: xs) := by
  obtain ⟨v, e1, q⟩ := h.take e
  refine ⟨v, e1, ?_⟩
  have q2 := (q.freeze.dup (D.ok_frz d))
  have q3 := Rel.back (i := i + 1) (ds := some (D.frz d) :: ds.set i none) (xs := some v :: xs) q2 (by simpa using e1)
  simpa using q3
/-- the front's description -/
theorem Rel.top {ds : Env} {xs : L2.St} {d : D} {x : Option V} (h : Rel K cl H (some d :: ds) (x :: xs)) : ∃ M v f, x = some v ∧ Dat K cl M H d v f := by
  obtain ⟨f, n, h⟩ := h
  obtain ⟨v', xs', f1, f2, e1, e2, h1, h2⟩ := h
  cases e1
  exact ⟨_, _, _, rfl, h1⟩
end
end Tw
namespace Tw
open PySem PySem.Spec PyProof.Rows L2
abbrev S := L2.St

inductive Rs (α : Type) where
  | ok (a : α) (env : Tw.Env) | exc (c : Nat) (ns : List Str) (ds : List D) (env : Tw.Env) | stuck
abbrev Ev := Tw.Env → Rs D
def Rs.bind {α β : Type} (r : Rs α) (k : α → Tw.Env → Rs β) : Rs β := match r with
  | .ok a e => k a e
  | .exc c ns ds e => .exc c ns ds e
  | .stuck => .stuck
@[simp] theorem Rs.bind_ok {α β : Type} (a : α) (e : Tw.Env) (k : α → Tw.Env → Rs β) : Rs.bind (.ok a e) k = k a e := rfl
@[simp] theorem Rs.bind_exc {α β : Type} (c ns ds) (e : Tw.Env) (k : α → Tw.Env → Rs β) : Rs.bind (.exc c ns ds e) k = .exc c ns ds e := rfl
@[simp] theorem Rs.bind_stuck {α β : Type} (k : α → Tw.Env → Rs β) : Rs.bind .stuck k = .stuck := rfl
def Rs.P {α : Type} (r : Rs α) (ok : α → Tw.Env → Prop) (ex : Nat → List Str → List D → Tw.Env → Prop) : Prop := match r with
  | .ok a e => ok a e
  | .exc c ns ds e => ex c ns ds e
  | .stuck => False
theorem Rs.P.imp {α : Type} {r : Rs α} {ok ok' : α → Tw.Env → Prop} {ex ex' : Nat → List Str → List D → Tw.Env → Prop} (h : r.P ok ex) (h1 : ∀ a e, ok a e → ok' a e) (h2 : ∀ c ns ds e, ex c ns ds e → ex' c ns ds e) : r.P ok' ex' := by
  cases r with
  | ok a e => exact h1 _ _ h
  | exc c ns ds e => exact h2 _ _ _ _ h
  | stuck => exact h

/-- an exception: its class, its fields -/
def ExAt (cl : Nat → Addr) (H : Hp) (cls : Value) (dd : Option Addr) (c : Nat) (ns : List Str) (vs : List V) : Prop :=
  cls = .ref (cl c) ∧ ns.length = vs.length ∧ (ns = [] ∨ ∃ d, dd = some d ∧ H d = some (.xd (ns.zip vs)))

section
variable {K : PySem.W.Frag} {cl : Nat → Addr}
def WP (K : PySem.W.Frag) (cl : Nat → Addr) (W : WX) (κ : Tw.Env) (τ σ : S) : Nat → List Str → List D → Tw.Env → Prop := fun c ns ds env => ∀ cls dd H' vs, ExAt cl H' cls dd c ns vs → Rel K cl H' (ds.map some ++ (κ ++ env)) (vs.map some ++ (τ ++ σ)) → ds.length = vs.length → W cls dd σ H'
theorem WP.weak {W : WX} {A κ : Tw.Env} {X τ σ : S} (l : X.length = A.length) {c ns ds env} (h : WP K cl W κ τ σ c ns ds env) : WP K cl W (A ++ κ) (X ++ τ) σ c ns ds env := fun cls dd H' vs e r l2 => by
  refine h cls dd H' vs e ?_ l2
  rw [List.append_assoc, List.append_assoc] at r
  have r2 := r.swap3 (by simp [l2]) l
  exact Rel.drop r2 l
/-- an expression's reading: what it gives is f of the slots -/
def tE (K : PySem.W.Frag) (cl : Nat → Addr) (W : WX) (f : Ev) : TE := fun σ H Q => ∃ (τ : S) (κ env : Tw.Env), Rel K cl H (κ ++ env) (τ ++ σ) ∧ τ.length = κ.length ∧
  (f env).P (fun d env' => ∀ v H', Rel K cl H' (some d :: (κ ++ env')) (some v :: (τ ++ σ)) → Q v H') (WP K cl W κ τ σ)
theorem tE_bind {β : Type} {W : WX} {f : Ev} {k : D → Tw.Env → Rs β} {ok : β → Tw.Env → Prop} {τ σ : S} {κ env : Tw.Env} {H : Hp} {Q : VK} (r : Rel K cl H (κ ++ env) (τ ++ σ)) (l : τ.length = κ.length) (h : ((f env).bind k).P ok (WP K cl W κ τ σ))
    (hk : ∀ d env1 v H1, (k d env1).P ok (WP K cl W κ τ σ) → Rel K cl H1 (some d :: (κ ++ env1)) (some v :: (τ ++ σ)) → Q v H1) : tE K cl W f σ H Q := by
  refine ⟨τ, κ, env, r, l, ?_⟩
  cases e : f env with
  | ok d env1 =>
    rw [e] at h
    exact fun v H1 r1 => hk d env1 v H1 h r1
  | exc c ns ds env1 => rw [e] at h; exact h
  | stuck => rw [e] at h; exact h

/-! ## operands: worked out, or a slot's own thing, looked at where it lies -/
inductive Opd where
  | val (f : Ev) | slot (i : Nat)
def tOpd (K : PySem.W.Frag) (cl : Nat → Addr) (W : WX) : Opd → TE
  | .val f => tE K cl W f
  | .slot i => tVar i
def tOs (K : PySem.W.Frag) (cl : Nat → Addr) (W : WX) : List Opd → TA
  | [] => tNil
  | o :: os => tCons (tOpd K cl W o) (tOs K cl W os)
def evs : List Opd → Tw.Env → Rs (List D)
  | [], env => .ok [] env
  | .val f :: os, env => (f env).bind fun d env1 => (evs os env1).bind fun ds env2 => .ok (d :: ds) env2
  | .slot i :: os, env => match env[i]? with
    | some (some _) => evs os env
    | _ => .stuck
def gat : List Opd → List D → Tw.Env → Option (List D × Tw.Env)
  | [], [], env => some ([], env)
  | .val _ :: os, d :: ds, env => (gat os ds env).map fun p => (d :: p.1, p.2)
  | .slot i :: os, ds, env => match env[i]? with
    | some (some d) => (gat os ds (env.set i none)).map fun p => (d :: p.1, p.2)
    | _ => none
  | _, _, _ => none
def Full : List Opd → List V → S → List V → Prop
  | [], us, _, vs => us = [] ∧ vs = []
  | .val _ :: os, us, σ, vs => ∃ u us' vs', us = u :: us' ∧ vs = u :: vs' ∧ Full os us' σ vs'
  | .slot i :: os, us, σ, vs => ∃ v vs', σ[i]? = some (some v) ∧ vs = v :: vs' ∧ Full os us σ vs'
theorem Full.len : ∀ {os : List Opd} {us : List V} {σ : S} {vs : List V}, Full os us σ vs → vs.length = os.length
  | [], _, _, _, h => by rw [h.2]; rfl
  | .val _ :: os, _, _, _, h => by
    obtain ⟨u, us', vs', _, e, h⟩ := h
    rw [e, List.length_cons, List.length_cons, h.len]
  | .slot i :: os, _, _, _, h => by
    obtain ⟨v, vs', _, e, h⟩ := h
    rw [e, List.length_cons, List.length_cons, h.len]
def tA (K : PySem.W.Frag) (cl : Nat → Addr) (W : WX) (os : List Opd) : TA := fun σ H Q => ∃ (τ : S) (κ env : Tw.Env), Rel K cl H (κ ++ env) (τ ++ σ) ∧ τ.length = κ.length ∧
  (evs os env).P (fun ds env' => ∀ us vs H', us.length = ds.length → Rel K cl H' (ds.map some ++ (κ ++ env')) (us.map some ++ (τ ++ σ)) → Full os us σ vs → Q vs H') (WP K cl W κ τ σ)
theorem slot_at {H : Hp} {κ env : Tw.Env} {τ σ : S} {i : Nat} {d : D} (r : Rel K cl H (κ ++ env) (τ ++ σ)) (l : τ.length = κ.length) (e : env[i]? = some (some d)) : ∃ v, σ[i]? = some (some v) := by
  have e2 : (κ ++ env)[κ.length + i]? = some (some d) := by rw [List.getElem?_append_right (by omega)]; simpa using e
  obtain ⟨v, e3, _⟩ := r.take e2
  refine ⟨v, ?_⟩
  rw [List.getElem?_append_right (by omega)] at e3
  simpa [l] using e3
theorem tA_os {W : WX} : ∀ {os : List Opd} {σ : S} {H : Hp} {Q : List V → Hp → Prop}, tA K cl W os σ H Q → tOs K cl W os σ H Q
  | [], σ, H, Q, h => by
    obtain ⟨τ, κ, env, r, l, h⟩ := h
    exact h [] [] H rfl r ⟨rfl, rfl⟩
  | .val f :: os, σ, H, Q, h => by
    obtain ⟨τ, κ, env, r, l, h⟩ := h
    refine tE_bind r l h fun d env1 v H1 h1 r1 => tA_os (os := os) ⟨some v :: τ, some d :: κ, env1, r1, by simp [l], ?_⟩
    cases e : evs os env1 with
    | ok ds env2 =>
      rw [e] at h1
      intro us vs H2 l2 r2 fu
      refine h1 (v :: us) (v :: vs) H2 (by simp [l2]) ?_ ⟨v, us, vs, rfl, rfl, fu⟩
      exact Rel.swap3 (A := ds.map some) (B := [some d]) (X := us.map some) (Y := [some v]) r2 (by simp [l2]) rfl
    | exc c ns ds env2 =>
      rw [e] at h1
      exact WP.weak (A := [some d]) (X := [some v]) rfl h1
    | stuck => rw [e] at h1; exact h1
  | .slot i :: os, σ, H, Q, h => by
    obtain ⟨τ, κ, env, r, l, h⟩ := h
    cases e : env[i]? with
    | none => simp [evs, e] at h; exact False.elim h
    | some x =>
      cases x with
      | none => simp [evs, e] at h; exact False.elim h
      | some d =>
        simp only [evs, e] at h
        obtain ⟨v, ev⟩ := slot_at r l e
        exact ⟨v, ev, tA_os (os := os) ⟨τ, κ, env, r, l, h.imp (fun ds env' q us vs H' l2 r2 fu => q us (v :: vs) H' l2 r2 ⟨v, vs, ev, rfl, fu⟩) fun _ _ _ _ q => q⟩⟩
/-- all the operands in front -/
theorem gat_rel : ∀ {os : List Opd} {ds as : List D} {us vs : List V} {κ env env' : Tw.Env} {τ σ : S} {H : Hp}, Rel K cl H (ds.map some ++ (κ ++ env)) (us.map some ++ (τ ++ σ)) → us.length = ds.length → τ.length = κ.length → Full os us σ vs → gat os ds env = some (as, env') →
    as.length = vs.length ∧ Rel K cl H (as.map some ++ (κ ++ env')) (vs.map some ++ (τ ++ σ)) ∧ ∀ {H' : Hp} {κ2 : Tw.Env} {τ2 : S}, τ2.length = κ2.length → Rel K cl H' (as.map some ++ (κ2 ++ env')) (vs.map some ++ (τ2 ++ σ)) → Rel K cl H' (ds.map some ++ (κ2 ++ env)) (us.map some ++ (τ2 ++ σ))
  | [], ds, as, us, vs, κ, env, env', τ, σ, H, r, l, lt, f, g => by
    obtain ⟨rfl, rfl⟩ := f
    cases ds with
    | nil => cases g; exact ⟨rfl, r, fun _ z => z⟩
    | cons d ds => simp at l
  | .val fv :: os, ds, as, us, vs, κ, env, env', τ, σ, H, r, l, lt, f, g => by
    obtain ⟨u, us', vs', rfl, rfl, f⟩ := f
    cases ds with
    | nil => simp at l
    | cons d ds =>
      simp only [gat, Option.map_eq_some_iff] at g
      obtain ⟨⟨as', e3⟩, g, e⟩ := g
      cases e
      have r2 : Rel K cl H (ds.map some ++ ((some d :: κ) ++ env)) (us'.map some ++ ((some u :: τ) ++ σ)) := Rel.swap3 (A := [some d]) (X := [some u]) (B := ds.map some) (Y := us'.map some) r rfl (by simpa using l)
      obtain ⟨l3, r3, b3⟩ := gat_rel (os := os) r2 (by simpa using l) (by simp [lt]) f g
      refine ⟨by simp [l3], ?_, fun {H' κ2 τ2} lt2 r4 => ?_⟩
      · exact Rel.swap3 (A := as'.map some) (X := vs'.map some) (B := [some d]) (Y := [some u]) r3 (by simp [l3]) rfl
      · have r5 := Rel.swap3 (A := [some d]) (X := [some u]) (B := as'.map some) (Y := vs'.map some) r4 rfl (by simp [l3])
        have r6 := b3 (κ2 := some d :: κ2) (τ2 := some u :: τ2) (by simp [lt2]) r5
        exact Rel.swap3 (A := ds.map some) (X := us'.map some) (B := [some d]) (Y := [some u]) r6 (by simpa using l) rfl
  | .slot i :: os, ds, as, us, vs, κ, env, env', τ, σ, H, r, l, lt, f, g => by
    obtain ⟨v, vs', ev, rfl, f⟩ := f
    cases e : env[i]? with
    | none => simp [gat, e] at g
    | some x =>
      cases x with
      | none => simp [gat, e] at g
      | some d =>
        simp only [gat, e, Option.map_eq_some_iff] at g
        obtain ⟨⟨as', e3⟩, g, e4⟩ := g
        cases e4
        have il : i < env.length := (List.getElem?_eq_some_iff.mp e).1
        have e5 : (ds.map some ++ (κ ++ env))[ds.length + (κ.length + i)]? = some (some d) := by
          rw [List.getElem?_append_right (by simp)]
          rw [List.length_map, Nat.add_sub_cancel_left, List.getElem?_append_right (by omega), Nat.add_sub_cancel_left]
          exact e
        obtain ⟨w, e6, r2⟩ := r.take e5
        have ew : w = v := by
          rw [List.getElem?_append_right (by simp [l]), List.length_map, l, Nat.add_sub_cancel_left, List.getElem?_append_right (by omega), lt, Nat.add_sub_cancel_left, ev] at e6
          cases e6; rfl
        subst ew
        have es : (ds.map some ++ (κ ++ env)).set (ds.length + (κ.length + i)) none = ds.map some ++ (κ ++ env.set i none) := by
          rw [List.set_append_right _ _ (by simp), List.length_map, Nat.add_sub_cancel_left, List.set_append_right _ _ (by omega), Nat.add_sub_cancel_left]
        rw [es] at r2
        have r3 : Rel K cl H (ds.map some ++ ((some d :: κ) ++ env.set i none)) (us.map some ++ ((some w :: τ) ++ σ)) := Rel.swap3 (A := [some d]) (X := [some w]) (B := ds.map some) (Y := us.map some) r2 rfl (by simp [l])
        obtain ⟨l4, r4, b4⟩ := gat_rel (os := os) r3 l (by simp [lt]) f g
        refine ⟨by simp [l4], ?_, fun {H' κ2 τ2} lt2 r5 => ?_⟩
        · exact Rel.swap3 (A := as'.map some) (X := vs'.map some) (B := [some d]) (Y := [some w]) r4 (by simp [l4]) rfl
        · have r6 := Rel.swap3 (A := [some d]) (X := [some w]) (B := as'.map some) (Y := vs'.map some) r5 rfl (by simp [l4])
          have r7 := b4 (κ2 := some d :: κ2) (τ2 := some w :: τ2) (by simp [lt2]) r6
          have r8 : Rel K cl H' (some d :: (ds.map some ++ (κ2 ++ env.set i none))) (some w :: (us.map some ++ (τ2 ++ σ))) := Rel.swap3 (A := ds.map some) (X := us.map some) (B := [some d]) (Y := [some w]) r7 (by simp [l]) rfl
          have e7 : (us.map some ++ (τ2 ++ σ))[us.length + (τ2.length + i)]? = some (some w) := by
            rw [List.getElem?_append_right (by simp), List.length_map, Nat.add_sub_cancel_left, List.getElem?_append_right (by omega), Nat.add_sub_cancel_left]
            exact ev
          have r9 := r8.back e7
          have es2 : (ds.map some ++ (κ2 ++ env.set i none)).set (us.length + (τ2.length + i)) (some d) = ds.map some ++ (κ2 ++ env) := by
            rw [l, lt2, List.set_append_right _ _ (by simp), List.length_map, Nat.add_sub_cancel_left, List.set_append_right _ _ (by omega), Nat.add_sub_cancel_left, List.set_set]
            congr 2
            obtain ⟨hi, e⟩ := List.getElem?_eq_some_iff.mp e
            rw [← e]
            exact List.set_getElem_self hi
          rwa [es2] at r9
/-- an operation on values that looks at things and makes new ones: what it leaves in front -/
def OpS (K : PySem.W.Frag) (cl : Nat → Addr) (r : List V → Hp → VK → Prop) (g : List D → Option D) : Prop :=
  ∀ (as : List D) (d : D) (vs : List V) (H : Hp) (κ : Tw.Env) (τ : S) (Q : VK), g as = some d → as.length = vs.length → Rel K cl H (as.map some ++ κ) (vs.map some ++ τ) →
    (∀ v H', Rel K cl H' (some d :: (as.map some ++ κ)) (some v :: (vs.map some ++ τ)) → Q v H') → r vs H Q
def fN (g : List D → Option D) (os : List Opd) : Ev := fun env => (evs os env).bind fun ds env1 => match (gat os ds env1).bind fun p => g p.1 with
  | some d => .ok d env1
  | none => .stuck
theorem fN_tA {W : WX} {r : List V → Hp → VK → Prop} {g : List D → Option D} {os : List Opd} (hs : OpS K cl r g) {σ : S} {H : Hp} {Q : VK} (h : tE K cl W (fN g os) σ H Q) : tA K cl W os σ H (fun vs H' => r vs H' Q) := by
  obtain ⟨τ, κ, env, rl, l, h⟩ := h
  refine ⟨τ, κ, env, rl, l, ?_⟩
  cases e : evs os env with
  | ok ds env1 =>
    simp only [fN, e, Rs.bind_ok] at h
    intro us vs H' l2 r2 fu
    cases e2 : gat os ds env1 with
    | none => rw [e2] at h; exact False.elim h
    | some p =>
      obtain ⟨as, env2⟩ := p
      rw [e2] at h
      simp only [Option.bind_some] at h
      cases e3 : g as with
      | none => rw [e3] at h; exact False.elim h
      | some d =>
        rw [e3] at h
        obtain ⟨l3, r3, b3⟩ := gat_rel r2 l2 l fu e2
        refine hs as d vs H' _ _ Q e3 l3 r3 fun v H2 r4 => h v H2 ?_
        have r5 : Rel K cl H2 (as.map some ++ ((some d :: κ) ++ env2)) (vs.map some ++ ((some v :: τ) ++ σ)) := Rel.swap3 (A := [some d]) (X := [some v]) (B := as.map some) (Y := vs.map some) r4 rfl (by simp [l3])
        exact Rel.drop (b3 (by simp [l]) r5) (by simp [l2])
  | exc c ns ds env1 =>
    simp only [fN, e, Rs.bind_exc] at h
    exact h
  | stuck =>
    simp only [fN, e, Rs.bind_stuck] at h
    exact h
end
/-- weaken a reading -/
theorem PE.imp {X : Cx} {e : Expr} {t t' : TE} (h : PE X e t) (q : ∀ σ H Q, t' σ H Q → t σ H Q) : PE X e t' := ⟨fun pins s σ H Q I z => h.run pins s σ H Q I (q σ H Q z)⟩
theorem PA.imp {X : Cx} {e : List Expr} {t t' : TA} (h : PA X e t) (q : ∀ σ H Q, t' σ H Q → t σ H Q) : PA X e t' := ⟨fun pos pins s σ H Q I z => h.run pos pins s σ H Q I (q σ H Q z)⟩
theorem PT.imp {X : Cx} {e : Expr} {t t' : TT} (h : PT X e t) (q : ∀ σ H Q, t' σ H Q → t σ H Q) : PT X e t' := ⟨fun pins s σ H Q I z => h.run pins s σ H Q I (q σ H Q z)⟩
theorem PS.imp {X : Cx} {e : Stmt} {t t' : TS} (h : PS X e t) (q : ∀ D σ H, t' D σ H → t D σ H) : PS X e t' := ⟨fun pins s σ H Q I z => h.run pins s σ H Q I (q Q σ H z)⟩
theorem PSs.imp {X : Cx} {e : List Stmt} {t t' : TS} (h : PSs X e t) (q : ∀ D σ H, t' D σ H → t D σ H) : PSs X e t' := ⟨fun pins s σ H Q I z => h.run pins s σ H Q I (q Q σ H z)⟩
end Tw
namespace Tw
open PySem PySem.Spec PyProof.Rows L2
section
variable {K : PySem.W.Frag} {cl : Nat → Addr} {M : Addr → Prop} {H : Hp}
theorem slots_dats : ∀ {as : List D} {xs : S} {f : List Addr}, Slots K cl M H (as.map some) xs f → ∃ vs, xs = vs.map some ∧ Dats K cl M H as vs f
  | [], xs, f, h => ⟨[], h.1, rfl, h.2⟩
  | a :: as, xs, f, h => by
    obtain ⟨v, xs', f1, f2, e, e2, h1, h2⟩ := h
    obtain ⟨vs, e3, h3⟩ := slots_dats (as := as) h2
    subst e3
    exact ⟨v :: vs, e, v, vs, f1, f2, rfl, e2, h1, h3⟩
theorem dats_slots : ∀ {as : List D} {vs : List V} {f : List Addr}, Dats K cl M H as vs f → Slots K cl M H (as.map some) (vs.map some) f
  | [], vs, f, h => by rw [h.1]; exact ⟨rfl, h.2⟩
  | a :: as, vs, f, h => by
    obtain ⟨v, vs', f1, f2, e, e2, h1, h2⟩ := h
    subst e
    exact ⟨v, _, f1, f2, rfl, e2, h1, dats_slots h2⟩
theorem map_some_inj : ∀ {as bs : List V}, as.map some = bs.map some → as = bs
  | [], [], _ => rfl
  | [], _ :: _, h => by simp at h
  | _ :: _, [], h => by simp at h
  | a :: as, b :: bs, h => by
    simp only [List.map_cons, List.cons.injEq, Option.some.injEq] at h
    rw [h.1, map_some_inj h.2]
/-- the front things, all at once -/
theorem Rel.split {as : List D} {vs : List V} {κ : Tw.Env} {τ : S} (h : Rel K cl H (as.map some ++ κ) (vs.map some ++ τ)) (l : as.length = vs.length) :
    ∃ f g, (f ++ g).Nodup ∧ Dats K cl (· ∈ f ++ g) H as vs f ∧ Slots K cl (· ∈ f ++ g) H κ τ g := by
  obtain ⟨F, n, h⟩ := h
  obtain ⟨xs, ys, g, k, e, e2, l2, h1, h2⟩ := slots_split h
  obtain ⟨rfl, rfl⟩ := List.append_inj e (by simp at l2; simp; omega)
  subst e2
  obtain ⟨vs', e3, h3⟩ := slots_dats h1
  have := map_some_inj e3
  subst this
  exact ⟨g, k, n, h3, h2⟩
theorem Rel.heads {as : List D} {vs : List V} {κ : Tw.Env} {τ : S} (h : Rel K cl H (as.map some ++ κ) (vs.map some ++ τ)) (l : as.length = vs.length) : ∃ M f, Dats K cl M H as vs f := by
  obtain ⟨f, g, n, h1, h2⟩ := h.split l
  exact ⟨_, _, h1⟩
theorem Rel.head {a : D} {v : V} {κ : Tw.Env} {τ : S} (h : Rel K cl H (some a :: κ) (some v :: τ)) : ∃ M f, Dat K cl M H a v f := by
  obtain ⟨M, x, f, e, q⟩ := h.top
  cases e
  exact ⟨M, f, q⟩
/-- a thing that may not be changed, read off the front ones -/
theorem derive {as : List D} {vs : List V} {κ : Tw.Env} {τ : S} {d : D} {v : V} {f g : List Addr} (n : (f ++ g).Nodup) (h1 : Dats K cl (· ∈ f ++ g) H as vs f) (h2 : Slots K cl (· ∈ f ++ g) H κ τ g)
    (q : Dat K cl (· ∈ f ++ g) H d v []) : Rel K cl H (some d :: (as.map some ++ κ)) (some v :: (vs.map some ++ τ)) :=
  ⟨f ++ g, n, v, _, [], f ++ g, rfl, rfl, q, slots_app (dats_slots h1) h2⟩
theorem newL {as es : List D} {vs us : List V} {κ : Tw.Env} {τ : S} {p : Addr} {f g : List Addr} (n : (f ++ g).Nodup) (h1 : Dats K cl (· ∈ f ++ g) H as vs f) (h2 : Slots K cl (· ∈ f ++ g) H κ τ g) (hp : H p = none)
    (q : Dats K cl (· ∈ f ++ g) H es us []) : Rel K cl (upd H p (.lst us)) (some (.lst true es) :: (as.map some ++ κ)) (some (.ref p) :: (vs.map some ++ τ)) := by
  have np : p ∉ f ++ g := fun z => by
    obtain ⟨_, o, e⟩ := slots_in (slots_app (dats_slots h1) h2) p z
    rw [hp] at e; cases e
  have tr : ∀ a o, H a = some o → upd H p (.lst us) a = some o := same_upd hp
  refine ⟨p :: (f ++ g), List.nodup_cons.mpr ⟨np, n⟩, .ref p, _, [p], f ++ g, rfl, rfl, ⟨p, us, [], rfl, upd_same, ?_, .inl ⟨rfl, List.mem_cons_self, rfl⟩⟩, ?_⟩
  · exact dats_tr q (fun a z => (List.mem_cons.mp z).elim (fun e => .inr (by rw [e]; exact hp)) .inl) (fun a z => nomatch z) fun a o e _ => tr a o e
  · exact slots_tr (slots_app (dats_slots h1) h2) (fun a z => (List.mem_cons.mp z).elim (fun e => .inr (by rw [e]; exact hp)) .inl) (fun a z => List.mem_cons_of_mem _ z) fun a o e _ => tr a o e
theorem newT {its : List Value} {as es : List D} {vs us : List V} {κ : Tw.Env} {τ : S} {p : Addr} {f g : List Addr} (n : (f ++ g).Nodup) (h1 : Dats K cl (· ∈ f ++ g) H as vs f) (h2 : Slots K cl (· ∈ f ++ g) H κ τ g) (hp : H p = none)
    (q : Dats K cl (· ∈ f ++ g) H es us []) : Rel K cl (upd H p (tupH its us)) (some (.tup es) :: (as.map some ++ κ)) (some (.ref p) :: (vs.map some ++ τ)) := by
  have np : p ∉ f ++ g := fun z => by
    obtain ⟨_, o, e⟩ := slots_in (slots_app (dats_slots h1) h2) p z
    rw [hp] at e; cases e
  have tr : ∀ a o, H a = some o → upd H p (tupH its us) a = some o := same_upd hp
  refine ⟨f ++ g, n, .ref p, _, [], f ++ g, rfl, rfl, ⟨p, us, rfl, .inl ⟨its, upd_same, np⟩, ?_⟩, ?_⟩
  · exact dats_tr q (fun a z => .inl z) (fun a z => nomatch z) fun a o e _ => tr a o e
  · exact slots_tr (slots_app (dats_slots h1) h2) (fun a z => .inl z) (fun a z => z) fun a o e _ => tr a o e
theorem newPr {as es : List D} {vs us : List V} {κ : Tw.Env} {τ : S} {p : Addr} {f g : List Addr} (n : (f ++ g).Nodup) (h1 : Dats K cl (· ∈ f ++ g) H as vs f) (h2 : Slots K cl (· ∈ f ++ g) H κ τ g) (hp : H p = none)
    (q : Dats K cl (· ∈ f ++ g) H es us []) : Rel K cl (upd H p (.tup us)) (some (.pr es) :: (as.map some ++ κ)) (some (.ref p) :: (vs.map some ++ τ)) := by
  have np : p ∉ f ++ g := fun z => by
    obtain ⟨_, o, e⟩ := slots_in (slots_app (dats_slots h1) h2) p z
    rw [hp] at e; cases e
  have tr : ∀ a o, H a = some o → upd H p (.tup us) a = some o := same_upd hp
  refine ⟨f ++ g, n, .ref p, _, [], f ++ g, rfl, rfl, ⟨p, us, rfl, ⟨upd_same, np⟩, ?_⟩, ?_⟩
  · exact dats_tr q (fun a z => .inl z) (fun a z => nomatch z) fun a o e _ => tr a o e
  · exact slots_tr (slots_app (dats_slots h1) h2) (fun a z => .inl z) (fun a z => z) fun a o e _ => tr a o e
/-- the front things into a new list, a new tuple -/
theorem Rel.packL {as : List D} {vs : List V} {κ : Tw.Env} {τ : S} {p : Addr} (h : Rel K cl H (as.map some ++ κ) (vs.map some ++ τ)) (l : as.length = vs.length) (hp : H p = none) :
    Rel K cl (upd H p (.lst vs)) (some (.lst true as) :: κ) (some (.ref p) :: τ) := by
  obtain ⟨f, g, n, h1, h2⟩ := h.split l
  have np : p ∉ f ++ g := fun z => by
    obtain ⟨_, o, e⟩ := slots_in (slots_app (dats_slots h1) h2) p z
    rw [hp] at e; cases e
  have tr : ∀ a o, H a = some o → upd H p (.lst vs) a = some o := same_upd hp
  refine ⟨p :: f ++ g, List.nodup_cons.mpr ⟨np, n⟩, .ref p, _, p :: f, g, rfl, rfl, ⟨p, vs, f, rfl, upd_same, ?_, .inl ⟨rfl, List.mem_cons_self, rfl⟩⟩, ?_⟩
  · exact dats_tr h1 (fun a z => (List.mem_cons.mp z).elim (fun e => .inr (by rw [e]; exact hp)) .inl) (fun a z => List.mem_cons_of_mem _ (List.mem_append_left _ z)) fun a o e _ => tr a o e
  · exact slots_tr h2 (fun a z => (List.mem_cons.mp z).elim (fun e => .inr (by rw [e]; exact hp)) .inl) (fun a z => List.mem_cons_of_mem _ (List.mem_append_right _ z)) fun a o e _ => tr a o e
theorem Rel.packT {its : List Value} {as : List D} {vs : List V} {κ : Tw.Env} {τ : S} {p : Addr} (h : Rel K cl H (as.map some ++ κ) (vs.map some ++ τ)) (l : as.length = vs.length) (hp : H p = none) :
    Rel K cl (upd H p (tupH its vs)) (some (.tup as) :: κ) (some (.ref p) :: τ) := by
  obtain ⟨f, g, n, h1, h2⟩ := h.split l
  have np : p ∉ f ++ g := fun z => by
    obtain ⟨_, o, e⟩ := slots_in (slots_app (dats_slots h1) h2) p z
    rw [hp] at e; cases e
  have tr : ∀ a o, H a = some o → upd H p (tupH its vs) a = some o := same_upd hp
  refine ⟨f ++ g, n, .ref p, _, f, g, rfl, rfl, ⟨p, vs, rfl, .inl ⟨its, upd_same, np⟩, ?_⟩, ?_⟩
  · exact dats_tr h1 (fun a z => .inl z) (fun a z => (List.mem_append_left _ z)) fun a o e _ => tr a o e
  · exact slots_tr h2 (fun a z => .inl z) (fun a z => List.mem_append_right _ z) fun a o e _ => tr a o e
theorem two_of {as : List D} {vs : List V} {a b : D} (e : as = [a, b]) (l : as.length = vs.length) : ∃ x y, vs = [x, y] := by
  subst e
  match vs, l with
  | [x, y], _ => exact ⟨x, y, rfl⟩
theorem one_of {as : List D} {vs : List V} {a : D} (e : as = [a]) (l : as.length = vs.length) : ∃ x, vs = [x] := by
  subst e
  match vs, l with
  | [x], _ => exact ⟨x, rfl⟩
/-- the reading of a list of ints -/
theorem dats_ints : ∀ {ns : List Int} {vs : List V} {f : List Addr}, Dats K cl M H (ns.map D.int) vs f → vs = ns.map V.int
  | [], _, _, h => h.1
  | n :: ns, _, _, h => by
    obtain ⟨v, vs', f1, f2, e1, _, h1, h2⟩ := h
    rw [e1, h1.1, dats_ints h2]
    rfl
theorem ints_dats : ∀ (ns : List Int), Dats K cl M H (ns.map D.int) (ns.map V.int) []
  | [] => ⟨rfl, rfl⟩
  | n :: ns => ⟨_, _, [], [], rfl, rfl, ⟨rfl, rfl⟩, ints_dats ns⟩
/-- a heap's own ways of reading -/
theorem dat_tup {ds : List D} {v : V} {f : List Addr} (h : Dat K cl M H (.tup ds) v f) : ∃ a vs, v = .ref a ∧ SqT K H a vs ∧ Dats K cl M H ds vs f := by
  obtain ⟨a, vs, e, t, hd⟩ := h
  exact ⟨a, vs, e, t.sq, hd⟩
theorem dat_lst {m : Bool} {ds : List D} {v : V} {f : List Addr} (h : Dat K cl M H (.lst m ds) v f) : ∃ a vs g, v = .ref a ∧ H a = some (.lst vs) ∧ Dats K cl M H ds vs g := by
  obtain ⟨a, vs, g, e, t, hd, _⟩ := h
  exact ⟨a, vs, g, e, t, hd⟩
theorem dats1 {a : D} {v : V} {f : List Addr} (h : Dats K cl M H [a] [v] f) : Dat K cl M H a v f := by
  obtain ⟨v', vs', f1, f2, e, e2, h1, h2⟩ := h
  cases e
  obtain ⟨_, rfl⟩ := h2
  rw [e2, List.append_nil]
  exact h1
theorem dats2 {a b : D} {v u : V} {f : List Addr} (h : Dats K cl M H [a, b] [v, u] f) : ∃ f1 f2, f = f1 ++ f2 ∧ Dat K cl M H a v f1 ∧ Dat K cl M H b u f2 := by
  obtain ⟨v', vs', f1, f2, e, e2, h1, h2⟩ := h
  cases e
  exact ⟨f1, f2, e2, h1, dats1 h2⟩
theorem oks_nil {ds : List D} {vs : List V} {f : List Addr} (h : Dats K cl M H ds vs f) (o : D.oks ds = true) : Dats K cl M H ds vs [] := by
  have e := dats_ok h o
  rwa [e] at h
end

/-! ## operations -/
section
variable {X : Cx} {cl : Nat → Addr}
def rw2 (r : R2) : List V → Hp → VK → Prop := fun vs H Q => match vs with
  | [x, y] => r x y H Q
  | _ => False
def rw1 (r : V → Hp → VK → Prop) : List V → Hp → VK → Prop := fun vs H Q => match vs with
  | [x] => r x H Q
  | _ => False
variable {W : WX} {a b c : Expr} {o1 o2 : Opd} {pos : Pos}
theorem j_bin {op : Operator} {r : R2} {g : List D → Option D} (ho : OpR X (binaryOp op) r) (hs : OpS X.K cl (rw2 r) g) (ha : PE X a (tOpd X.K cl W o1)) (hb : PE X b (tOpd X.K cl W o2)) : PE X (.BinOp a op b pos) (tE X.K cl W (fN g [o1, o2])) :=
  PE.imp (pe_op ho ha hb) fun σ H Q h => tA_os (os := [o1, o2]) (fN_tA hs h)
theorem j_cmp {op : CmpOp} {r : R2} {g : List D → Option D} (ho : OpR X (compareOp op) r) (hs : OpS X.K cl (rw2 r) g) (hm : behindInMarks op b = false) (ha : PE X a (tOpd X.K cl W o1)) (hb : PE X b (tOpd X.K cl W o2)) : PE X (.Compare a [op] [b] pos) (tE X.K cl W (fN g [o1, o2])) :=
  PE.imp (pe_cmpR ho ha hb hm) fun σ H Q h => tA_os (os := [o1, o2]) (fN_tA hs h)
theorem j_un {op : UnaryOp} {r : V → Hp → VK → Prop} {g : List D → Option D} (ho : UnR X (unaryOp op) r) (hs : OpS X.K cl (rw1 r) g) (ha : PE X a (tOpd X.K cl W o1)) : PE X (.UnaryOp op a pos) (tE X.K cl W (fN g [o1])) :=
  PE.imp (pe_un ho ha) fun σ H Q h => tA_os (os := [o1]) (fN_tA hs h)
theorem j_ix {r : R2} {g : List D → Option D} (ho : IxR X r) (hs : OpS X.K cl (rw2 r) g) (hp : PlainIx b) (ha : PE X a (tOpd X.K cl W o1)) (hb : PE X b (tOpd X.K cl W o2)) : PE X (.Subscript a b pos) (tE X.K cl W (fN g [o1, o2])) :=
  PE.imp (pe_ix ho ha hb hp) fun σ H Q h => tA_os (os := [o1, o2]) (fN_tA hs h)
variable {os : List Opd} {e : Expr} {es : List Expr} {x : Str} {p : Pos}
theorem ja_nil : PA X [] (tOs X.K cl W []) := pa_nil
theorem ja_cons (ha : PE X e (tOpd X.K cl W o1)) (hr : PA X es (tOs X.K cl W os)) (hs : starEach (e :: es) X.env = (false, eval e X.env) :: starEach es X.env := by rfl) : PA X (e :: es) (tOs X.K cl W (o1 :: os)) := pa_cons ha hr hs
theorem j_callB {id : String} {r : List V → Hp → VK → Prop} {g : List D → Option D} (hc : CallR X (.builtin id) r) (hs : OpS X.K cl r g) (hm : X.mg x = none) (hv : bootBuiltins x = some (.builtin id)) (ha : PA X (e :: es) (tOs X.K cl W os)) (hg : Gl X x := by rfl) (hn : x ≠ "__name__" := by decide) (hdb : (x == ("__debug__" : Str)) = false := by decide)
    (he : starEach (e :: es) X.env = (false, eval e X.env) :: starEach es X.env := by rfl) (hpl : (backTo pos (starEach es X.env)).any (·.1) = false := by rfl) : PE X (.Call (.Name x p) (e :: es) [] pos) (tE X.K cl W (fN g os)) :=
  PE.imp (pe_callB hc hg hm hv ha hn hdb he hpl) fun σ H Q h => tA_os (fN_tA hs h)
theorem j_callTy {id : String} {r : List V → Hp → VK → Prop} {g : List D → Option D} (hc : CallR X (.type id) r) (hs : OpS X.K cl r g) (hm : X.mg x = none) (hv : bootBuiltins x = some (.type id)) (ha : PA X (e :: es) (tOs X.K cl W os)) (hg : Gl X x := by rfl) (hn : x ≠ "__name__" := by decide) (hdb : (x == ("__debug__" : Str)) = false := by decide)
    (he : starEach (e :: es) X.env = (false, eval e X.env) :: starEach es X.env := by rfl) (hpl : (backTo pos (starEach es X.env)).any (·.1) = false := by rfl) : PE X (.Call (.Name x p) (e :: es) [] pos) (tE X.K cl W (fN g os)) :=
  PE.imp (pe_callTy hc hg hm hv ha hn hdb he hpl) fun σ H Q h => tA_os (fN_tA hs h)

/-! ### scalars -/
def gInt2 (f : Int → Int → Option D) : List D → Option D
  | [.int i, .int j] => f i j
  | _ => none
theorem s_int2 {K : PySem.W.Frag} {C : Int → Int → Prop} [∀ i j, Decidable (C i j)] {g : Int → Int → V} {gd : Int → Int → D} (hd : ∀ M H i j, Dat K cl M H (gd i j) (g i j) []) :
    OpS K cl (rw2 (rI C g)) (gInt2 fun i j => if C i j then some (gd i j) else none) := by
  intro as d vs H κ τ Q h l r q
  match as, h with
  | [.int i, .int j], h =>
    obtain ⟨x, y, rfl⟩ := two_of rfl l
    simp only [gInt2] at h
    split at h
    · rename_i c
      cases h
      obtain ⟨M, f, hh⟩ := r.heads l
      obtain ⟨f1, f2, _, h1, h2⟩ := dats2 hh
      exact ⟨i, j, h1.1, h2.1, c, q _ _ (r.push fun M => hd M H i j)⟩
    · cases h
theorem s_int20 {K : PySem.W.Frag} {g : Int → Int → V} {gd : Int → Int → D} (hd : ∀ M H i j, Dat K cl M H (gd i j) (g i j) []) : OpS K cl (rw2 (rI0 g)) (gInt2 fun i j => some (gd i j)) := by
  intro as d vs H κ τ Q h l r q
  match as, h with
  | [.int i, .int j], h =>
    obtain ⟨x, y, rfl⟩ := two_of rfl l
    cases h
    obtain ⟨M, f, hh⟩ := r.heads l
    obtain ⟨f1, f2, _, h1, h2⟩ := dats2 hh
    exact ⟨i, j, h1.1, h2.1, q _ _ (r.push fun M => hd M H i j)⟩
def gInt1 (f : Int → D) : List D → Option D
  | [.int i] => some (f i)
  | _ => none
theorem s_int1 {K : PySem.W.Frag} {g : Int → V} {gd : Int → D} (hd : ∀ M H i, Dat K cl M H (gd i) (g i) []) : OpS K cl (rw1 (rU g)) (gInt1 gd) := by
  intro as d vs H κ τ Q h l r q
  match as, h with
  | [.int i], h =>
    obtain ⟨x, rfl⟩ := one_of rfl l
    cases h
    obtain ⟨M, f, hh⟩ := r.heads l
    exact ⟨i, (dats1 hh).1, q _ _ (r.push fun M => hd M H i)⟩
/-! ### + -/
def lenOk (n : Nat) : Bool := decide (n ≤ sizeLine)
def gAdd : List D → Option D
  | [.int i, .int j] => some (.int (i + j))
  | [.str x, .str y] => if lenOk (x.length + y.length) then some (.str (x ++ y)) else none
  | [.tup xs, .tup ys] => if D.oks xs && D.oks ys && lenOk (xs.length + ys.length) then some (.tup (xs ++ ys)) else none
  | [.lst _ xs, .lst _ ys] => if D.oks xs && D.oks ys && lenOk (xs.length + ys.length) then some (.lst true (xs ++ ys)) else none
  | _ => none
/-- a new tuple laid -/
theorem laidT {its : List Value} {xs : List V} {pins : List (Addr × Obj)} {s : Shared} {σ : S} {H : Hp} {t' : Nat} (I : Inv X pins σ H s) (r : Vals xs its) (hz : xs.length ≤ sizeLine) : Inv X pins σ (upd H s.heap.objs.size (tupH its xs)) { s with heap := s.heap.push (tupO its), toks := t' } :=
  I.laid (fun b ob q => Heap.get?_push_of_some _ q) (Nat.le_refl _) (show ObjOk X.prog X.w _ _ _ (.frz (tupO its) (.tup xs)) from ⟨Heap.get?_push_size _ rfl, hz, its, r, IsTup.new _ _⟩)
def rCatF (K : PySem.W.Frag) : R2 := fun x y H Q => ∃ a b xs ys, x = .ref a ∧ y = .ref b ∧ SqT K H a xs ∧ SqT K H b ys ∧ xs.length + ys.length ≤ sizeLine ∧
  (xs = [] → Q (.ref b) H) ∧ (xs ≠ [] → ys = [] → Q (.ref a) H) ∧ (xs ≠ [] → ys ≠ [] → ∀ p its, H p = none → Q (.ref p) (upd H p (tupH its (xs ++ ys))))
theorem op_catF : OpR X (binaryOp .Add) (rCatF X.K) := by
  intro pins s σ H x y v u Q I rx ry h
  obtain ⟨a, b, xs, ys, rfl, rfl, ha, hb, hz, q0, q1, q2⟩ := h
  cases rx
  cases ry
  obtain ⟨its, r1, p1, _⟩ := I.tuple ha
  obtain ⟨its2, r2, p2, _⟩ := I.tuple hb
  by_cases hx : xs = []
  · subst hx
    cases r1
    exact cat_tup0 p1 p2 ⟨.ref b, H, I, rfl, q0 rfl⟩
  · have h1 : its ≠ [] := fun e => hx (by rw [e] at r1; cases r1; rfl)
    refine HT.cat_tup p1 p2 h1 (fun e => ?_) (fun e => ?_) (by have := r1.length; have := r2.length; omega)
    · have e2 : ys = [] := by rw [e] at r2; cases r2; rfl
      exact ⟨.ref a, H, I, rfl, q1 hx e2⟩
    · have hy : ys ≠ [] := fun e2 => e (by subst e2; cases r2; rfl)
      exact ⟨.ref s.heap.objs.size, _, laidT I (r1.append r2) (by rw [List.length_append]; exact hz), rfl, q2 hx hy _ _ (I.hok.fresh (Nat.le_refl _))⟩
def rAddAll (K : PySem.W.Frag) : R2 := fun x y H Q => rI0 (fun i j => .int (i + j)) x y H Q ∨ ((fun x y H Q => ∃ i j, x = .str i ∧ y = .str j ∧ i.length + j.length ≤ sizeLine ∧ Q (.str (i ++ j)) H) : R2) x y H Q ∨ rCatF K x y H Q ∨ rCat x y H Q
theorem op_addAll : OpR X (binaryOp .Add) (rAddAll X.K) := op_add.or (op_add_str.or (op_catF.or op_cat))
theorem s_add {K : PySem.W.Frag} : OpS K cl (rw2 (rAddAll K)) gAdd := by
  intro as d vs H κ τ Q h l r q
  match as, h with
  | [.int i, .int j], h =>
    obtain ⟨x, y, rfl⟩ := two_of rfl l
    cases h
    obtain ⟨M, f, hh⟩ := r.heads l
    obtain ⟨f1, f2, _, h1, h2⟩ := dats2 hh
    exact .inl ⟨i, j, h1.1, h2.1, q _ _ (r.push fun M => ⟨rfl, rfl⟩)⟩
  | [.str i, .str j], h =>
    obtain ⟨x, y, rfl⟩ := two_of rfl l
    simp only [gAdd] at h
    split at h
    · rename_i c
      cases h
      obtain ⟨M, f, hh⟩ := r.heads l
      obtain ⟨f1, f2, _, h1, h2⟩ := dats2 hh
      exact .inr (.inl ⟨i, j, h1.1, h2.1, of_decide_eq_true c, q _ _ (r.push fun M => ⟨rfl, rfl⟩)⟩)
    · cases h
  | [.tup us, .tup ws], h =>
    obtain ⟨x, y, rfl⟩ := two_of rfl l
    simp only [gAdd] at h
    split at h
    · rename_i c
      cases h
      simp only [Bool.and_eq_true] at c
      obtain ⟨⟨c1, c2⟩, c3⟩ := c
      have c3 := of_decide_eq_true c3
      obtain ⟨f, g, n, hh, hr⟩ := r.split l
      obtain ⟨f1, f2, _, h1, h2⟩ := dats2 hh
      obtain ⟨a, xs, e1, t1, d1⟩ := h1
      obtain ⟨b, ys, e2, t2, d2⟩ := h2
      subst e1; subst e2
      have d1 := oks_nil d1 c1
      have d2 := oks_nil d2 c2
      have l1 := dats_length d1
      have l2 := dats_length d2
      refine .inr (.inr (.inl ⟨a, b, xs, ys, rfl, rfl, t1.sq, t2.sq, by omega, fun z => ?_, fun _ z => ?_, fun _ _ p its hp => q _ _ (newT n hh hr hp (dats_nil_append d1 d2))⟩))
      · refine q _ _ (derive n hh hr ⟨b, ys, rfl, t2, ?_⟩)
        have e : us = [] := List.eq_nil_of_length_eq_zero (by rw [← l1, z]; rfl)
        rw [e]; exact d2
      · refine q _ _ (derive n hh hr ⟨a, xs, rfl, t1, ?_⟩)
        have e : ws = [] := List.eq_nil_of_length_eq_zero (by rw [← l2, z]; rfl)
        rw [e, List.append_nil]; exact d1
    · cases h
  | [.lst m us, .lst m2 ws], h =>
    obtain ⟨x, y, rfl⟩ := two_of rfl l
    simp only [gAdd] at h
    split at h
    · rename_i c
      cases h
      simp only [Bool.and_eq_true] at c
      obtain ⟨⟨c1, c2⟩, c3⟩ := c
      have c3 := of_decide_eq_true c3
      obtain ⟨f, g, n, hh, hr⟩ := r.split l
      obtain ⟨f1, f2, _, h1, h2⟩ := dats2 hh
      obtain ⟨a, xs, g1, e1, t1, d1, _⟩ := h1
      obtain ⟨b, ys, g2, e2, t2, d2, _⟩ := h2
      subst e1; subst e2
      have d1 := oks_nil d1 c1
      have d2 := oks_nil d2 c2
      have l1 := dats_length d1
      have l2 := dats_length d2
      exact .inr (.inr (.inr ⟨a, b, xs, ys, rfl, rfl, t1, t2, by omega, fun p hp => q _ _ (newL n hh hr hp (dats_nil_append d1 d2))⟩))
    · cases h
end
end Tw
noncomputable section
namespace Tw
open PySem PySem.Spec PyProof.Rows L2
section
variable {X : Cx} {cl : Nat → Addr} {K : PySem.W.Frag}
theorem dint {M H i} : Dat K cl M H (.int i) (.int i) [] := ⟨rfl, rfl⟩
theorem dbl {M H b} : Dat K cl M H (.bl b) (.bl b) [] := ⟨rfl, rfl⟩
/-! ### numbers -/
def gSub : List D → Option D := gInt2 fun i j => some (.int (i - j))
theorem s_sub : OpS K cl (rw2 (rI0 fun i j => .int (i - j))) gSub := s_int20 fun _ _ _ _ => dint
instance : ∀ i j, Decidable (CMul i j) := fun _ _ => Classical.propDecidable _
instance : ∀ i j, Decidable (CDivN i j) := fun _ _ => Classical.propDecidable _
instance : ∀ i j, Decidable (CPow i j) := fun _ _ => Classical.propDecidable _
def gFdiv : List D → Option D := gInt2 fun i j => if CDivN i j then some (.int (i.fdiv j)) else none
theorem s_fdiv : OpS K cl (rw2 (rI CDivN fun i j => .int (i.fdiv j))) gFdiv := s_int2 fun _ _ _ _ => dint
def gMod : List D → Option D := gInt2 fun i j => if j ≠ 0 then some (.int (i.fmod j)) else none
theorem s_mod : OpS K cl (rw2 (rI (fun _ j => j ≠ 0) fun i j => .int (i.fmod j))) gMod := s_int2 fun _ _ _ _ => dint
def gPow : List D → Option D := gInt2 fun i j => if CPow i j then some (.int (i ^ j.toNat)) else none
theorem s_pow : OpS K cl (rw2 (rI CPow fun i j => .int (i ^ j.toNat))) gPow := s_int2 fun _ _ _ _ => dint
def gShl : List D → Option D := gInt2 fun i j => if CPow i j then some (.int (i * 2 ^ j.toNat)) else none
theorem s_shl : OpS K cl (rw2 (rI CPow fun i j => .int (i * 2 ^ j.toNat))) gShl := s_int2 fun _ _ _ _ => dint
def gShr : List D → Option D := gInt2 fun i j => if 0 ≤ j then some (.int (i / 2 ^ j.toNat)) else none
theorem s_shr : OpS K cl (rw2 (rI (fun _ j => 0 ≤ j) fun i j => .int (i / 2 ^ j.toNat))) gShr := s_int2 fun _ _ _ _ => dint
def gBand : List D → Option D := gInt2 fun i j => some (.int (Builtin.bitAnd i j))
theorem s_band : OpS K cl (rw2 (rI0 fun i j => .int (Builtin.bitAnd i j))) gBand := s_int20 fun _ _ _ _ => dint
def gBor : List D → Option D := gInt2 fun i j => some (.int (Builtin.bitOr i j))
theorem s_bor : OpS K cl (rw2 (rI0 fun i j => .int (Builtin.bitOr i j))) gBor := s_int20 fun _ _ _ _ => dint
def gBxor : List D → Option D := gInt2 fun i j => some (.int (Builtin.bitXor i j))
theorem s_bxor : OpS K cl (rw2 (rI0 fun i j => .int (Builtin.bitXor i j))) gBxor := s_int20 fun _ _ _ _ => dint
/-- comparisons, of numbers and of texts -/
def gCmp (f : Int → Int → Bool) (g : Str → Str → Bool) : List D → Option D
  | [.int i, .int j] => some (.bl (f i j))
  | [.str i, .str j] => some (.bl (g i j))
  | _ => none
def rCmp (f : Int → Int → Bool) (g : Str → Str → Bool) : R2 := fun x y H Q => rI0 (fun i j => .bl (f i j)) x y H Q ∨ ∃ i j, x = .str i ∧ y = .str j ∧ Q (.bl (g i j)) H
theorem s_cmp {f : Int → Int → Bool} {g : Str → Str → Bool} : OpS K cl (rw2 (rCmp f g)) (gCmp f g) := by
  intro as d vs H κ τ Q h l r q
  match as, h with
  | [.int i, .int j], h =>
    obtain ⟨x, y, rfl⟩ := two_of rfl l
    cases h
    obtain ⟨M, f, hh⟩ := r.heads l
    obtain ⟨f1, f2, _, h1, h2⟩ := dats2 hh
    exact .inl ⟨i, j, h1.1, h2.1, q _ _ (r.push fun M => dbl)⟩
  | [.str i, .str j], h =>
    obtain ⟨x, y, rfl⟩ := two_of rfl l
    cases h
    obtain ⟨M, f, hh⟩ := r.heads l
    obtain ⟨f1, f2, _, h1, h2⟩ := dats2 hh
    exact .inr ⟨i, j, h1.1, h2.1, q _ _ (r.push fun M => dbl)⟩
theorem cmp_bl {f : Int → Int → Bool} {g : Str → Str → Bool} {as : List D} {d : D} (h : gCmp f g as = some d) : ∃ k, d = .bl k := by
  match as, h with
  | [.int i, .int j], h => cases h; exact ⟨_, rfl⟩
  | [.str i, .str j], h => cases h; exact ⟨_, rfl⟩
def sLt (i j : Str) : Bool := decide (i.cps.toList < j.cps.toList)
def gLt : List D → Option D := gCmp (fun i j => decide (i < j)) fun i j => sLt i j
theorem s_lt : OpS K cl (rw2 (rCmp (fun i j => decide (i < j)) fun i j => sLt i j)) gLt := s_cmp
theorem op_ltA : OpR X (compareOp .Lt) (rCmp (fun i j => decide (i < j)) fun i j => sLt i j) := op_lt.or op_lt_str
def gLe : List D → Option D := gCmp (fun i j => decide (i ≤ j)) fun i j => !sLt j i
theorem s_le : OpS K cl (rw2 (rCmp (fun i j => decide (i ≤ j)) fun i j => !sLt j i)) gLe := s_cmp
theorem op_leA : OpR X (compareOp .LtE) (rCmp (fun i j => decide (i ≤ j)) fun i j => !sLt j i) := op_le.or op_le_str
def gGt : List D → Option D := gCmp (fun i j => decide (j < i)) fun i j => sLt j i
theorem s_gt : OpS K cl (rw2 (rCmp (fun i j => decide (j < i)) fun i j => sLt j i)) gGt := s_cmp
theorem op_gtA : OpR X (compareOp .Gt) (rCmp (fun i j => decide (j < i)) fun i j => sLt j i) := op_gt.or op_gt_str
def gGe : List D → Option D := gCmp (fun i j => decide (j ≤ i)) fun i j => !sLt i j
theorem s_ge : OpS K cl (rw2 (rCmp (fun i j => decide (j ≤ i)) fun i j => !sLt i j)) gGe := s_cmp
theorem op_geA : OpR X (compareOp .GtE) (rCmp (fun i j => decide (j ≤ i)) fun i j => !sLt i j) := op_ge.or op_ge_str
def gNeg : List D → Option D := gInt1 fun i => .int (-i)
theorem s_neg : OpS K cl (rw1 (rU fun i => .int (-i))) gNeg := s_int1 fun _ _ _ => dint
def gInv : List D → Option D := gInt1 fun i => .int (Builtin.bitNot i)
theorem s_inv : OpS K cl (rw1 (rU fun i => .int (Builtin.bitNot i))) gInv := s_int1 fun _ _ _ => dint
/-! ### a tuple, so many times, as many as may be -/
theorem tuple_same (l : Addr) (items : Array Value) (n : Nat) (dd : Option Addr) (sl : Array (Option Value)) (x : Int) (u : Tok) (c0 : (decide (x < -(2 ^ 63)) || decide (x ≥ 2 ^ 63)) = false) (c1 : (items.isEmpty || x == 1) = true) :
    Meets (Builtin.«tuple.__mul__» ⟨[.ref l, .int x u], []⟩) (fun _ R s => s.heap.get? l = some { cls := .type "tuple", dict := dd, data := .seq items n, slots := sl } ∧ R (.ok (.ret (Value.ref l))) s) :=
  .of_wp fun prog w A R s h => by
    obtain ⟨hp, g, d, tk, os⟩ := s
    obtain ⟨hl, h⟩ := h
    have f1 := AutoSeq1.idx_int
    wp_walk using wpAny_loadPart' hl
    repeat (first
      | (refine wpAny_ite_false (decide_eq_false (by rw [c0]; exact Bool.false_ne_true)) ?_; wp_walk using wpAny_loadPart' hl)
      | (refine wpAny_ite_true (decide_eq_true (by rw [c1])) ?_; wp_walk using wpAny_loadPart' hl))
    exact ⟨_, rfl, h⟩
theorem tuple_none (l : Addr) (items : Array Value) (n : Nat) (dd : Option Addr) (sl : Array (Option Value)) (x : Int) (u : Tok) (c0 : (decide (x < -(2 ^ 63)) || decide (x ≥ 2 ^ 63)) = false) (c1 : (items.isEmpty || x == 1) = false) (c2 : (decide (x ≤ 0) || items.isEmpty) = true) :
    Meets (Builtin.«tuple.__mul__» ⟨[.ref l, .int x u], []⟩) (fun _ R s => s.heap.get? l = some { cls := .type "tuple", dict := dd, data := .seq items n, slots := sl } ∧
      R (.ok (.ret (Value.ref s.heap.objs.size))) { s with heap := s.heap.push { cls := Value.type "tuple", data := Data.seq #[] }, toks := s.toks }) :=
  .of_wp fun prog w A R s h => by
    obtain ⟨hp, g, d, tk, os⟩ := s
    obtain ⟨hl, h⟩ := h
    have f1 := AutoSeq1.idx_int
    wp_walk using wpAny_loadPart' hl
    repeat (first
      | (refine wpAny_ite_false (decide_eq_false (by rw [c0]; exact Bool.false_ne_true)) ?_; wp_walk using wpAny_loadPart' hl)
      | (refine wpAny_ite_false (decide_eq_false (by rw [c1]; exact Bool.false_ne_true)) ?_; wp_walk using wpAny_loadPart' hl)
      | (refine wpAny_ite_true (decide_eq_true (by rw [c2])) ?_; wp_walk using wpAny_loadPart' hl))
    exact ⟨_, rfl, h⟩
def rRepA (K : PySem.W.Frag) : R2 := fun x y H Q => ∃ l k xs, x = .ref l ∧ y = .int k ∧ SqT K H l xs ∧ -(2 ^ 62) ≤ k ∧ k ≤ 1000000 ∧ xs.length * k.toNat ≤ 1000000 ∧ ((k = 1 ∨ xs = []) → Q (.ref l) H) ∧ (¬ (k = 1 ∨ xs = []) → ∀ p its, H p = none → Q (.ref p) (upd H p (tupH its (List.replicate k.toNat xs).flatten)))
theorem op_repA : OpR X (binaryOp .Mult) (rRepA X.K) := by
  intro pins s σ H x y v u Q I rx ry h
  obtain ⟨l, k, xs, rfl, rfl, hT, h1, h2, hz, qs, qn⟩ := h
  cases rx
  obtain ⟨t, rfl⟩ := ry
  obtain ⟨its, r, ⟨⟨cls, dd, data, sl⟩, ho, hc, n, hd⟩, hs⟩ := I.tuple hT
  simp only at hc hd
  subst hc hd
  have hle : its.length = xs.length := r.length.symm
  have c0 : (decide (k < -(2 ^ 63)) || decide (k ≥ 2 ^ 63)) = false := by
    rw [decide_eq_false (by omega), decide_eq_false (by omega)] <;> rfl
  have emp : its.toArray.isEmpty = true ↔ xs = [] := by
    cases its with
    | nil => cases xs with
      | nil => simp
      | cons _ _ => simp at hle
    | cons a b => cases xs with
      | nil => simp at hle
      | cons _ _ => simp
  refine wpAny_binaryOp_repeat_ref (T := "tuple") (U := "int") (by decide) ⟨_, ho, rfl⟩ (fun s' => typeIs_int s' k t) noFill_tuple_mul F.fills_int_mul F.slot_int_rmul repeat_tuple F.slot_int_index.lookup
    (call_meets F.slot_int_rmul (typeIs_int s k t) F.entry_int_rmul (F.args_int_rmul_2 _ _) (int_rmul_tuple k t l its.toArray n dd sl)
      ⟨ho, rfl, ⟨_, ho, rfl⟩, ?_⟩)
  by_cases cs : k = 1 ∨ xs = []
  · have c1 : (its.toArray.isEmpty || k == 1) = true := by
      rcases cs with e | e
      · subst e; simp
      · rw [emp.mpr e]; rfl
    exact call_meets F.slot_tuple_mul ⟨_, ho, rfl⟩ F.entry_tuple_mul (F.args_tuple_mul_2 _ _) (tuple_same l its.toArray n dd sl k t c0 c1) ⟨ho, .ref l, H, I, rfl, qs cs⟩
  · have ne : its.toArray.isEmpty = false := by
      cases e : its.toArray.isEmpty with
      | false => rfl
      | true => exact absurd (.inr (emp.mp e)) cs
    have k1 : k ≠ 1 := fun e => cs (.inl e)
    have c1 : (its.toArray.isEmpty || k == 1) = false := by
      rw [ne, Bool.false_or]
      exact beq_eq_false_iff_ne.mpr k1
    by_cases k0 : k ≤ 0
    · have c2 : (decide (k ≤ 0) || its.toArray.isEmpty) = true := by rw [decide_eq_true k0]; rfl
      refine call_meets F.slot_tuple_mul ⟨_, ho, rfl⟩ F.entry_tuple_mul (F.args_tuple_mul_2 _ _) (tuple_none l its.toArray n dd sl k t c0 c1 c2) ⟨ho, ?_⟩
      have e0 : (List.replicate k.toNat xs).flatten = [] := by rw [show k.toNat = 0 by omega]; rfl
      have q := qn cs
      rw [e0] at q
      exact ⟨.ref s.heap.objs.size, _, laidT (its := []) I .nil (by simp), rfl, q _ _ (I.hok.fresh (Nat.le_refl _))⟩
    · have c2 : (decide (k ≤ 0) || its.toArray.isEmpty) = false := by
        rw [ne, Bool.or_false]
        exact decide_eq_false k0
      have hsz0 : its.toArray.size = xs.length := by rw [List.size_toArray, hle]
      have hm : ((its.toArray.size : Nat) : Int) * k ≤ 1000000 := by
        rw [hsz0]
        have e : k = (k.toNat : Int) := by omega
        rw [e, ← Int.natCast_mul]
        omega
      have flen : (List.replicate k.toNat its).flatten.length ≤ sizeLine := by
        rw [PyProof.Rows.lm_len_rep_flat, hle, sizeLine_eq, Nat.mul_comm]
        omega
      have c4 : Builtin.Tuple.tupleTooMany (((its.toArray.size : Nat) : Int) * k) = false := by
        unfold Builtin.Tuple.tupleTooMany
        rw [sizeLine_eq]
        exact decide_eq_false (by omega)
      refine call_meets F.slot_tuple_mul ⟨_, ho, rfl⟩ F.entry_tuple_mul (F.args_tuple_mul_2 _ _) (tuple_mulW l its.toArray n dd sl k t c0 c1 c2 (by omega) c4 (by rw [size_rep, List.size_toArray]; exact flen)) ⟨ho, ?_⟩
      rw [size_rep]
      exact ⟨.ref s.heap.objs.size, _, laidT I (r.rep k.toNat) (by rw [PyProof.Rows.lm_len_rep_flat, sizeLine_eq, Nat.mul_comm]; omega), rfl, qn cs _ _ (I.hok.fresh (Nat.le_refl _))⟩
/-- * of ints, of a tuple and a number -/
def gMul : List D → Option D
  | [.int i, .int j] => if CMul i j then some (.int (i * j)) else none
  | [.tup xs, .int k] => if D.oks xs && decide (-(2 ^ 62) ≤ k ∧ k ≤ 1000000 ∧ xs.length * k.toNat ≤ 1000000) then some (.tup (List.replicate k.toNat xs).flatten) else none
  | [.lst _ xs, .int k] => if D.oks xs && decide (-(2 ^ 62) ≤ k ∧ k ≤ 1000000 ∧ xs.length * k.toNat ≤ 1000000) then some (.lst true (List.replicate k.toNat xs).flatten) else none
  | _ => none

def rMulAll (K : PySem.W.Frag) : R2 := fun x y H Q => rI CMul (fun i j => .int (i * j)) x y H Q ∨ rRepA K x y H Q ∨ rRep x y H Q
theorem op_mulAll : OpR X (binaryOp .Mult) (rMulAll X.K) := op_mul.or (op_repA.or op_rep)
theorem dats_rep {M H} {xs : List D} {vs : List V} (h : Dats K cl M H xs vs []) : ∀ n : Nat, Dats K cl M H (List.replicate n xs).flatten (List.replicate n vs).flatten []
  | 0 => ⟨rfl, rfl⟩
  | n + 1 => by
    rw [List.replicate_succ, List.replicate_succ, List.flatten_cons, List.flatten_cons]
    exact dats_nil_append h (dats_rep h n)
theorem s_mul : OpS K cl (rw2 (rMulAll K)) gMul := by
  intro as d vs H κ τ Q h l r q
  match as, h with
  | [.int i, .int j], h =>
    obtain ⟨x, y, rfl⟩ := two_of rfl l
    simp only [gMul] at h
    split at h
    · rename_i c
      cases h
      obtain ⟨M, f, hh⟩ := r.heads l
      obtain ⟨f1, f2, _, h1, h2⟩ := dats2 hh
      exact .inl ⟨i, j, h1.1, h2.1, c, q _ _ (r.push fun M => dint)⟩
    · cases h
  | [.tup us, .int k], h =>
    obtain ⟨x, y, rfl⟩ := two_of rfl l
    simp only [gMul] at h
    split at h
    · rename_i c
      cases h
      simp only [Bool.and_eq_true, decide_eq_true_eq] at c
      obtain ⟨c1, c2, c3, c4⟩ := c
      obtain ⟨f, g, n, hh, hr⟩ := r.split l
      obtain ⟨f1, f2, ef, h1, h2⟩ := dats2 hh
      obtain ⟨a, xs, e1, t1, d1⟩ := h1
      have e2 := h2.1
      subst e1; subst e2
      have d1 := oks_nil d1 c1
      have l1 := dats_length d1
      refine .inr (.inl ⟨a, k, xs, rfl, rfl, t1.sq, c2, c3, by rw [l1]; exact c4, fun z => ?_, fun _ p its hp => q _ _ (newT n hh hr hp (dats_rep d1 _))⟩)
      have ez : (List.replicate k.toNat us).flatten = us := by
        rcases z with z | z
        · subst z; simp
        · subst z
          cases us with
          | nil => simp
          | cons _ _ => simp at l1
      refine q _ _ (derive n hh hr ⟨a, xs, rfl, t1, ?_⟩)
      rw [ez]
      exact d1
    · cases h
  | [.lst m us, .int k], h =>
    obtain ⟨x, y, rfl⟩ := two_of rfl l
    simp only [gMul] at h
    split at h
    · rename_i c
      cases h
      simp only [Bool.and_eq_true, decide_eq_true_eq] at c
      obtain ⟨c1, c2, c3, c4⟩ := c
      obtain ⟨f, g, n, hh, hr⟩ := r.split l
      obtain ⟨f1, f2, ef, h1, h2⟩ := dats2 hh
      obtain ⟨a, xs, g1, e1, t1, d1, w⟩ := h1
      have e2 := h2.1
      subst e1; subst e2
      have d1 := oks_nil d1 c1
      have l1 := dats_length d1
      exact .inr (.inr ⟨a, k, xs, rfl, rfl, t1, by omega, by omega, by rw [l1, sizeLine_eq]; omega, fun p hp => q _ _ (newL n hh hr hp (dats_rep d1 _))⟩)
    · cases h
/-! ### == and != of data -/
mutual
def D.py : D → Option PyData
  | .non => some .none | .bl b => some (.bool b) | .int i => some (.int i) | .str x => some (.str x)
  | .tup xs => (D.pys xs).map .tuple
  | .lst _ xs => (D.pys xs).map .list
  | _ => none
def D.pys : List D → Option (List PyData)
  | [] => some []
  | d :: ds => (D.py d).bind fun p => (D.pys ds).map fun ps => p :: ps
end
mutual
theorem dat_dp {M H} : ∀ {d : D} {p : PyData} {v : V} {f : List Addr}, Dat K cl M H d v f → D.py d = some p → Dp K H v p
  | .non, _, _, _, h, e => by cases e; rw [h.1]; exact .non
  | .bl b, _, _, _, h, e => by cases e; rw [h.1]; exact .bl b
  | .int b, _, _, _, h, e => by cases e; rw [h.1]; exact .int b
  | .str b, _, _, _, h, e => by cases e; rw [h.1]; exact .str b
  | .tup ds, p, _, _, h, e => by
    obtain ⟨a, vs, rfl, t, hd⟩ := h
    simp only [D.py, Option.map_eq_some_iff] at e
    obtain ⟨ps, e, rfl⟩ := e
    exact .tup t.sq (dats_dp hd e)
  | .lst m ds, p, _, _, h, e => by
    obtain ⟨a, vs, g, rfl, t, hd, _⟩ := h
    simp only [D.py, Option.map_eq_some_iff] at e
    obtain ⟨ps, e, rfl⟩ := e
    exact .lst (.of t) (dats_dp hd e)
  | .ty _, _, _, _, _, e => by simp [D.py] at e
  | .pr _, _, _, _, _, e => by simp [D.py] at e
  | .dtt _ _, _, _, _, _, e => by simp [D.py] at e
  | .cl _, _, _, _, _, e => by simp [D.py] at e
  | .scr _, _, _, _, _, e => by simp [D.py] at e
  | .at _, _, _, _, _, e => by simp [D.py] at e
  | .obj _ _ _ _, _, _, _, _, e => by simp [D.py] at e
  | .dct _ _ _, _, _, _, _, e => by simp [D.py] at e
theorem dats_dp {M H} : ∀ {ds : List D} {ps : List PyData} {vs : List V} {f : List Addr}, Dats K cl M H ds vs f → D.pys ds = some ps → DpAll K H vs ps
  | [], _, _, _, h, e => by cases e; rw [h.1]; exact .nil
  | d :: ds, ps, _, _, h, e => by
    obtain ⟨v, vs', f1, f2, rfl, _, h1, h2⟩ := h
    simp only [D.pys, Option.bind_eq_some_iff, Option.map_eq_some_iff] at e
    obtain ⟨p, e1, ps', e2, rfl⟩ := e
    exact .cons (dat_dp h1 e1) (dats_dp h2 e2)
end
def gEq : List D → Option D
  | [a, b] => (D.py a).bind fun p => (D.py b).bind fun q => if SeqAt.shaped p && SeqAt.shaped q then some (.bl (PyData.eqv p q)) else none
  | _ => none
def gNe : List D → Option D
  | [a, b] => (D.py a).bind fun p => (D.py b).bind fun q => if SeqAt.shaped p && SeqAt.shaped q then some (.bl (!PyData.eqv p q)) else none
  | _ => none
theorem s_eq : OpS K cl (rw2 (rEqD K)) gEq := by
  intro as d vs H κ τ Q h l r q
  match as, h with
  | [a, b], h =>
    obtain ⟨x, y, rfl⟩ := two_of rfl l
    simp only [gEq, Option.bind_eq_some_iff] at h
    obtain ⟨p, e1, p2, e2, h⟩ := h
    split at h
    · rename_i c
      cases h
      simp only [Bool.and_eq_true] at c
      obtain ⟨M, f, hh⟩ := r.heads l
      obtain ⟨f1, f2, _, h1, h2⟩ := dats2 hh
      exact ⟨p, p2, dat_dp h1 e1, dat_dp h2 e2, c.1, c.2, q _ _ (r.push fun M => dbl)⟩
    · cases h
theorem s_ne : OpS K cl (rw2 (rNeD K)) gNe := by
  intro as d vs H κ τ Q h l r q
  match as, h with
  | [a, b], h =>
    obtain ⟨x, y, rfl⟩ := two_of rfl l
    simp only [gNe, Option.bind_eq_some_iff] at h
    obtain ⟨p, e1, p2, e2, h⟩ := h
    split at h
    · rename_i c
      cases h
      simp only [Bool.and_eq_true] at c
      obtain ⟨M, f, hh⟩ := r.heads l
      obtain ⟨f1, f2, _, h1, h2⟩ := dats2 hh
      exact ⟨p, p2, dat_dp h1 e1, dat_dp h2 e2, c.1, c.2, q _ _ (r.push fun M => dbl)⟩
    · cases h
/-! ### is None -/
def D.isNon : D → Bool
  | .non => true
  | _ => false
theorem dat_non {M H} : ∀ {d : D} {v : V} {f : List Addr}, Dat K cl M H d v f → decide (v = .non) = D.isNon d
  | .non, _, _, h => by rw [h.1]; rfl
  | .bl b, _, _, h => by rw [h.1]; rfl
  | .int b, _, _, h => by rw [h.1]; rfl
  | .str b, _, _, h => by rw [h.1]; rfl
  | .ty b, _, _, h => by rw [h.1]; rfl
  | .cl b, _, _, h => by rw [h.1]; rfl
  | .scr b, _, _, h => by obtain ⟨_, a, rfl, _⟩ := h; rfl
  | .at b, _, _, h => by rw [h.1]; rfl
  | .tup b, _, _, h => by obtain ⟨a, _, rfl, _⟩ := h; rfl
  | .pr b, _, _, h => by obtain ⟨a, _, rfl, _⟩ := h; rfl
  | .dtt _ b, _, _, h => by obtain ⟨a, _, _, rfl, _⟩ := h; rfl
  | .lst _ b, _, _, h => by obtain ⟨a, _, _, rfl, _⟩ := h; rfl
  | .obj _ _ _ _, _, _, h => by obtain ⟨a, _, _, _, rfl, _⟩ := h; rfl
  | .dct _ _ _, _, _, h => by obtain ⟨a, _, _, rfl, _⟩ := h; rfl
def gIsN : List D → Option D
  | [a, .non] => some (.bl (D.isNon a))
  | _ => none
def gNotN : List D → Option D
  | [a, .non] => some (.bl (!D.isNon a))
  | _ => none
theorem s_isN : OpS K cl (rw2 fun x y H Q => y = .non ∧ Q (.bl (decide (x = .non))) H) gIsN := by
  intro as d vs H κ τ Q h l r q
  match as, h with
  | [a, .non], h =>
    obtain ⟨x, y, rfl⟩ := two_of rfl l
    cases h
    obtain ⟨M, f, hh⟩ := r.heads l
    obtain ⟨f1, f2, _, h1, h2⟩ := dats2 hh
    refine ⟨h2.1, ?_⟩
    rw [dat_non h1]
    exact q _ _ (r.push fun M => dbl)
theorem s_notN : OpS K cl (rw2 fun x y H Q => y = .non ∧ Q (.bl (!decide (x = .non))) H) gNotN := by
  intro as d vs H κ τ Q h l r q
  match as, h with
  | [a, .non], h =>
    obtain ⟨x, y, rfl⟩ := two_of rfl l
    cases h
    obtain ⟨M, f, hh⟩ := r.heads l
    obtain ⟨f1, f2, _, h1, h2⟩ := dats2 hh
    refine ⟨h2.1, ?_⟩
    rw [dat_non h1]
    exact q _ _ (r.push fun M => dbl)
/-! ### xs[i] -/
def gIx : List D → Option D
  | [.lst _ xs, .int i] => (atI xs i).bind fun d => if D.oks xs then some d else none
  | [.tup xs, .int i] => (atI xs i).bind fun d => if D.oks xs then some d else none
  | _ => none
theorem atI_dats {M H} {ds : List D} {vs : List V} {i : Int} {d : D} (h : Dats K cl M H ds vs []) (e : atI ds i = some d) : ∃ v, atI vs i = some v ∧ Dat K cl M H d v [] := by
  have l := dats_length h
  unfold atI at e ⊢
  rw [l]
  cases e2 : ixN ds.length i with
  | none => rw [e2] at e; cases e
  | some j =>
    rw [e2] at e
    exact dats_get h e
theorem s_ix : OpS K cl (rw2 (rIx K)) gIx := by
  intro as d vs H κ τ Q h l r q
  match as, h with
  | [.lst m us, .int i], h =>
    obtain ⟨x, y, rfl⟩ := two_of rfl l
    simp only [gIx, Option.bind_eq_some_iff] at h
    obtain ⟨d', e, h⟩ := h
    split at h
    · rename_i c
      cases h
      obtain ⟨f, g, n, hh, hr⟩ := r.split l
      obtain ⟨f1, f2, _, h1, h2⟩ := dats2 hh
      obtain ⟨a, xs, g1, e1, t1, d1, _⟩ := h1
      have e2 := h2.1
      subst e1; subst e2
      obtain ⟨v, e3, hv⟩ := atI_dats (oks_nil d1 c) e
      exact .inl ⟨a, xs, i, v, rfl, rfl, .of t1, e3, q _ _ (derive n hh hr hv)⟩
    · cases h
  | [.tup us, .int i], h =>
    obtain ⟨x, y, rfl⟩ := two_of rfl l
    simp only [gIx, Option.bind_eq_some_iff] at h
    obtain ⟨d', e, h⟩ := h
    split at h
    · rename_i c
      cases h
      obtain ⟨f, g, n, hh, hr⟩ := r.split l
      obtain ⟨f1, f2, _, h1, h2⟩ := dats2 hh
      obtain ⟨a, xs, e1, t1, d1⟩ := h1
      have e2 := h2.1
      subst e1; subst e2
      obtain ⟨v, e3, hv⟩ := atI_dats (oks_nil d1 c) e
      exact .inr (.inl ⟨a, xs, i, v, rfl, rfl, t1.sq, e3, q _ _ (derive n hh hr hv)⟩)
    · cases h
/-! ### built-in calls -/
def gLen : List D → Option D
  | [.lst _ xs] => some (.int xs.length)
  | [.tup xs] => some (.int xs.length)
  | [.str x] => if lenOk x.length then some (.int x.length) else none
  | _ => none
def rLen2 (K : PySem.W.Frag) : List V → Hp → VK → Prop := fun xs H Q => ((∃ p ys, xs = [.ref p] ∧ (SqL K H p ys ∨ SqT K H p ys) ∧ Q (.int ys.length) H)) ∨ ∃ z, xs = [.str z] ∧ z.length ≤ sizeLine ∧ Q (.int z.length) H
theorem cr_len : CallR X (.builtin "len") (rLen2 X.K) := call_len_seq.or call_len_str
theorem s_len : OpS K cl (rLen2 K) gLen := by
  intro as d vs H κ τ Q h l r q
  match as, h with
  | [.lst m us], h =>
    obtain ⟨x, rfl⟩ := one_of rfl l
    cases h
    obtain ⟨M, f, hh⟩ := r.heads l
    obtain ⟨a, xs, g1, e1, t1, d1, _⟩ := dats1 hh
    subst e1
    refine .inl ⟨a, xs, rfl, .inl (.of t1), ?_⟩
    rw [dats_length d1]
    exact q _ _ (r.push fun M => dint)
  | [.tup us], h =>
    obtain ⟨x, rfl⟩ := one_of rfl l
    cases h
    obtain ⟨M, f, hh⟩ := r.heads l
    obtain ⟨a, xs, e1, t1, d1⟩ := dats1 hh
    subst e1
    refine .inl ⟨a, xs, rfl, .inr t1.sq, ?_⟩
    rw [dats_length d1]
    exact q _ _ (r.push fun M => dint)
  | [.str z], h =>
    obtain ⟨x, rfl⟩ := one_of rfl l
    simp only [gLen] at h
    split at h
    · rename_i c
      cases h
      obtain ⟨M, f, hh⟩ := r.heads l
      have e1 := (dats1 hh).1
      subst e1
      exact .inr ⟨z, rfl, of_decide_eq_true c, q _ _ (r.push fun M => dint)⟩
    · cases h
def gTuple : List D → Option D
  | [.lst _ xs] => if D.oks xs then some (.tup xs) else none
  | [.tup xs] => if D.oks xs then some (.tup xs) else none
  | _ => none
theorem call_tupleF : CallR X (.type "tuple") (fun xs H Q => ∃ p ys, xs = [.ref p] ∧ ((SqL X.K H p ys ∧ ∀ l its, H l = none → Q (.ref l) (upd H l (tupH its ys))) ∨ (SqT X.K H p ys ∧ Q (.ref p) H))) := by
  intro pins s σ H xs us Q I r h
  obtain ⟨p, ys, rfl, h⟩ := h
  obtain ⟨u, rfl, rx⟩ := vals1 r
  cases rx
  rcases h with ⟨hq, q⟩ | ⟨hq, q⟩
  · obtain ⟨its, r', pl, hz⟩ := I.list hq
    have hlen := r'.length
    refine call_tuple_list pl.isList (fun h' kp => ?_) (by simp only [List.size_toArray] <;> omega)
    have I1 : Inv X pins σ H { s with heap := h' } := I.kept (t' := s.toks) kp
    exact ⟨.ref h'.objs.size, _, laidT (t' := s.toks) I1 r' hz, rfl, q _ its (I1.hok.fresh (Nat.le_refl _))⟩
  · obtain ⟨its, r', pl, hz⟩ := I.tuple hq
    exact call_tuple_same pl ⟨.ref p, H, I, rfl, q⟩
theorem s_tuple : OpS K cl (fun xs H Q => ∃ p ys, xs = [.ref p] ∧ ((SqL K H p ys ∧ ∀ l its, H l = none → Q (.ref l) (upd H l (tupH its ys))) ∨ (SqT K H p ys ∧ Q (.ref p) H))) gTuple := by
  intro as d vs H κ τ Q h l r q
  match as, h with
  | [.lst m us], h =>
    obtain ⟨x, rfl⟩ := one_of rfl l
    simp only [gTuple] at h
    split at h
    · rename_i c
      cases h
      obtain ⟨f, g, n, hh, hr⟩ := r.split l
      obtain ⟨a, xs, g1, e1, t1, d1, _⟩ := dats1 hh
      subst e1
      exact ⟨a, xs, rfl, .inl ⟨.of t1, fun p its hp => q _ _ (newT n hh hr hp (oks_nil d1 c))⟩⟩
    · cases h
  | [.tup us], h =>
    obtain ⟨x, rfl⟩ := one_of rfl l
    simp only [gTuple] at h
    split at h
    · rename_i c
      cases h
      obtain ⟨f, g, n, hh, hr⟩ := r.split l
      obtain ⟨a, xs, e1, t1, d1⟩ := dats1 hh
      subst e1
      exact ⟨a, xs, rfl, .inr ⟨t1.sq, q _ _ (derive n hh hr ⟨a, xs, rfl, t1, oks_nil d1 c⟩)⟩⟩
    · cases h
def gList : List D → Option D
  | [.lst _ xs] => if D.oks xs then some (.lst true xs) else none
  | [.tup xs] => if D.oks xs then some (.lst true xs) else none
  | [.scr ns] => some (.lst true (ns.map .int))
  | _ => none
theorem s_list : OpS K cl (fun xs H Q => ∃ p ys, xs = [.ref p] ∧ (SqL K H p ys ∨ SqT K H p ys) ∧ ∀ l, H l = none → Q (.ref l) (upd H l (.lst ys))) gList := by
  intro as d vs H κ τ Q h l r q
  match as, h with
  | [.lst m us], h =>
    obtain ⟨x, rfl⟩ := one_of rfl l
    simp only [gList] at h
    split at h
    · rename_i c
      cases h
      obtain ⟨f, g, n, hh, hr⟩ := r.split l
      obtain ⟨a, xs, g1, e1, t1, d1, _⟩ := dats1 hh
      subst e1
      exact ⟨a, xs, rfl, .inl (.of t1), fun p hp => q _ _ (newL n hh hr hp (oks_nil d1 c))⟩
    · cases h
  | [.tup us], h =>
    obtain ⟨x, rfl⟩ := one_of rfl l
    simp only [gList] at h
    split at h
    · rename_i c
      cases h
      obtain ⟨f, g, n, hh, hr⟩ := r.split l
      obtain ⟨a, xs, e1, t1, d1⟩ := dats1 hh
      subst e1
      exact ⟨a, xs, rfl, .inr t1.sq, fun p hp => q _ _ (newL n hh hr hp (oks_nil d1 c))⟩
    · cases h
  | [.scr ns], h =>
    obtain ⟨x, rfl⟩ := one_of rfl l
    simp only [gList] at h
    cases h
    obtain ⟨f, g, n, hh, hr⟩ := r.split l
    obtain ⟨e0, a, e1, t1⟩ := (dats1 hh)
    subst e0; subst e1
    exact ⟨a, _, rfl, .inl t1.sq, fun p hp => q _ _ (newL n hh hr hp (ints_dats ns))⟩
def gAbs : List D → Option D := gInt1 fun i => .int (if i < 0 then -i else i)
theorem s_abs : OpS K cl (fun xs H Q => ∃ i, xs = [.int i] ∧ Q (.int (if i < 0 then -i else i)) H) gAbs := by
  intro as d vs H κ τ Q h l r q
  match as, h with
  | [.int i], h =>
    obtain ⟨x, rfl⟩ := one_of rfl l
    cases h
    obtain ⟨M, f, hh⟩ := r.heads l
    have e1 := (dats1 hh).1
    subst e1
    exact ⟨i, rfl, q _ _ (r.push fun M => dint)⟩
def gIntC : List D → Option D
  | [.int i] => some (.int i)
  | [.bl k] => some (.int (if k then 1 else 0))
  | _ => none
theorem s_intC : OpS K cl (fun xs H Q => (∃ i, xs = [.int i] ∧ Q (.int i) H) ∨ ∃ k, xs = [.bl k] ∧ Q (.int (if k then 1 else 0)) H) gIntC := by
  intro as d vs H κ τ Q h l r q
  match as, h with
  | [.int i], h =>
    obtain ⟨x, rfl⟩ := one_of rfl l
    cases h
    obtain ⟨M, f, hh⟩ := r.heads l
    have e1 := (dats1 hh).1
    subst e1
    exact .inl ⟨i, rfl, q _ _ (r.push fun M => dint)⟩
  | [.bl i], h =>
    obtain ⟨x, rfl⟩ := one_of rfl l
    cases h
    obtain ⟨M, f, hh⟩ := r.heads l
    have e1 := (dats1 hh).1
    subst e1
    exact .inr ⟨i, rfl, q _ _ (r.push fun M => dint)⟩
def D.asB : D → Option Bool
  | .bl b => some b
  | _ => none
def D.bools : List D → Option (List Bool)
  | [] => some []
  | d :: ds => (D.asB d).bind fun b => (D.bools ds).map (b :: ·)
theorem dat_asB {M H} {d : D} {b : Bool} {v : V} {f : List Addr} (h : Dat K cl M H d v f) (e : D.asB d = some b) : v = .bl b := by
  cases d with
  | bl c => cases e; exact h.1
  | _ => cases e
theorem dats_bools {M H} : ∀ {ds : List D} {bs : List Bool} {vs : List V} {f : List Addr}, Dats K cl M H ds vs f → D.bools ds = some bs → vs = bs.map V.bl
  | [], _, _, _, h, e => by cases e; exact h.1
  | d :: ds, _, _, _, h, e => by
    obtain ⟨v, vs', f1, f2, rfl, _, h1, h2⟩ := h
    simp only [D.bools, Option.bind_eq_some_iff, Option.map_eq_some_iff] at e
    obtain ⟨b, e1, bs, e, rfl⟩ := e
    rw [dat_asB h1 e1, dats_bools h2 e]
    rfl
@[simp] theorem bools_map {α : Type} (f : α → Bool) : ∀ xs : List α, D.bools (xs.map fun x => .bl (f x)) = some (xs.map f)
  | [] => rfl
  | x :: xs => by
    have ih := bools_map f xs
    simp only [List.map_cons, D.bools, D.asB, Option.bind_some, ih, Option.map_some]
def gAll : List D → Option D
  | [.lst _ xs] => (D.bools xs).map fun bs => .bl (bs.all id)
  | _ => none
def gAny : List D → Option D
  | [.lst _ xs] => (D.bools xs).map fun bs => .bl (bs.any id)
  | _ => none
theorem s_all : OpS K cl (rAll K) gAll := by
  intro as d vs H κ τ Q h l r q
  match as, h with
  | [.lst m us], h =>
    obtain ⟨x, rfl⟩ := one_of rfl l
    simp only [gAll, Option.map_eq_some_iff] at h
    obtain ⟨bs, e, rfl⟩ := h
    obtain ⟨M, f, hh⟩ := r.heads l
    obtain ⟨a, xs, g1, e1, t1, d1, _⟩ := dats1 hh
    subst e1
    have e2 := dats_bools d1 e
    subst e2
    exact ⟨a, bs, rfl, .of t1, q _ _ (r.push fun M => dbl)⟩
theorem s_any : OpS K cl (rAny K) gAny := by
  intro as d vs H κ τ Q h l r q
  match as, h with
  | [.lst m us], h =>
    obtain ⟨x, rfl⟩ := one_of rfl l
    simp only [gAny, Option.map_eq_some_iff] at h
    obtain ⟨bs, e, rfl⟩ := h
    obtain ⟨M, f, hh⟩ := r.heads l
    obtain ⟨a, xs, g1, e1, t1, d1, _⟩ := dats1 hh
    subst e1
    have e2 := dats_bools d1 e
    subst e2
    exact ⟨a, bs, rfl, .of t1, q _ _ (r.push fun M => dbl)⟩
/-! ### isinstance -/
inductive Tg where
  | ty (n : String) | cl (c : Nat)
def D.tag : D → Option Tg
  | .non => some (.ty "NoneType") | .bl _ => some (.ty "bool") | .int _ => some (.ty "int") | .str _ => some (.ty "str")
  | .tup _ => some (.ty "tuple") | .lst _ _ => some (.ty "list") | .dct _ _ _ => some (.ty "dict") | .obj _ c _ _ => some (.cl c)
  | _ => none
def tgV (cl : Nat → Addr) : Tg → Value
  | .ty n => .type n
  | .cl c => .ref (cl c)
/-- what is known of the own classes -/
structure ClsF (K : PySem.W.Frag) (C : Addr) : Prop where
  c : Cls K C
  ha : PySem.W.findIn K (.ref C) "__class__" = some (some (.builtin "object.__class__"))
  hn : PySem.W.specialIn K (.builtin "object.__class__") "__get__" = some (some (.builtin "getset_descriptor.__get__"))
  ht : PySem.W.takesIn K (.builtin "object.__class__") = some true
  hm : PySem.W.mroIn K C (.type "object") = some true
structure IsaOk (K : PySem.W.Frag) (cl : Nat → Addr) (isa : Tg → Tg → Option Bool) : Prop where
  ok : ∀ t u b, isa t u = some b → PySem.W.kitOne K (tgV cl t) (tgV cl u) = some b
  own : ∀ c u b, isa (.cl c) u = some b → ClsF K (cl c)
def D.asT : D → Option Tg
  | .ty n => some (.ty n)
  | .cl c => some (.cl c)
  | _ => none
def gIsi (isa : Tg → Tg → Option Bool) : List D → Option D
  | [a, b] => (D.tag a).bind fun t => (D.asT b).bind fun u => (isa t u).map .bl
  | _ => none
theorem s_isi {isa : Tg → Tg → Option Bool} (hI : IsaOk K cl isa) : OpS K cl (rIsi K) (gIsi isa) := by
  intro as d vs H κ τ Q h l r q
  match as, h with
  | [a, b], h =>
    obtain ⟨x, y, rfl⟩ := two_of rfl l
    simp only [gIsi, Option.bind_eq_some_iff, Option.map_eq_some_iff] at h
    obtain ⟨t, et, u, eu, k, ek, rfl⟩ := h
    obtain ⟨M, f, hh⟩ := r.heads l
    obtain ⟨f1, f2, _, h1, h2⟩ := dats2 hh
    have hc : ClsV y (tgV cl u) := by
      cases b with
      | ty n => cases eu; rw [h2.1]; exact .ty n
      | cl c => cases eu; rw [h2.1]; exact .own _
      | _ => simp [D.asT] at eu
    have ht : TyX K H x (tgV cl t) := by
      cases a with
      | non => cases et; rw [h1.1]; exact .base .non
      | bl b => cases et; rw [h1.1]; exact .base (.bl b)
      | int b => cases et; rw [h1.1]; exact .base (.int b)
      | str b => cases et; rw [h1.1]; exact .base (.str b)
      | tup ds =>
        cases et
        obtain ⟨a, vs, rfl, t, _⟩ := h1
        rcases t with ⟨_, t, _⟩ | ⟨o, its, n, e, c, _⟩
        · exact .fTuple t
        · exact .kTuple e c
      | lst m ds =>
        cases et
        obtain ⟨a, vs, g, rfl, t, _⟩ := h1
        exact .base (.lst t)
      | dct m ks ds =>
        cases et
        obtain ⟨a, vs, g, rfl, t, _⟩ := h1
        exact .base (.dK t)
      | obj m c ns ds =>
        cases et
        obtain ⟨a, dx, vs, g, rfl, t, _⟩ := h1
        have F := hI.own c u k ek
        exact .base (.ins t F.c F.ha F.hn F.ht F.hm)
      | _ => simp [D.tag] at et
    exact ⟨x, y, _, _, k, rfl, hc, ht, hI.ok t u k ek, q _ _ (r.push fun M => dbl)⟩
end
end Tw
noncomputable section
namespace Tw
open PySem PySem.Spec PyProof.Rows L2
section
variable {X : Cx} {cl : Nat → Addr} {W : WX} {a b c e : Expr} {es : List Expr} {pos p : Pos} {x : Str}
/-! ### names and constants -/
def fVar (i : Nat) : Ev := fun env => match env[i]? with
  | some (some d) => .ok (D.frz d) (env.set i (some (D.frz d)))
  | _ => .stuck
def fMove (i : Nat) : Ev := fun env => match env[i]? with
  | some (some d) => .ok d (env.set i none)
  | _ => .stuck
theorem j_var {i : Nat} (h : PE X e (tVar i)) : PE X e (tE X.K cl W (fVar i)) := PE.imp h fun σ H Q ⟨τ, κ, env, r, l, q⟩ => by
  unfold fVar at q
  cases e1 : env[i]? with
  | none => rw [e1] at q; exact q.elim
  | some y =>
    cases y with
    | none => rw [e1] at q; exact q.elim
    | some d =>
      rw [e1] at q
      have e2 : (κ ++ env)[κ.length + i]? = some (some d) := by rw [List.getElem?_append_right (by omega)]; simpa using e1
      obtain ⟨v, e3, r2⟩ := r.read e2
      rw [List.getElem?_append_right (by omega), l, Nat.add_sub_cancel_left] at e3
      rw [List.set_append_right _ _ (by omega), Nat.add_sub_cancel_left] at r2
      exact ⟨v, e3, q v H r2⟩
theorem j_move {i : Nat} (h : PE X e (tVar i)) : PE X e (tE X.K cl W (fMove i)) := PE.imp h fun σ H Q ⟨τ, κ, env, r, l, q⟩ => by
  unfold fMove at q
  cases e1 : env[i]? with
  | none => rw [e1] at q; exact q.elim
  | some y =>
    cases y with
    | none => rw [e1] at q; exact q.elim
    | some d =>
      rw [e1] at q
      have e2 : (κ ++ env)[κ.length + i]? = some (some d) := by rw [List.getElem?_append_right (by omega)]; simpa using e1
      obtain ⟨v, e3, r2⟩ := r.take e2
      rw [List.getElem?_append_right (by omega), l, Nat.add_sub_cancel_left] at e3
      rw [List.set_append_right _ _ (by omega), Nat.add_sub_cancel_left] at r2
      exact ⟨v, e3, q v H r2⟩
def fK (d : D) : Ev := fun env => .ok d env
theorem j_c {v : V} {d : D} (h : PE X e (tC v)) (hd : ∀ M H, Dat X.K cl M H d v []) : PE X e (tE X.K cl W (fK d)) := PE.imp h fun σ H Q ⟨τ, κ, env, r, l, q⟩ => q v H (r.push fun M => hd M H)
theorem j_int {i : Int} {j : Nat} : PE X (.Constant (.int i) j pos) (tE X.K cl W (fK (.int i))) := j_c pe_int fun _ _ => dint
theorem j_bl {i : Bool} {j : Nat} : PE X (.Constant (.bool i) j pos) (tE X.K cl W (fK (.bl i))) := j_c pe_bl fun _ _ => dbl
theorem j_non {j : Nat} : PE X (.Constant .none j pos) (tE X.K cl W (fK .non)) := j_c pe_non fun _ _ => ⟨rfl, rfl⟩
theorem j_str {i : Str} {j : Nat} : PE X (.Constant (.str i) j pos) (tE X.K cl W (fK (.str i))) := j_c pe_str fun _ _ => ⟨rfl, rfl⟩
theorem j_gint {i : Int} {t : Tok} (hm : X.mg x = some (.int i t)) (hg : Gl X x := by rfl) (hd : (x == ("__debug__" : Str)) = false := by decide) : PE X (.Name x pos) (tE X.K cl W (fK (.int i))) := j_c (v := .int i) (pe_glob hg hm ⟨_, rfl⟩ hd) fun _ _ => dint
theorem j_ty {n : String} (hm : X.mg x = none) (hv : bootBuiltins x = some (.type n)) (hg : Gl X x := by rfl) (hn : x ≠ "__name__" := by decide) (hd : (x == ("__debug__" : Str)) = false := by decide) : PE X (.Name x pos) (tE X.K cl W (fK (.ty n))) :=
  j_c (pe_bltn (v := .ty n) hg hm hv rfl hn hd) fun _ _ => ⟨rfl, rfl⟩
theorem j_cl {n : Nat} (hm : X.mg x = some (.ref (cl n))) (hg : Gl X x := by rfl) (hd : (x == ("__debug__" : Str)) = false := by decide) : PE X (.Name x pos) (tE X.K cl W (fK (.cl n))) := j_c (pe_glob hg hm (v := .ref (cl n)) rfl hd) fun _ _ => ⟨rfl, rfl⟩
/-! ### displays -/
def vals (fs : List Ev) : List Opd := fs.map .val
theorem gat_vals : ∀ (fs : List Ev) (ds : List D) (env : Tw.Env), fs.length = ds.length → gat (vals fs) ds env = some (ds, env)
  | [], [], _, _ => rfl
  | f :: fs, d :: ds, env, l => by
    have ih := gat_vals fs ds env (by simpa using l)
    show ((gat (vals fs) ds env).map fun p => (d :: p.1, p.2)) = _
    rw [ih]; rfl
  | [], _ :: _, _, l => by simp at l
  | _ :: _, [], _, l => by simp at l
theorem full_vals : ∀ {fs : List Ev} {us : List V} {σ : S} {vs : List V}, Full (vals fs) us σ vs → vs = us ∧ us.length = fs.length
  | [], _, _, _, h => ⟨h.2.trans h.1.symm, by rw [h.1]; rfl⟩
  | f :: fs, _, _, _, h => by
    obtain ⟨u, us', vs', rfl, rfl, h⟩ := h
    obtain ⟨e, l⟩ := full_vals h
    exact ⟨by rw [e], by simp [l]⟩
def fTup (fs : List Ev) : Ev := fun env => (evs (vals fs) env).bind fun ds env1 => .ok (.tup ds) env1
def fLst (fs : List Ev) : Ev := fun env => (evs (vals fs) env).bind fun ds env1 => .ok (.lst true ds) env1
theorem small_line {n : Nat} (h : n ≤ 1000) : n ≤ sizeLine := Nat.le_trans h (by decide)
def tTupF (t : TA) : TE := fun σ H Q => t σ H fun xs H1 => xs.length ≤ sizeLine ∧ ∀ p its, H1 p = none → Q (.ref p) (upd H1 p (tupH its xs))
theorem pe_tupF {t : TA} {x1} (h : PA X es t) : PE X (.Tuple es x1 pos) (tTupF t) := by
  refine ⟨fun pins s σ H Q I hq => ?_⟩
  refine wpAny_Tuple_spliced (thn (h.run pos pins s σ H _ I hq) fun us s1 ⟨xs, H1, I1, r, z, q⟩ => ⟨by rw [← r.length]; exact z, ?_⟩)
  exact ⟨.ref s1.heap.objs.size, _, laidT (t' := s1.toks) I1 r z, rfl, q _ us (I1.hok.fresh (Nat.le_refl _))⟩
theorem j_tup {fs : List Ev} {x1} (h : PA X es (tOs X.K cl W (vals fs))) (hl : fs.length ≤ 1000 := by decide) : PE X (.Tuple es x1 pos) (tE X.K cl W (fTup fs)) := PE.imp (pe_tupF h) fun σ H Q ⟨τ, κ, env, r, l, q⟩ => by
  refine tA_os (os := vals fs) ⟨τ, κ, env, r, l, ?_⟩
  unfold fTup at q
  cases e1 : evs (vals fs) env with
  | ok ds env1 =>
    rw [e1] at q
    intro us vs H' l2 r2 fu
    obtain ⟨rfl, l3⟩ := full_vals fu
    exact ⟨small_line (by omega), fun p its hp => q _ _ (r2.packT l2.symm hp)⟩
  | exc _ _ _ _ => rw [e1] at q; exact q
  | stuck => rw [e1] at q; exact q
theorem j_lst {fs : List Ev} (h : PA X es (tOs X.K cl W (vals fs))) (hl : fs.length ≤ 1000 := by decide) : PE X (.List es pos) (tE X.K cl W (fLst fs)) := PE.imp (pe_lst h) fun σ H Q ⟨τ, κ, env, r, l, q⟩ => by
  refine tA_os (os := vals fs) ⟨τ, κ, env, r, l, ?_⟩
  unfold fLst at q
  cases e1 : evs (vals fs) env with
  | ok ds env1 =>
    rw [e1] at q
    intro us vs H' l2 r2 fu
    obtain ⟨rfl, l3⟩ := full_vals fu
    exact ⟨small_line (by omega), fun p hp => q _ _ (r2.packL l2.symm hp)⟩
  | exc _ _ _ _ => rw [e1] at q; exact q
  | stuck => rw [e1] at q; exact q
/-! ### truth, and, or, not -/
def D.tru : D → Option Bool
  | .non => some false | .bl b => some b | .int i => some (i != 0)
  | .str y => if lenOk y.length then some ((y.length : Int) != 0) else none
  | .tup xs => some (!xs.isEmpty) | .lst _ xs => some (!xs.isEmpty)
  | _ => none
theorem isEmpty_dats {K M H} {ds : List D} {vs : List V} {f : List Addr} (h : Dats K cl M H ds vs f) : vs.isEmpty = ds.isEmpty := by
  have l := dats_length h
  cases vs <;> cases ds <;> simp at l ⊢
theorem dat_tru {K M H} {d : D} {v : V} {f : List Addr} {k : Bool} (h : Dat K cl M H d v f) (e : D.tru d = some k) : TruV K v H k := by
  cases d with
  | non => cases e; rw [h.1]; rfl
  | bl b => cases e; rw [h.1]; rfl
  | int b => cases e; rw [h.1]; rfl
  | str y =>
    simp only [D.tru] at e
    split at e
    · rename_i c
      cases e; rw [h.1]; exact ⟨of_decide_eq_true c, rfl⟩
    · cases e
  | tup ds =>
    cases e
    obtain ⟨a, vs, rfl, t, hd⟩ := h
    exact .inr (.inl ⟨vs, t.sq, by rw [isEmpty_dats hd]⟩)
  | lst m ds =>
    cases e
    obtain ⟨a, vs, g, rfl, t, hd, _⟩ := h
    exact .inl ⟨vs, .of t, by rw [isEmpty_dats hd]⟩
  | _ => simp [D.tru] at e
def fAnd (fa fb : Ev) : Ev := fun env => (fa env).bind fun d env1 => match D.tru d with
  | some true => fb env1
  | some false => .ok d env1
  | none => .stuck
def fOr (fa fb : Ev) : Ev := fun env => (fa env).bind fun d env1 => match D.tru d with
  | some false => fb env1
  | some true => .ok d env1
  | none => .stuck
def fNot (fa : Ev) : Ev := fun env => (fa env).bind fun d env1 => match D.tru d with
  | some k => .ok (.bl (!k)) env1
  | none => .stuck
variable {fa fb fc : Ev} {rest : List Expr}
theorem j_and (ha : PE X a (tE X.K cl W fa)) (hb : PE X (.BoolOp .And (b :: rest) pos) (tE X.K cl W fb)) : PE X (.BoolOp .And (a :: b :: rest) pos) (tE X.K cl W (fAnd fa fb)) := PE.imp (pe_andT ha hb) fun σ H Q ⟨τ, κ, env, r, l, q⟩ => by
  refine tE_bind r l q fun d env1 v H1 h1 r1 => ?_
  obtain ⟨M, f, hd⟩ := r1.head
  cases e1 : D.tru d with
  | none => rw [e1] at h1; exact h1.elim
  | some k =>
    rw [e1] at h1
    refine ⟨k, dat_tru hd e1, ?_⟩
    cases k with
    | true =>
      rw [if_pos rfl]
      exact ⟨τ, κ, env1, r1.pop, l, h1⟩
    | false =>
      rw [if_neg Bool.false_ne_true]
      exact h1 v H1 r1
theorem j_or (ha : PE X a (tE X.K cl W fa)) (hb : PE X (.BoolOp .Or (b :: rest) pos) (tE X.K cl W fb)) : PE X (.BoolOp .Or (a :: b :: rest) pos) (tE X.K cl W (fOr fa fb)) := PE.imp (pe_orT ha hb) fun σ H Q ⟨τ, κ, env, r, l, q⟩ => by
  refine tE_bind r l q fun d env1 v H1 h1 r1 => ?_
  obtain ⟨M, f, hd⟩ := r1.head
  cases e1 : D.tru d with
  | none => rw [e1] at h1; exact h1.elim
  | some k =>
    rw [e1] at h1
    refine ⟨k, dat_tru hd e1, ?_⟩
    cases k with
    | false =>
      rw [if_neg Bool.false_ne_true]
      exact ⟨τ, κ, env1, r1.pop, l, h1⟩
    | true =>
      rw [if_pos rfl]
      exact h1 v H1 r1
theorem j_one {op} (ha : PE X a (tE X.K cl W fa)) : PE X (.BoolOp op [a] pos) (tE X.K cl W fa) := pe_one ha
theorem j_not (ha : PE X a (tE X.K cl W fa)) : PE X (.UnaryOp .Not a pos) (tE X.K cl W (fNot fa)) := PE.imp (pe_notT ha) fun σ H Q ⟨τ, κ, env, r, l, q⟩ => by
  refine tE_bind r l q fun d env1 v H1 h1 r1 => ?_
  obtain ⟨M, f, hd⟩ := r1.head
  cases e1 : D.tru d with
  | none => rw [e1] at h1; exact h1.elim
  | some k =>
    rw [e1] at h1
    exact ⟨k, dat_tru hd e1, h1 _ _ (r1.pop.push fun M => dbl)⟩
/-! ### tests -/
abbrev EvB := Tw.Env → Rs Bool
def tT (K : PySem.W.Frag) (cl : Nat → Addr) (W : WX) (f : EvB) : TT := fun σ H Q => ∃ (τ : S) (κ env : Tw.Env), Rel K cl H (κ ++ env) (τ ++ σ) ∧ τ.length = κ.length ∧
  (f env).P (fun k env' => ∀ H', Rel K cl H' (κ ++ env') (τ ++ σ) → Q k H') (WP K cl W κ τ σ)
def bE (f : Ev) : EvB := fun env => (f env).bind fun d env1 => match D.tru d with
  | some k => .ok k env1
  | none => .stuck
def bAnd (f g : EvB) : EvB := fun env => (f env).bind fun k env1 => if k = true then g env1 else .ok false env1
def bOr (f g : EvB) : EvB := fun env => (f env).bind fun k env1 => if k = true then .ok true env1 else g env1
def bNot (f : EvB) : EvB := fun env => (f env).bind fun k env1 => .ok (!k) env1
theorem tT_bind {β : Type} {K : PySem.W.Frag} {f : EvB} {k : Bool → Tw.Env → Rs β} {ok : β → Tw.Env → Prop} {τ σ : S} {κ env : Tw.Env} {H : Hp} {Q : Bool → Hp → Prop} (r : Rel K cl H (κ ++ env) (τ ++ σ)) (l : τ.length = κ.length) (h : ((f env).bind k).P ok (WP K cl W κ τ σ))
    (hk : ∀ d env1 H1, (k d env1).P ok (WP K cl W κ τ σ) → Rel K cl H1 (κ ++ env1) (τ ++ σ) → Q d H1) : tT K cl W f σ H Q := by
  refine ⟨τ, κ, env, r, l, ?_⟩
  cases e : f env with
  | ok d env1 =>
    rw [e] at h
    exact fun H1 r1 => hk d env1 H1 h r1
  | exc c ns ds env1 => rw [e] at h; exact h
  | stuck => rw [e] at h; exact h
theorem t_e (ha : PE X a (tE X.K cl W fa)) (he : ∀ whole, isTrue a X.env whole = (do let v ← whole; standAt a.pos; holding [v] (truthy v)) := by intro _; rfl) : PT X a (tT X.K cl W (bE fa)) := PT.imp (pt_truth ha he) fun σ H Q ⟨τ, κ, env, r, l, q⟩ => by
  refine tE_bind r l q fun d env1 v H1 h1 r1 => ?_
  obtain ⟨M, f, hd⟩ := r1.head
  cases e1 : D.tru d with
  | none => rw [e1] at h1; exact h1.elim
  | some k =>
    rw [e1] at h1
    exact ⟨k, dat_tru hd e1, h1 H1 r1.pop⟩
/-- a comparison as a test -/
theorem t_cmp {op : CmpOp} {r : R2} {g : List D → Option D} {o1 o2 : Opd} (ho : OpR X (compareOp op) r) (hs : OpS X.K cl (rw2 r) g) (hb2 : ∀ as d, g as = some d → ∃ k, d = .bl k) (hm : behindInMarks op b = false) (ha : PE X a (tOpd X.K cl W o1)) (hb : PE X b (tOpd X.K cl W o2)) :
    PT X (.Compare a [op] [b] pos) (tT X.K cl W (bE (fN g [o1, o2]))) := PT.imp (pt_cmpR ho ha hb hm) fun σ H Q ⟨τ, κ, env, r, l, q⟩ => by
  refine tA_os (os := [o1, o2]) (fN_tA hs ⟨τ, κ, env, r, l, ?_⟩)
  unfold bE at q
  cases e : fN g [o1, o2] env with
  | ok d env1 =>
    rw [e] at q
    have hk : ∃ k, d = .bl k := by
      unfold fN at e
      cases e2 : evs [o1, o2] env with
      | ok ds env2 =>
        rw [e2] at e
        simp only [Rs.bind_ok] at e
        split at e
        · rename_i d' e3
          cases e
          obtain ⟨p, _, e3⟩ := Option.bind_eq_some_iff.mp e3
          exact hb2 _ _ e3
        · cases e
      | exc _ _ _ _ => rw [e2] at e; cases e
      | stuck => rw [e2] at e; cases e
    obtain ⟨k, rfl⟩ := hk
    intro v H' r2
    obtain ⟨M, f, hd⟩ := r2.head
    exact ⟨k, hd.1, q H' r2.pop⟩
  | exc _ _ _ _ => rw [e] at q; exact q
  | stuck => rw [e] at q; exact q
variable {ba bb : EvB}
theorem t_and (ha : PT X a (tT X.K cl W ba)) (hb : PW X (.BoolOp .And (b :: rest) pos) (tT X.K cl W bb)) : PW X (.BoolOp .And (a :: b :: rest) pos) (tT X.K cl W (bAnd ba bb)) := ⟨fun whole pins s σ H Q I ⟨τ, κ, env, r, l, q⟩ => by
  refine (pw_and ha hb).run whole pins s σ H Q I (tT_bind r l q fun k env1 H1 h1 r1 => ?_)
  cases k with
  | true => rw [if_pos rfl] at h1 ⊢; exact ⟨τ, κ, env1, r1, l, h1⟩
  | false => rw [if_neg Bool.false_ne_true] at h1 ⊢; exact h1 H1 r1⟩
theorem t_or (ha : PT X a (tT X.K cl W ba)) (hb : PW X (.BoolOp .Or (b :: rest) pos) (tT X.K cl W bb)) : PW X (.BoolOp .Or (a :: b :: rest) pos) (tT X.K cl W (bOr ba bb)) := ⟨fun whole pins s σ H Q I ⟨τ, κ, env, r, l, q⟩ => by
  refine (pw_or ha hb).run whole pins s σ H Q I (tT_bind r l q fun k env1 H1 h1 r1 => ?_)
  cases k with
  | false => rw [if_neg Bool.false_ne_true] at h1 ⊢; exact ⟨τ, κ, env1, r1, l, h1⟩
  | true => rw [if_pos rfl] at h1 ⊢; exact h1 H1 r1⟩
theorem t_and1 (ha : PT X a (tT X.K cl W ba)) : PW X (.BoolOp .And [a] pos) (tT X.K cl W ba) := pw_and1 ha
theorem t_or1 (ha : PT X a (tT X.K cl W ba)) : PW X (.BoolOp .Or [a] pos) (tT X.K cl W ba) := pw_or1 ha
theorem t_not (ha : PT X a (tT X.K cl W ba)) : PT X (.UnaryOp .Not a pos) (tT X.K cl W (bNot ba)) := PT.imp (pt_not ha) fun σ H Q ⟨τ, κ, env, r, l, q⟩ => tT_bind r l q fun k env1 H1 h1 r1 => h1 H1 r1
def fIf (t : EvB) (f g : Ev) : Ev := fun env => (t env).bind fun k env1 => if k = true then f env1 else g env1
theorem j_if (hc : PT X c (tT X.K cl W ba)) (ha : PE X a (tE X.K cl W fa)) (hb : PE X b (tE X.K cl W fb)) : PE X (.IfExp c a b pos) (tE X.K cl W (fIf ba fa fb)) := PE.imp (pe_ifExp hc ha hb) fun σ H Q ⟨τ, κ, env, r, l, q⟩ => tT_bind r l q fun k env1 H1 h1 r1 => by
  cases k with
  | true => rw [if_pos rfl] at h1 ⊢; exact ⟨τ, κ, env1, r1, l, h1⟩
  | false => rw [if_neg Bool.false_ne_true] at h1 ⊢; exact ⟨τ, κ, env1, r1, l, h1⟩
/-- a < b < c -/
def fChain (g g' : List D → Option D) (fa fb fc : Ev) : Ev := fun env => (fa env).bind fun x env1 => (fb env1).bind fun y env2 => match g [x, y] with
  | some (.bl true) => (fc env2).bind fun z env3 => match g' [y, z] with
    | some d => .ok d env3
    | none => .stuck
  | some (.bl false) => .ok (.bl false) env2
  | _ => .stuck
theorem tE_bind1 {β : Type} {K : PySem.W.Frag} {f : Ev} {k : D → Tw.Env → Rs β} {ok : β → Tw.Env → Prop} {A : Tw.Env} {Y τ σ : S} {κ env : Tw.Env} {H : Hp} {Q : VK} (ly : Y.length = A.length) (r : Rel K cl H (A ++ (κ ++ env)) (Y ++ (τ ++ σ))) (l : τ.length = κ.length) (h : ((f env).bind k).P ok (WP K cl W κ τ σ))
    (hk : ∀ d env1 v H1, (k d env1).P ok (WP K cl W κ τ σ) → Rel K cl H1 (some d :: (A ++ (κ ++ env1))) (some v :: (Y ++ (τ ++ σ))) → Q v H1) : tE K cl W f σ H Q := by
  refine ⟨Y ++ τ, A ++ κ, env, by rwa [List.append_assoc, List.append_assoc], by simp [ly, l], ?_⟩
  cases e : f env with
  | ok d env1 =>
    rw [e] at h
    exact fun v H1 r1 => hk d env1 v H1 h (by rwa [List.append_assoc, List.append_assoc] at r1)
  | exc c ns ds env1 => rw [e] at h; exact WP.weak ly h
  | stuck => rw [e] at h; exact h
theorem rd_chain {K : PySem.W.Frag} {r r' : R2} {g g' : List D → Option D} (hs : OpS K cl (rw2 r) g) (hs' : OpS K cl (rw2 r') g') {σ : S} {H : Hp} {Q : VK} (h : tE K cl W (fChain g g' fa fb fc) σ H Q) : tChain r r' (tE K cl W fa) (tE K cl W fb) (tE K cl W fc) σ H Q := by
  obtain ⟨τ, κ, env, r, l, q⟩ := h
  refine tE_bind r l q fun d env1 v H1 h1 r1 => ?_
  refine tE_bind1 (A := [some d]) (Y := [some v]) rfl r1 l h1 fun d2 env2 v2 H2 h2 r2 => ?_
  have r3 : Rel K cl H2 (List.map some [d, d2] ++ (κ ++ env2)) (List.map some [v, v2] ++ (τ ++ σ)) := Rel.swap3 (A := [some d2]) (X := [some v2]) (B := [some d]) (Y := [some v]) r2 rfl rfl
  cases eg : g [d, d2] with
  | none => rw [eg] at h2; exact h2.elim
  | some z =>
    rw [eg] at h2
    refine hs [d, d2] z [v, v2] H2 _ _ _ eg rfl r3 fun u H3 r4 => ?_
    cases z with
    | bl k =>
      obtain ⟨M, f, hz⟩ := r4.head
      refine ⟨k, hz.1, ?_⟩
      have r5 := r4.pop
      cases k with
      | true =>
        rw [if_pos rfl]
        refine tE_bind1 (A := [some d, some d2]) (Y := [some v, some v2]) rfl r5 l h2 fun d3 env3 v3 H4 h4 r6 => ?_
        have r7 : Rel K cl H4 (List.map some [d2, d3] ++ (κ ++ env3)) (List.map some [v2, v3] ++ (τ ++ σ)) :=
          Rel.swap3 (A := [some d3]) (X := [some v3]) (B := [some d2]) (Y := [some v2]) (Rel.drop (A := [some d]) (X := [some v]) (Rel.swap3 (A := [some d3]) (X := [some v3]) (B := [some d]) (Y := [some v]) r6 rfl rfl) rfl) rfl rfl
        cases eg' : g' [d2, d3] with
        | none => simp only [eg'] at h4; exact h4.elim
        | some w =>
          simp only [eg'] at h4
          refine hs' [d2, d3] w [v2, v3] H4 _ _ _ eg' rfl r7 fun u' H5 r8 => h4 u' H5 ?_
          exact Rel.drop (A := [some d2, some d3]) (X := [some v2, some v3]) (Rel.swap3 (A := [some w]) (X := [some u']) (B := [some d2, some d3]) (Y := [some v2, some v3]) r8 rfl rfl) rfl
      | false =>
        rw [if_neg Bool.false_ne_true]
        exact h2 _ _ ((Rel.drop (A := [some d, some d2]) (X := [some v, some v2]) r5 rfl).push fun M => dbl)
    | _ => exact h2.elim
theorem j_chain {op op' : CmpOp} {r r' : R2} {g g' : List D → Option D} (ho : OpR X (compareOp op) r) (hs : OpS X.K cl (rw2 r) g) (ho' : OpR X (compareOp op') r') (hs' : OpS X.K cl (rw2 r') g')
    (ha : PE X a (tE X.K cl W fa)) (hb : PE X b (tE X.K cl W fb)) (hc : PE X c (tE X.K cl W fc)) (hm : lastMarks [op, op'] [b, c] = false := by with_unfolding_all rfl) :
    PE X (.Compare a [op, op'] [b, c] pos) (tE X.K cl W (fChain g g' fa fb fc)) := PE.imp (pe_chain ho ho' ha hb hc hm) fun σ H Q h => rd_chain hs hs' h
theorem t_chain {op op' : CmpOp} {r r' : R2} {g g' : List D → Option D} (ho : OpR X (compareOp op) r) (hs : OpS X.K cl (rw2 r) g) (ho' : OpR X (compareOp op') r') (hs' : OpS X.K cl (rw2 r') g') (hb2 : ∀ as d, g' as = some d → ∃ k, d = .bl k)
    (ha : PE X a (tE X.K cl W fa)) (hb : PE X b (tE X.K cl W fb)) (hc : PE X c (tE X.K cl W fc)) (hm : lastMarks [op, op'] [b, c] = false := by with_unfolding_all rfl) :
    PT X (.Compare a [op, op'] [b, c] pos) (tT X.K cl W (bE (fChain g g' fa fb fc))) := PT.imp (pt_chain ho ho' ha hb hc hm) fun σ H Q ⟨τ, κ, env, r, l, q⟩ => by
  refine rd_chain hs hs' ⟨τ, κ, env, r, l, ?_⟩
  unfold bE at q
  cases e : fChain g g' fa fb fc env with
  | ok d env1 =>
    rw [e] at q
    have hk : ∃ k, d = .bl k := by
      unfold fChain at e
      cases e1 : fa env with
      | ok x env1 =>
        rw [e1, Rs.bind_ok] at e
        cases e2 : fb env1 with
        | ok y env2 =>
          rw [e2, Rs.bind_ok] at e
          split at e
          · cases e3 : fc env2 with
            | ok z env3 =>
              rw [e3, Rs.bind_ok] at e
              split at e
              · rename_i d' e4
                cases e
                exact hb2 _ _ e4
              · cases e
            | exc _ _ _ _ => rw [e3] at e; cases e
            | stuck => rw [e3] at e; cases e
          · cases e; exact ⟨_, rfl⟩
          · cases e
        | exc _ _ _ _ => rw [e2] at e; cases e
        | stuck => rw [e2] at e; cases e
      | exc _ _ _ _ => rw [e1] at e; cases e
      | stuck => rw [e1] at e; cases e
    obtain ⟨k, rfl⟩ := hk
    intro v H' r2
    obtain ⟨M, f, hd⟩ := r2.head
    exact ⟨k, hd.1, q H' r2.pop⟩
  | exc _ _ _ _ => rw [e] at q; exact q
  | stuck => rw [e] at q; exact q
theorem int2_bl {p : Int → Int → Bool} {as : List D} {d : D} (h : gInt2 (fun i j => some (.bl (p i j))) as = some d) : ∃ k, d = .bl k := by
  match as, h with
  | [.int i, .int j], h => cases h; exact ⟨_, rfl⟩
theorem eq_bl {as : List D} {d : D} (h : gEq as = some d) : ∃ k, d = .bl k := by
  match as, h with
  | [a, b], h =>
    simp only [gEq, Option.bind_eq_some_iff] at h
    obtain ⟨_, _, _, _, h⟩ := h
    split at h
    · cases h; exact ⟨_, rfl⟩
    · cases h
theorem ne_bl {as : List D} {d : D} (h : gNe as = some d) : ∃ k, d = .bl k := by
  match as, h with
  | [a, b], h =>
    simp only [gNe, Option.bind_eq_some_iff] at h
    obtain ⟨_, _, _, _, h⟩ := h
    split at h
    · cases h; exact ⟨_, rfl⟩
    · cases h
theorem isN_bl {as : List D} {d : D} (h : gIsN as = some d) : ∃ k, d = .bl k := by
  match as, h with
  | [a, .non], h => cases h; exact ⟨_, rfl⟩
theorem notN_bl {as : List D} {d : D} (h : gNotN as = some d) : ∃ k, d = .bl k := by
  match as, h with
  | [a, .non], h => cases h; exact ⟨_, rfl⟩
end
end Tw
noncomputable section
namespace Tw
open PySem PySem.Spec PyProof.Rows L2
/-! ### slices -/
def cutD {α : Type} (xs : List α) (lo hi : Option Int) : List α := (xs.drop (HT.sIx xs.length 0 lo)).take (HT.sIx xs.length xs.length hi - HT.sIx xs.length 0 lo)
def gSl : D → Option Int → Option Int → Option D
  | .lst _ xs, lo, hi => if D.oks xs then some (.lst true (cutD xs lo hi)) else none
  | .tup xs, lo, hi => if D.oks xs then some (.tup (cutD xs lo hi)) else none
  | .scr ns, lo, hi => some (.lst true ((cutD ns lo hi).map .int))
  | _, _, _ => none
def D.asI : D → Option Int
  | .int i => some i
  | _ => none
def fPart : Option Ev → Tw.Env → Rs (Option Int)
  | none, env => .ok none env
  | some f, env => (f env).bind fun d env1 => match D.asI d with
    | some i => .ok (some i) env1
    | none => .stuck
def fSl (fa : Ev) (lo hi : Option Ev) : Ev := fun env => (fa env).bind fun d env1 => (fPart lo env1).bind fun l env2 => (fPart hi env2).bind fun h env3 => match gSl d l h with
  | some r => .ok r env3
  | none => .stuck
section
variable {X : Cx} {cl : Nat → Addr} {W : WX} {a b c e : Expr} {es : List Expr} {pos p : Pos} {x : Str} {fa fb fc : Ev}
theorem dat_asI {K M H} {d : D} {i : Int} {v : V} {f : List Addr} (h : Dat K cl M H d v f) (e : D.asI d = some i) : v = .int i := by
  cases d with
  | int c => cases e; exact h.1
  | _ => cases e
theorem cutD_dats {K M H} {ds : List D} {vs : List V} (h : Dats K cl M H ds vs []) (lo hi : Option Int) : Dats K cl M H (cutD ds lo hi) (cutV vs lo hi) [] := by
  unfold cutD cutV
  rw [dats_length h]
  exact dats_take _ (dats_drop _ h)
theorem cutV_whole {xs : List V} {lo hi : Option Int} (h : HT.sIx xs.length 0 lo = 0 ∧ HT.sIx xs.length xs.length hi = xs.length) : cutV xs lo hi = xs := by
  unfold cutV
  rw [h.1, h.2]
  simp
theorem cut_ints (ns : List Int) (lo hi : Option Int) : cutV (ns.map V.int) lo hi = (cutD ns lo hi).map V.int := by
  unfold cutV cutD
  rw [List.length_map, List.map_take, List.map_drop]
def PartOk (X : Cx) (cl : Nat → Addr) (W : WX) (e : Option Expr) (f : Option Ev) (t : TO) : Prop := PO X e t ∧ ((f = none ∧ t = tNoPart) ∨ ∃ g, f = some g ∧ t = tPart (tE X.K cl W g))
theorem part_none : PartOk X cl W none none tNoPart := ⟨po_none, .inl ⟨rfl, rfl⟩⟩
theorem part_some (h : PE X e (tE X.K cl W fa)) : PartOk X cl W (some e) (some fa) (tPart (tE X.K cl W fa)) := ⟨po_some h, .inr ⟨_, rfl, rfl⟩⟩
theorem rd_part {K : PySem.W.Frag} {f : Option Ev} {t : TO} (ht : (f = none ∧ t = tNoPart) ∨ ∃ g, f = some g ∧ t = tPart (tE K cl W g)) {β : Type} {k : Option Int → Tw.Env → Rs β} {ok : β → Tw.Env → Prop} {A : Tw.Env} {Y τ σ : S} {κ env : Tw.Env} {H : Hp} {Q : Option Int → Hp → Prop}
    (ly : Y.length = A.length) (r : Rel K cl H (A ++ (κ ++ env)) (Y ++ (τ ++ σ))) (l : τ.length = κ.length) (h : ((fPart f env).bind k).P ok (WP K cl W κ τ σ))
    (hk : ∀ i env1 H1, (k i env1).P ok (WP K cl W κ τ σ) → Rel K cl H1 (A ++ (κ ++ env1)) (Y ++ (τ ++ σ)) → Q i H1) : t σ H Q := by
  rcases ht with ⟨rfl, rfl⟩ | ⟨g, rfl, rfl⟩
  · exact hk none env H h r
  · have h2 : ((g env).bind fun d env1 => (match D.asI d with | some i => Rs.ok (some i) env1 | none => Rs.stuck).bind k).P ok (WP K cl W κ τ σ) := by
      cases e : g env with
      | ok d env1 => simp only [fPart, e, Rs.bind_ok] at h ⊢; exact h
      | exc _ _ _ _ => simp only [fPart, e, Rs.bind_exc] at h ⊢; exact h
      | stuck => simp only [fPart, e, Rs.bind_stuck] at h ⊢; exact h
    refine tE_bind1 ly r l h2 fun d env1 v H1 h1 r1 => ?_
    cases e2 : D.asI d with
    | none => rw [e2] at h1; exact h1.elim
    | some i =>
      rw [e2] at h1
      obtain ⟨M, f, hd⟩ := r1.head
      exact ⟨i, dat_asI hd e2, hk _ _ _ h1 r1.pop⟩
def rSlF (K : PySem.W.Frag) : V → Option Int → Option Int → Hp → VK → Prop := fun x lo hi H Q => ∃ a xs, x = .ref a ∧ SqT K H a xs ∧
  (HT.sIx xs.length 0 lo = 0 ∧ HT.sIx xs.length xs.length hi = xs.length → Q (.ref a) H) ∧ (¬ (HT.sIx xs.length 0 lo = 0 ∧ HT.sIx xs.length xs.length hi = xs.length) → ∀ p its, H p = none → Q (.ref p) (upd H p (tupH its (cutV xs lo hi))))
theorem sl_tupF : SlR X (rSlF X.K) := by
  intro pins s σ H x v vl vu lo hi sl Q I rx hs pl pu h
  obtain ⟨a, xs, rfl, hx, q1, q2⟩ := h
  cases rx
  obtain ⟨its, r, ht, hz⟩ := I.tuple hx
  have hlen : its.toArray.size = xs.length := by rw [List.size_toArray]; exact r.length.symm
  refine ⟨"tuple", _, PyProof.Rows.slot_tuple_getitem.lookup, ht.typeIs, ?_⟩
  by_cases hw : HT.sIx xs.length 0 lo = 0 ∧ HT.sIx xs.length xs.length hi = xs.length
  · exact getItem_tuple_whole ht hs pl pu (by rw [hlen]; exact hw) ⟨.ref a, H, I, rfl, q1 hw⟩
  · refine HT.getItem_tuple_cut ht hs pl pu (by rw [hlen]; exact hw) ?_ (by rw [hlen]; exact hz)
    rw [hlen]
    exact ⟨.ref s.heap.objs.size, _, laidT (t' := s.toks) I ((r.drop (HT.sIx xs.length 0 lo)).take (HT.sIx xs.length xs.length hi - HT.sIx xs.length 0 lo)) (Nat.le_trans (cutV_length xs lo hi) hz), rfl, q2 hw _ _ (I.hok.fresh (Nat.le_refl _))⟩
def rSlAll (K : PySem.W.Frag) : V → Option Int → Option Int → Hp → VK → Prop := fun x lo hi H Q => rSlL K x lo hi H Q ∨ rSlF K x lo hi H Q
theorem sl_all : SlR X (rSlAll X.K) := sl_list.or sl_tupF
theorem j_sl {lo hi : Option Expr} {fl fh : Option Ev} {tl th : TO} {p2 : Pos} (he : PE X a (tE X.K cl W fa)) (hl : PartOk X cl W lo fl tl) (hh : PartOk X cl W hi fh th) : PE X (.Subscript a (.Slice lo hi none p2) pos) (tE X.K cl W (fSl fa fl fh)) :=
  PE.imp (pe_slice sl_all he hl.1 hh.1) fun σ H Q ⟨τ, κ, env, r, l, q⟩ => by
  refine tE_bind r l q fun d env1 v H1 h1 r1 => ?_
  refine rd_part (A := [some d]) (Y := [some v]) hl.2 rfl r1 l h1 fun lo env2 H2 h2 r2 => ?_
  refine rd_part (A := [some d]) (Y := [some v]) hh.2 rfl r2 l h2 fun hi env3 H3 h3 r3 => ?_
  cases e : gSl d lo hi with
  | none => rw [e] at h3; exact h3.elim
  | some d2 =>
    rw [e] at h3
    have r4 : Rel X.K cl H3 (List.map some [d] ++ (κ ++ env3)) (List.map some [v] ++ (τ ++ σ)) := r3
    have fin : ∀ {d2 v2 H4}, Rel X.K cl H4 (some d2 :: (List.map some [d] ++ (κ ++ env3))) (some v2 :: (List.map some [v] ++ (τ ++ σ))) → Rel X.K cl H4 (some d2 :: (κ ++ env3)) (some v2 :: (τ ++ σ)) := fun {d2 v2 H4} r5 =>
      Rel.drop (A := [some d]) (X := [some v]) (Rel.swap3 (A := [some d2]) (X := [some v2]) (B := [some d]) (Y := [some v]) r5 rfl rfl) rfl
    cases d with
    | lst m us =>
      simp only [gSl] at e
      split at e
      · rename_i c
        cases e
        obtain ⟨f, g, n, hh, hr⟩ := r4.split rfl
        obtain ⟨ad, xs, g1, e1, t1, d1, _⟩ := dats1 hh
        subst e1
        exact .inl ⟨ad, xs, rfl, .of t1, fun p hp => h3 _ _ (fin (newL n hh hr hp (cutD_dats (oks_nil d1 c) lo hi)))⟩
      · cases e
    | tup us =>
      simp only [gSl] at e
      split at e
      · rename_i c
        cases e
        obtain ⟨f, g, n, hh, hr⟩ := r4.split rfl
        obtain ⟨ad, xs, e1, t1, d1⟩ := dats1 hh
        subst e1
        have d2 := cutD_dats (oks_nil d1 c) lo hi
        refine .inr ⟨ad, xs, rfl, t1.sq, fun z => h3 _ _ (fin (derive n hh hr ⟨ad, xs, rfl, t1, ?_⟩)), fun _ p its hp => h3 _ _ (fin (newT n hh hr hp d2))⟩
        rwa [cutV_whole z] at d2
      · cases e
    | scr ns =>
      cases e
      obtain ⟨f, g, n, hh, hr⟩ := r4.split rfl
      obtain ⟨_, ad, e1, t1⟩ := dats1 hh
      subst e1
      refine .inl ⟨ad, _, rfl, t1.sq, fun p hp => h3 _ _ (fin (newL n hh hr hp ?_))⟩
      rw [cut_ints]
      exact ints_dats _
    | _ => simp [gSl] at e
/-! ### attributes -/
def lookD : List Str → List D → Str → Option D
  | n :: ns, d :: ds, x => if x = n then some d else lookD ns ds x
  | _, _, _ => none
def gFld (own : Nat → Bool) (f : Str) : List D → Option D
  | [.obj _ c ns ds] => if own c then (lookD ns ds f).bind fun d => if D.ok d then some d else none else none
  | _ => none
theorem lookD_dats {K M H} {f : Str} : ∀ {ns : List Str} {ds : List D} {vs : List V} {g : List Addr} {d : D}, Dats K cl M H ds vs g → lookD ns ds f = some d → D.ok d = true → ∃ v, (ns.zip vs).lookup f = some v ∧ Dat K cl M H d v []
  | n :: ns, d' :: ds, vs, g, d, h, e, o => by
    obtain ⟨v, vs', f1, f2, rfl, _, h1, h2⟩ := h
    unfold lookD at e
    by_cases c : f = n
    · rw [if_pos c] at e
      cases e
      refine ⟨v, by rw [List.zip_cons_cons, c, List.lookup_cons_self], ?_⟩
      have e2 := dat_ok h1 o
      rwa [e2] at h1
    · rw [if_neg c] at e
      obtain ⟨v', e1, hd⟩ := lookD_dats h2 e o
      refine ⟨v', ?_, hd⟩
      have c' : (f == n) = false := by simpa using c
      rw [List.zip_cons_cons, List.lookup_cons, c', e1]
  | [], _, _, _, _, _, e, _ => by cases e
  | _ :: _, [], _, _, _, _, e, _ => by cases e
def rFld (K : PySem.W.Frag) (f : Str) : V → Hp → VK → Prop := fun x H1 Q => ∃ a C dx fs v, x = .ref a ∧ H1 a = some (.ins C dx fs) ∧ Cls K C ∧ NoAttr K C f ∧ fs.lookup f = some v ∧ Q v H1
structure FldOk (K : PySem.W.Frag) (cl : Nat → Addr) (own : Nat → Bool) (f : Str) : Prop where
  ok : ∀ c, own c = true → ClsF K (cl c) ∧ NoAttr K (cl c) f
theorem s_fld {K : PySem.W.Frag} {own : Nat → Bool} {f : Str} (ho : FldOk K cl own f) : OpS K cl (rw1 (rFld K f)) (gFld own f) := by
  intro as d vs H κ τ Q h l r q
  match as, h with
  | [.obj m c ns ds], h =>
    obtain ⟨x, rfl⟩ := one_of rfl l
    simp only [gFld] at h
    split at h
    · rename_i hc
      obtain ⟨d', e, h⟩ := Option.bind_eq_some_iff.mp h
      split at h
      · rename_i o
        cases h
        obtain ⟨f, g, n, hh, hr⟩ := r.split l
        obtain ⟨a, dx, xs, g1, e1, t1, l1, d1, _⟩ := dats1 hh
        subst e1
        obtain ⟨v, e2, hv⟩ := lookD_dats d1 e o
        exact ⟨a, _, dx, _, v, rfl, t1, (ho.ok c hc).1.c, (ho.ok c hc).2, e2, q _ _ (derive n hh hr hv)⟩
      · cases h
    · cases h
theorem j_fld {o1 : Opd} {own : Nat → Bool} {f : Str} (ho : FldOk X.K cl own f) (ha : PE X a (tOpd X.K cl W o1)) (hb : attributeBase a f X.env (eval a X.env) = eval a X.env := by rfl) : PE X (.Attribute a f pos) (tE X.K cl W (fN (gFld own f) [o1])) :=
  PE.imp (pe_fld ha hb) fun σ H Q h => tA_os (os := [o1]) (fN_tA (r := rw1 (rFld X.K f)) (s_fld ho) h)
end
/-! ### calls of defs -/
inductive Rf where
  | ret (d : D) (ios : List D) | exc (c : Nat) (ns : List Str) (ds : List D) (ios : List D) | stuck
def spD (K : PySem.W.Frag) (cl : Nat → Addr) (n : Nat) (io : List Nat) (h : List D → Rf) : Sp := fun vs H Q E => vs.length = n ∧ ∃ (τ : S) (κ : Tw.Env) (ds : List D), vs.length = ds.length ∧ τ.length = κ.length ∧ Rel K cl H (ds.map some ++ κ) (vs.map some ++ τ) ∧ match h ds with
  | .ret d ios => ∀ (v : V) (H' : Hp) (us : List V), io.map (fun i => vs[i]?) = us.map some → Rel K cl H' (some d :: (ios.map some ++ κ)) (some v :: (us.map some ++ τ)) → Q v H'
  | .exc c ns es ios => ∀ (cls : Value) (dd : Option Addr) (H' : Hp) (ws us : List V), ExAt cl H' cls dd c ns ws → ws.length = es.length → io.map (fun i => vs[i]?) = us.map some → Rel K cl H' (es.map some ++ (ios.map some ++ κ)) (ws.map some ++ (us.map some ++ τ)) → E cls dd H'
  | .stuck => False
/-- a def that does what h tells -/
def FnD (P : Program) (w : World) (K : PySem.W.Frag) (mg : Str → Option Value) (base : Heap) (cl : Nat → Addr) (name : Str) (k n : Nat) (io : List Nat) (h : List D → Rf) : Prop :=
  ∃ f fd ps, mg name = some (.ref f) ∧ PySem.W.keepIn K (.ref f) = true ∧ Binds K fd ps [] ∧ FnOk P w K mg base (L2.CX P w) k f fd ps (spD K cl n io h)
def putIo (os : List Opd) : List Nat → List D → Tw.Env → Option Tw.Env
  | [], [], env => some env
  | p :: io, d :: ios, env => match os[p]? with
    | some (.slot i) => putIo os io ios (env.set i (some d))
    | _ => none
  | _, _, _ => none
def fCall (io : List Nat) (h : List D → Rf) (os : List Opd) : Ev := fun env => (evs os env).bind fun ds env1 => match gat os ds env1 with
  | none => .stuck
  | some (as, env2) => match h as with
    | .ret d ios => match putIo os io ios env2 with
      | some env3 => .ok d env3
      | none => .stuck
    | .exc c ns es ios => match putIo os io ios env2 with
      | some env3 => .exc c ns es env3
      | none => .stuck
    | .stuck => .stuck
section
variable {X : Cx} {cl : Nat → Addr} {W : WX} {a b c e : Expr} {es : List Expr} {pos p : Pos} {x : Str}
theorem full_at : ∀ {os : List Opd} {us : List V} {σ : S} {vs : List V} {p i : Nat}, Full os us σ vs → os[p]? = some (.slot i) → ∃ v, vs[p]? = some v ∧ σ[i]? = some (some v)
  | .val _ :: os, us, σ, vs, 0, i, h, e => by cases e
  | .val _ :: os, us, σ, vs, p + 1, i, h, e => by
    obtain ⟨u, us', vs', rfl, rfl, h⟩ := h
    exact full_at (p := p) h (by simpa using e)
  | .slot j :: os, us, σ, vs, 0, i, h, e => by
    obtain ⟨v, vs', e2, rfl, h⟩ := h
    cases e
    exact ⟨v, rfl, e2⟩
  | .slot j :: os, us, σ, vs, p + 1, i, h, e => by
    obtain ⟨v, vs', e2, rfl, h⟩ := h
    exact full_at (p := p) h (by simpa using e)
  | [], _, _, _, _, _, _, e => by simp at e
theorem put_rel {K : PySem.W.Frag} {os : List Opd} {us : List V} {σ : S} {vs : List V} (fu : Full os us σ vs) : ∀ {io : List Nat} {ios : List D} {env env' : Tw.Env} {ws : List V} {H : Hp} {A : Tw.Env} {Y : S} {κ : Tw.Env} {τ : S}, putIo os io ios env = some env' → Y.length = A.length → τ.length = κ.length → σ.length = env.length → io.map (fun i => vs[i]?) = ws.map some →
    Rel K cl H (A ++ (ios.map some ++ (κ ++ env))) (Y ++ (ws.map some ++ (τ ++ σ))) → Rel K cl H (A ++ (κ ++ env')) (Y ++ (τ ++ σ))
  | [], [], env, env', ws, H, A, Y, κ, τ, e, ly, l, ls, ew, r => by
    cases e
    have e2 : ws = [] := by simpa using ew.symm
    subst e2
    exact r
  | p :: io, d :: ios, env, env', ws, H, A, Y, κ, τ, e, ly, l, ls, ew, r => by
    unfold putIo at e
    split at e
    · rename_i i e1
      obtain ⟨v, e2, e3⟩ := full_at fu e1
      cases ws with
      | nil => simp at ew
      | cons w ws =>
        simp only [List.map_cons, List.cons.injEq] at ew
        obtain ⟨ew1, ew⟩ := ew
        rw [e2] at ew1
        cases ew1
        have lw : ws.length = ios.length := by
          have q := r.len
          simp only [List.length_append, List.length_map, List.length_cons] at q
          omega
        have r2 : Rel K cl H (some d :: ((A ++ ios.map some) ++ (κ ++ env))) (some v :: ((Y ++ ws.map some) ++ (τ ++ σ))) := by
          have r3 := Rel.swap3 (A := A) (X := Y) (B := [some d]) (Y := [some v]) (C := ios.map some ++ (κ ++ env)) (Z := ws.map some ++ (τ ++ σ)) r ly rfl
          rw [List.append_assoc, List.append_assoc]
          exact r3
        have e4 : ((Y ++ ws.map some) ++ (τ ++ σ))[(Y ++ ws.map some).length + (τ.length + i)]? = some (some v) := by
          rw [List.getElem?_append_right (by omega), Nat.add_sub_cancel_left, List.getElem?_append_right (by omega), Nat.add_sub_cancel_left]
          exact e3
        have r4 := Rel.back r2 e4
        have e5 : ((A ++ ios.map some) ++ (κ ++ env)).set ((Y ++ ws.map some).length + (τ.length + i)) (some d) = A ++ (ios.map some ++ (κ ++ env.set i (some d))) := by
          have e6 : (Y ++ ws.map some).length = (A ++ ios.map some).length := by simp [ly, lw]
          rw [e6, l, List.set_append_right _ _ (by omega), Nat.add_sub_cancel_left, List.set_append_right _ _ (by omega), Nat.add_sub_cancel_left, List.append_assoc]
        rw [e5] at r4
        rw [List.append_assoc] at r4
        exact put_rel fu (io := io) (ios := ios) (env := env.set i (some d)) e ly l (by simp [ls]) ew r4
    · cases e
  | [], _ :: _, _, _, _, _, _, _, _, _, e, _, _, _, _, _ => by cases e
  | _ :: _, [], _, _, _, _, _, _, _, _, e, _, _, _, _, _ => by cases e
theorem gat_len : ∀ {os : List Opd} {ds as : List D} {env env' : Tw.Env}, gat os ds env = some (as, env') → env'.length = env.length
  | [], [], _, _, _, e => by cases e; rfl
  | [], _ :: _, _, _, _, e => by cases e
  | .val _ :: os, d :: ds, _, _, _, e => by
    simp only [gat, Option.map_eq_some_iff] at e
    obtain ⟨⟨as', e3⟩, g, e⟩ := e
    cases e
    exact gat_len g
  | .val _ :: os, [], _, _, _, e => by cases e
  | .slot i :: os, ds, _, env, _, e => by
    unfold gat at e
    split at e
    · simp only [Option.map_eq_some_iff] at e
      obtain ⟨⟨as', e3⟩, g, e⟩ := e
      cases e
      rw [gat_len g, List.length_set]
    · cases e
theorem rd_call {K : PySem.W.Frag} {n : Nat} {io : List Nat} {h : List D → Rf} {os : List Opd} (hn : os.length = n) {σ : S} {H : Hp} {Q : VK} (q : tE K cl W (fCall io h os) σ H Q) : tCallSD (spD K cl n io h) [] (fun σ cls dd H' => W cls dd σ H') (tOs K cl W os) σ H Q := by
  obtain ⟨τ, κ, env, r, l, q⟩ := q
  refine tA_os (os := os) ⟨τ, κ, env, r, l, ?_⟩
  have l0 : σ.length = env.length := by
    have z := r.len
    simp only [List.length_append] at z
    omega
  unfold fCall at q
  cases e1 : evs os env with
  | ok ds env1 =>
    rw [e1, Rs.bind_ok] at q
    intro us vs H' l2 r2 fu
    cases e2 : gat os ds env1 with
    | none => rw [e2] at q; exact q.elim
    | some pr =>
      obtain ⟨as, env2⟩ := pr
      rw [e2] at q
      simp only at q
      obtain ⟨l3, r3, _⟩ := gat_rel r2 l2 l fu e2
      have l1 : σ.length = env2.length := by
        have z := r3.len
        simp only [List.length_append, List.length_map] at z
        omega
      rw [List.append_nil]
      refine ⟨by rw [fu.len, hn], τ ++ σ, κ ++ env2, as, l3.symm, by simp [l, l1], r3, ?_⟩
      cases e3 : h as with
      | ret d ios =>
        rw [e3] at q
        simp only at q
        cases e4 : putIo os io ios env2 with
        | none => rw [e4] at q; exact q.elim
        | some env3 =>
          rw [e4] at q
          intro v H2 ws ew r4
          exact q v H2 (put_rel fu (A := [some d]) (Y := [some v]) e4 rfl l l1 ew r4)
      | exc c ns es ios =>
        rw [e3] at q
        simp only at q
        cases e4 : putIo os io ios env2 with
        | none => rw [e4] at q; exact q.elim
        | some env3 =>
          rw [e4] at q
          intro cls dd H2 xs ws ex lx ew r4
          exact q cls dd H2 xs ex (put_rel fu (A := es.map some) (Y := xs.map some) e4 (by simp [lx]) l l1 ew r4) lx.symm
      | stuck => rw [e3] at q; exact q.elim
  | exc _ _ _ _ => rw [e1] at q; exact q
  | stuck => rw [e1] at q; exact q
theorem j_call {name : Str} {k m n : Nat} {io : List Nat} {h : List D → Rf} {os : List Opd} (F : FnD X.prog X.w X.K X.mg X.base cl name k n io h) (tk : Takes X W) (hr : Room m X.A) (hkm : k ≤ m) (hn : os.length = n) (ha : PA X (e :: es) (tOs X.K cl W os)) (hg : Gl X name := by rfl)
    (hdb : (name == ("__debug__" : Str)) = false := by decide) (he : starEach (e :: es) X.env = (false, eval e X.env) :: starEach es X.env := by rfl) (hpl : (backTo pos (starEach es X.env)).any (·.1) = false := by rfl) :
    PE X (.Call (.Name name p) (e :: es) [] pos) (tE X.K cl W (fCall io h os)) := by
  obtain ⟨f, fd, ps, hm, hk, hb, F⟩ := F
  exact PE.imp (pe_callSD (dvs := []) (E := fun σ cls dd H' => W cls dd σ H') F (hr.mono hkm) hg hm hk hb .nil (fun σ => passAt tk σ) ha hdb he hpl) fun σ H Q q => rd_call hn q
end
end Tw
noncomputable section
namespace Tw
open PySem PySem.Spec PyProof.Rows L2
/-! ### targets -/
abbrev Bd := D → Tw.Env → Option Tw.Env
def Off (ts : List Nat) (σ σ' : S) : Prop := σ'.length = σ.length ∧ ∀ j, j ∉ ts → σ'[j]? = σ[j]?
def tG (K : PySem.W.Frag) (cl : Nat → Addr) (ts : List Nat) (b : Bd) : TG := fun v σ H Q => ∃ (τ : S) (κ env : Tw.Env) (d : D), Rel K cl H (some d :: (κ ++ env)) (some v :: (τ ++ σ)) ∧ τ.length = κ.length ∧
  ∃ env', b d env = some env' ∧ ∀ σ' H', Off ts σ σ' → Rel K cl H' (κ ++ env') (τ ++ σ') → Q σ' H'
def tGs (K : PySem.W.Frag) (cl : Nat → Addr) (ts : List Nat) (b : List D → Tw.Env → Option Tw.Env) : TGs := fun vs σ H Q => ∃ (τ : S) (κ env : Tw.Env) (ds : List D), Rel K cl H (ds.map some ++ (κ ++ env)) (vs.map some ++ (τ ++ σ)) ∧ τ.length = κ.length ∧ vs.length = ds.length ∧
  ∃ env', b ds env = some env' ∧ ∀ σ' H', Off ts σ σ' → Rel K cl H' (κ ++ env') (τ ++ σ') → Q σ' H'
def bNm (i : Nat) : Bd := fun d env => if i < env.length then some (env.set i (some d)) else none
def bNil : List D → Tw.Env → Option Tw.Env
  | [], env => some env
  | _, _ => none
def bCons (b : Bd) (r : List D → Tw.Env → Option Tw.Env) : List D → Tw.Env → Option Tw.Env
  | d :: ds, env => (b d env).bind fun env1 => r ds env1
  | _, _ => none
def bTp (r : List D → Tw.Env → Option Tw.Env) : Bd := fun d env => match d with
  | .tup ds => r ds env
  | .pr ds => r ds env
  | _ => none
section
variable {X : Cx} {cl : Nat → Addr} {W : WX} {a b c e : Expr} {es : List Expr} {pos p : Pos} {x : Str} {fa fb fc : Ev}
theorem PG.imp {t t' : TG} (h : PG X e t) (q : ∀ v σ H Q, t' v σ H Q → t v σ H Q) : PG X e t' := ⟨fun pins s σ H v u Q I r z => h.run pins s σ H v u Q I r (q v σ H Q z)⟩
theorem PGs.imp {t t' : TGs} (h : PGs X es t) (q : ∀ v σ H Q, t' v σ H Q → t v σ H Q) : PGs X es t' := ⟨fun pins s σ H v u Q I r z => h.run pins s σ H v u Q I r (q v σ H Q z)⟩
theorem Off.refl {ts : List Nat} {σ : S} : Off ts σ σ := ⟨rfl, fun _ _ => rfl⟩
theorem Off.trans {ts us : List Nat} {σ σ1 σ2 : S} (h : Off ts σ σ1) (h2 : Off us σ1 σ2) : Off (ts ++ us) σ σ2 :=
  ⟨h2.1.trans h.1, fun j hj => (h2.2 j fun z => hj (List.mem_append_right _ z)).trans (h.2 j fun z => hj (List.mem_append_left _ z))⟩
theorem Off.set {i : Nat} {σ : S} {v : Option V} : Off [i] σ (σ.set i v) := ⟨List.length_set, fun j hj => List.getElem?_set_ne fun e => hj (by rw [e]; exact List.mem_singleton_self _)⟩
theorem rd_nm {K : PySem.W.Frag} {i : Nat} {v : V} {σ : S} {H : Hp} {Q : S → Hp → Prop} (h : tG K cl [i] (bNm i) v σ H Q) : gName i v σ H Q := by
  obtain ⟨τ, κ, env, d, r, l, env', e, q⟩ := h
  unfold bNm at e
  split at e
  · rename_i c
    cases e
    have r2 := Rel.put (i := κ.length + i) r (by simp; omega)
    rw [List.set_append_right _ _ (by omega), Nat.add_sub_cancel_left, ← l, List.set_append_right _ _ (by omega), Nat.add_sub_cancel_left] at r2
    exact q _ H Off.set r2
  · cases e
theorem g_nm {i : Nat} {px : Pos} (hN : X.N.Nodup) (hi : X.N[i]? = some x := by rfl) (hx : Loc X.env.scope x := by first | exact .inl rfl | exact .inr rfl) (hf : X.fn x = true ∨ X.env.scope.names.lookup x = some .local := by first | exact .inl rfl | exact .inr rfl) : PG X (.Name x px) (tG X.K cl [i] (bNm i)) :=
  PG.imp (pg_name hN hi hx hf) fun v σ H Q h => rd_nm h
theorem gs_nil : PGs X [] (tGs X.K cl [] bNil) := PGs.imp pgs_nil fun vs σ H Q ⟨τ, κ, env, ds, r, l, lv, env', e, q⟩ => by
  cases ds with
  | nil =>
    cases vs with
    | nil => cases e; exact ⟨rfl, q σ H Off.refl r⟩
    | cons _ _ => simp at lv
  | cons _ _ => cases e
theorem gs_cons {ts us : List Nat} {bd : Bd} {r : List D → Tw.Env → Option Tw.Env} (h1 : PG X e (tG X.K cl ts bd)) (h2 : PGs X es (tGs X.K cl us r)) (hs : (assignEach (e :: es) X.env).map (·.2) = assign e X.env :: (assignEach es X.env).map (·.2) := by rfl) : PGs X (e :: es) (tGs X.K cl (ts ++ us) (bCons bd r)) :=
  PGs.imp (pgs_cons h1 h2 hs) fun vs σ H Q ⟨τ, κ, env, ds, r, l, lv, env', e, q⟩ => by
  cases ds with
  | nil => cases e
  | cons d ds =>
    cases vs with
    | nil => simp at lv
    | cons v vs =>
      obtain ⟨env1, e1, e2⟩ := Option.bind_eq_some_iff.mp e
      refine ⟨v, vs, rfl, vs.map some ++ τ, ds.map some ++ κ, env, d, ?_, by simp at lv; simp [l, lv], env1, e1, fun σ1 H1 o1 r1 => ?_⟩
      · rw [List.append_assoc, List.append_assoc]; exact r
      · rw [List.append_assoc, List.append_assoc] at r1
        exact ⟨τ, κ, env1, ds, r1, l, by simpa using lv, env', e2, fun σ2 H2 o2 r2 => q σ2 H2 (o1.trans o2) r2⟩
theorem Rel.unT {K : PySem.W.Frag} {H : Hp} {ds : List D} {v : V} {κ : Tw.Env} {τ : S} (r : Rel K cl H (some (.tup ds) :: κ) (some v :: τ)) (o : D.oks ds = true) : ∃ a vs, v = .ref a ∧ SqT K H a vs ∧ vs.length = ds.length ∧ Rel K cl H (ds.map some ++ κ) (vs.map some ++ τ) := by
  obtain ⟨f, g, n, hh, hr⟩ := Rel.split (as := [.tup ds]) (vs := [v]) r rfl
  obtain ⟨a, vs, e1, t1, d1⟩ := dats1 hh
  have e2 := dats_ok d1 o
  subst e2
  exact ⟨a, vs, e1, t1.sq, dats_length d1, _, n, slots_app (dats_slots d1) hr⟩
theorem Rel.unTo {K : PySem.W.Frag} {H : Hp} {ds : List D} {v : V} {κ : Tw.Env} {τ : S} (r : Rel K cl H (some (.tup ds) :: κ) (some v :: τ)) : ∃ a vs, v = .ref a ∧ SqT K H a vs ∧ vs.length = ds.length ∧ Rel K cl H (ds.map some ++ κ) (vs.map some ++ τ) := by
  obtain ⟨f, g, n, hh, hr⟩ := Rel.split (as := [.tup ds]) (vs := [v]) r rfl
  obtain ⟨a, vs, e1, t1, d1⟩ := dats1 hh
  exact ⟨a, vs, e1, t1.sq, dats_length d1, _, n, slots_app (dats_slots d1) hr⟩
theorem Rel.unPr {K : PySem.W.Frag} {H : Hp} {ds : List D} {v : V} {κ : Tw.Env} {τ : S} (r : Rel K cl H (some (.pr ds) :: κ) (some v :: τ)) : ∃ a vs, v = .ref a ∧ SqT K H a vs ∧ vs.length = ds.length ∧ Rel K cl H (ds.map some ++ κ) (vs.map some ++ τ) := by
  obtain ⟨f, g, n, hh, hr⟩ := Rel.split (as := [.pr ds]) (vs := [v]) r rfl
  obtain ⟨a, vs, e1, t1, d1⟩ := dats1 hh
  exact ⟨a, vs, e1, .inl (.inl t1.1), dats_length d1, _, n, slots_app (dats_slots d1) hr⟩
theorem g_tp {n : Nat} {k : Nat} {ts : List Nat} {r : List D → Tw.Env → Option Tw.Env} (hc : X.calm = true) (h : PGs X es (tGs X.K cl ts r)) (hlen : ∀ ds env env', r ds env = some env' → ds.length = n) (hn : (assignEach es X.env).length = n := by rfl) (hst : (assignEach es X.env).findIdx? (·.1) = none := by rfl) : PG X (.Tuple es k pos) (tG X.K cl ts (bTp r)) :=
  PG.imp (pg_tup hc h hn hst) fun v σ H Q ⟨τ, κ, env, d, rl, l, env', e, q⟩ => by
  cases d with
  | tup ds =>
    simp only [bTp] at e
    obtain ⟨a, vs, rfl, s, lv, r2⟩ := rl.unTo
    exact ⟨a, vs, rfl, s, by rw [lv, hlen _ _ _ e], τ, κ, env, ds, r2, l, lv, env', e, q⟩
  | pr ds =>
    simp only [bTp] at e
    obtain ⟨a, vs, rfl, s, lv, r2⟩ := rl.unPr
    exact ⟨a, vs, rfl, s, by rw [lv, hlen _ _ _ e], τ, κ, env, ds, r2, l, lv, env', e, q⟩
  | _ => simp [bTp] at e
theorem bNil_len {ds : List D} {env env' : Tw.Env} (h : bNil ds env = some env') : ds.length = 0 := by
  cases ds with
  | nil => rfl
  | cons _ _ => cases h
theorem bCons_len {b : Bd} {r : List D → Tw.Env → Option Tw.Env} {n : Nat} (hr : ∀ ds env env', r ds env = some env' → ds.length = n) {ds : List D} {env env' : Tw.Env} (h : bCons b r ds env = some env') : ds.length = n + 1 := by
  cases ds with
  | nil => cases h
  | cons d ds =>
    obtain ⟨_, _, h⟩ := Option.bind_eq_some_iff.mp h
    rw [List.length_cons, hr _ _ _ h]
/-! ### what is walked -/
structure IterD (K : PySem.W.Frag) (cl : Nat → Addr) (J : It) (κx : Tw.Env) (τx : S) (items : List D) : Prop where
  go : ∀ (i : Nat) (d : D), items[i]? = some d → ∀ (H : Hp) (κ : Tw.Env) (τ : S), Rel K cl H (κx ++ κ) (τx ++ τ) → J.go i H ∧ ∀ x H', J.yld i H x H' → Rel K cl H' (some d :: (κx ++ κ)) (some x :: (τx ++ τ))
  stop : ∀ (i : Nat), items.length ≤ i → ∀ (H : Hp) (κ : Tw.Env) (τ : S), Rel K cl H (κx ++ κ) (τx ++ τ) → J.stop i H
def tI (K : PySem.W.Frag) (cl : Nat → Addr) (W : WX) (fi : Tw.Env → Rs (List D)) : TI := fun σ H R => ∃ (τ : S) (κ env : Tw.Env), Rel K cl H (κ ++ env) (τ ++ σ) ∧ τ.length = κ.length ∧
  (fi env).P (fun items env' => ∀ J κx τx H', τx.length = κx.length → IterD K cl J κx τx items → Rel K cl H' (κx ++ (κ ++ env')) (τx ++ (τ ++ σ)) → R J H') (WP K cl W κ τ σ)
theorem PI.imp {tg : Expr} {t t' : TI} (h : PI X tg e t) (q : ∀ σ H Q, t' σ H Q → t σ H Q) : PI X tg e t' := ⟨fun pins s σ H Q I z => h.run pins s σ H Q I (q σ H Q z)⟩
theorem PI.or {tg : Expr} {t t' : TI} (h : PI X tg e t) (h' : PI X tg e t') : PI X tg e (fun σ H Q => t σ H Q ∨ t' σ H Q) := ⟨fun pins s σ H Q I z => z.elim (fun z => h.run pins s σ H Q I z) fun z => h'.run pins s σ H Q I z⟩
/-- the signs of a text, each a text -/
def signs (x : Str) : List D := x.cps.toList.map fun c => .str ⟨#[c]⟩
def D.items : D → Option (List D)
  | .lst _ xs => if D.oks xs then some xs else none
  | .tup xs => if D.oks xs then some xs else none
  | .str x => some (signs x)
  | _ => none
def iSeq (fa : Ev) : Tw.Env → Rs (List D) := fun env => (fa env).bind fun d env1 => match D.items d with
  | some xs => .ok xs env1
  | none => .stuck
theorem iter_lst {K : PySem.W.Frag} {a : Addr} {ds : List D} (o : D.oks ds = true) : IterD K cl (Itl K a) [some (.lst false ds)] [some (.ref a)] ds := by
  have key : ∀ (H : Hp) (κ : Tw.Env) (τ : S), Rel K cl H ([some (.lst false ds)] ++ κ) ([some (.ref a)] ++ τ) → ∃ vs f g, (f ++ g).Nodup ∧ Dats K cl (· ∈ f ++ g) H [.lst false ds] [.ref a] f ∧ Slots K cl (· ∈ f ++ g) H κ τ g ∧ H a = some (.lst vs) ∧ Dats K cl (· ∈ f ++ g) H ds vs [] := fun H κ τ r => by
    obtain ⟨f, g, n, hh, hr⟩ := Rel.split (as := [.lst false ds]) (vs := [.ref a]) r rfl
    obtain ⟨a', vs, g1, e1, t1, d1, _⟩ := dats1 hh
    cases e1
    exact ⟨vs, f, g, n, hh, hr, t1, oks_nil d1 o⟩
  refine ⟨fun i d e H κ τ r => ?_, fun i hi H κ τ r => ?_⟩
  · obtain ⟨vs, f, g, n, hh, hr, t, hd⟩ := key H κ τ r
    obtain ⟨v, e1, hv⟩ := dats_get hd e
    refine ⟨⟨vs, v, .of t, e1⟩, fun x H' y => ?_⟩
    obtain ⟨rfl, y⟩ := y
    have e2 := y vs (.of t)
    rw [e1] at e2
    cases e2
    exact derive n hh hr hv
  · obtain ⟨vs, f, g, n, hh, hr, t, hd⟩ := key H κ τ r
    exact ⟨vs, .of t, by rw [dats_length hd]; exact hi⟩
theorem iter_tup {K : PySem.W.Frag} {H0 : Hp} {κ0 : Tw.Env} {τ0 : S} {v : V} {ds : List D} (o : D.oks ds = true) (r0 : Rel K cl H0 (some (.tup ds) :: κ0) (some v :: τ0)) : ∃ a vs, v = .ref a ∧ SqT K H0 a vs ∧ IterD K cl (Itt K a) [some (.tup ds)] [some (.ref a)] ds := by
  have key : ∀ (a : Addr) (H : Hp) (κ : Tw.Env) (τ : S), Rel K cl H ([some (.tup ds)] ++ κ) ([some (.ref a)] ++ τ) → ∃ vs f g, (f ++ g).Nodup ∧ Dats K cl (· ∈ f ++ g) H [.tup ds] [.ref a] f ∧ Slots K cl (· ∈ f ++ g) H κ τ g ∧ SqT K H a vs ∧ Dats K cl (· ∈ f ++ g) H ds vs [] := fun a H κ τ r => by
    obtain ⟨f, g, n, hh, hr⟩ := Rel.split (as := [.tup ds]) (vs := [.ref a]) r rfl
    obtain ⟨a', vs, e1, t1, d1⟩ := dats1 hh
    cases e1
    exact ⟨vs, f, g, n, hh, hr, t1.sq, oks_nil d1 o⟩
  obtain ⟨a, vs, rfl, s0, _⟩ := r0.unT o
  refine ⟨a, vs, rfl, s0, ⟨fun i d e H κ τ r => ?_, fun i hi H κ τ r => ?_⟩⟩
  · obtain ⟨vs, f, g, n, hh, hr, t, hd⟩ := key a H κ τ r
    obtain ⟨v, e1, hv⟩ := dats_get hd e
    refine ⟨⟨vs, v, t, e1⟩, fun x H' y => ?_⟩
    obtain ⟨rfl, y⟩ := y
    have e2 := y vs t
    rw [e1] at e2
    cases e2
    exact derive n hh hr hv
  · obtain ⟨vs, f, g, n, hh, hr, t, hd⟩ := key a H κ τ r
    exact ⟨vs, t, by rw [dats_length hd]; exact hi⟩
theorem iter_str {K : PySem.W.Frag} {x : Str} : IterD K cl (Its x) [] [] (signs x) := by
  refine ⟨fun i d e H κ τ r => ?_, fun i hi H κ τ r => ?_⟩
  · unfold signs at e
    rw [List.getElem?_map] at e
    obtain ⟨c, e1, rfl⟩ := Option.map_eq_some_iff.mp e
    have hi := (List.getElem?_eq_some_iff.mp e1).1
    refine ⟨show i < x.cps.size by simpa using hi, fun v H' y => ?_⟩
    obtain ⟨rfl, c', e2, rfl⟩ := y
    rw [← Array.getElem?_toList, e1] at e2
    cases e2
    exact Rel.push r fun M => ⟨rfl, rfl⟩
  · unfold signs at hi
    rw [List.length_map] at hi
    exact hi
theorem i_seq {tg : Expr} (ha : PE X a (tE X.K cl W fa)) : PI X tg a (tI X.K cl W (iSeq fa)) := PI.imp (PI.or (PI.or (pi_list (tg := tg) ha) (pi_tup (tg := tg) ha)) (pi_str (tg := tg) ha)) fun σ H R ⟨τ, κ, env, r, l, q⟩ => by
  unfold iSeq at q
  cases e1 : fa env with
  | ok d env1 =>
    rw [e1, Rs.bind_ok] at q
    cases d with
    | lst m ds =>
      simp only [D.items] at q
      by_cases o : D.oks ds = true
      · rw [if_pos o] at q
        refine .inl (.inl ⟨τ, κ, env, r, l, ?_⟩)
        rw [e1]
        intro v H1 r1
        have r2 := r1.freeze
        rw [D.frz, D.frzs_ok o] at r2
        obtain ⟨M, f, a, vs, g, e2, t, _⟩ := r1.head
        subst e2
        exact ⟨a, rfl, ⟨vs, .of t⟩, q (Itl X.K a) [some (.lst false ds)] [some (.ref a)] H1 rfl (iter_lst o) r2⟩
      · rw [if_neg o] at q; exact q.elim
    | tup ds =>
      simp only [D.items] at q
      by_cases o : D.oks ds = true
      · rw [if_pos o] at q
        refine .inl (.inr ⟨τ, κ, env, r, l, ?_⟩)
        rw [e1]
        intro v H1 r1
        obtain ⟨a, vs, e2, s, it⟩ := iter_tup o r1
        subst e2
        exact ⟨a, rfl, ⟨vs, s⟩, q (Itt X.K a) [some (.tup ds)] [some (.ref a)] H1 rfl it r1⟩
      · rw [if_neg o] at q; exact q.elim
    | str x =>
      refine .inr ⟨τ, κ, env, r, l, ?_⟩
      rw [e1]
      intro v H1 r1
      obtain ⟨M, f, hd⟩ := r1.head
      exact ⟨x, hd.1, q (Its x) [] [] H1 rfl iter_str r1.pop⟩
    | _ => exact q.elim
  | exc _ _ _ _ =>
    rw [e1] at q
    refine .inl (.inl ⟨τ, κ, env, r, l, ?_⟩)
    rw [e1]
    exact q
  | stuck => rw [e1] at q; exact q.elim
def rngD (lo : Int) (n : Nat) : List D := (List.range n).map fun (i : Nat) => .int (lo + (i : Int))
theorem iter_rng {K : PySem.W.Frag} {lo : Int} {n : Nat} : IterD K cl (Itr lo n) [] [] (rngD lo n) := by
  refine ⟨fun i d e H κ τ r => ?_, fun i hi H κ τ r => ?_⟩
  · unfold rngD at e
    rw [List.getElem?_map] at e
    obtain ⟨j, e1, rfl⟩ := Option.map_eq_some_iff.mp e
    have hi : i < n := by
      have z := (List.getElem?_eq_some_iff.mp e1).1
      simpa using z
    rw [List.getElem?_range hi] at e1
    cases e1
    refine ⟨hi, fun x H' y => ?_⟩
    obtain ⟨rfl, rfl⟩ := y
    exact Rel.push r fun M => dint
  · unfold rngD at hi
    rw [List.length_map, List.length_range] at hi
    exact hi
open Classical in
def rngOk (i : Int) : Bool := @decide (-(2 ^ 62) ≤ i ∧ i < 2 ^ 62) (propDecidable _)
def D.ints : List D → Option (List Int)
  | [] => some []
  | d :: ds => (D.asI d).bind fun i => (D.ints ds).map (i :: ·)
theorem dats_intsOf {K M H} : ∀ {ds : List D} {is : List Int} {vs : List V} {f : List Addr}, Dats K cl M H ds vs f → D.ints ds = some is → vs = is.map V.int
  | [], _, _, _, h, e => by cases e; exact h.1
  | d :: ds, _, _, _, h, e => by
    obtain ⟨v, vs', f1, f2, rfl, _, h1, h2⟩ := h
    simp only [D.ints, Option.bind_eq_some_iff, Option.map_eq_some_iff] at e
    obtain ⟨b, e1, bs, e, rfl⟩ := e
    rw [dat_asI h1 e1, dats_intsOf h2 e]
    rfl
def rngOf : List Int → Option (Int × Nat)
  | [j] => if rngOk j then some (0, j.toNat) else none
  | [i, j] => if rngOk i && rngOk j then some (i, (j - i).toNat) else none
  | _ => none
def iRng (os : List Ev) : Tw.Env → Rs (List D) := fun env => (evs (vals os) env).bind fun ds env1 => match (D.ints ds).bind rngOf with
  | some q => .ok (rngD q.1 q.2) env1
  | none => .stuck
theorem rngOk_iff {i : Int} : rngOk i = true ↔ (-(2 ^ 62) ≤ i ∧ i < 2 ^ 62) := by unfold rngOk; exact @decide_eq_true_iff _ (Classical.propDecidable _)
theorem rd_rng {K : PySem.W.Frag} {fs : List Ev} {σ : S} {H : Hp} {R : It → Hp → Prop} (h : tI K cl W (iRng fs) σ H R) : tOs K cl W (vals fs) σ H fun vs H1 => ∃ is lo n, vs = is.map V.int ∧ rngOf is = some (lo, n) ∧ R (Itr lo n) H1 := by
  obtain ⟨τ, κ, env, r, l, q⟩ := h
  refine tA_os (os := vals fs) ⟨τ, κ, env, r, l, ?_⟩
  unfold iRng at q
  cases e1 : evs (vals fs) env with
  | ok ds env1 =>
    rw [e1, Rs.bind_ok] at q
    intro us vs H' l2 r2 fu
    obtain ⟨rfl, l3⟩ := full_vals fu
    cases e2 : (D.ints ds).bind rngOf with
    | none => rw [e2] at q; exact q.elim
    | some pr =>
      rw [e2] at q
      obtain ⟨is, e3, e4⟩ := Option.bind_eq_some_iff.mp e2
      obtain ⟨M, f, hd⟩ := r2.heads l2.symm
      exact ⟨is, pr.1, pr.2, dats_intsOf hd e3, e4, q (Itr pr.1 pr.2) [] [] H' rfl iter_rng (Rel.drop r2 (by simp [l2]))⟩
  | exc _ _ _ _ => rw [e1] at q; exact q
  | stuck => rw [e1] at q; exact q
theorem rng_one {is : List Int} {lo : Int} {n : Nat} {vs : List V} (h : rngOf is = some (lo, n)) (e : vs = is.map V.int) (l : vs.length = 1) : ∃ j : Int, vs = [.int j] ∧ -(2 ^ 62) ≤ j ∧ j < 2 ^ 62 ∧ lo = 0 ∧ n = j.toNat := by
  subst e
  match is, l with
  | [j], _ =>
    simp only [rngOf] at h
    split at h
    · rename_i c
      have hc := rngOk_iff.mp c
      cases h
      exact ⟨j, rfl, hc.1, hc.2, rfl, rfl⟩
    · cases h
theorem rng_two {is : List Int} {lo : Int} {n : Nat} {vs : List V} (h : rngOf is = some (lo, n)) (e : vs = is.map V.int) (l : vs.length = 2) : ∃ i j : Int, vs = [.int i, .int j] ∧ (-(2 ^ 62) ≤ i ∧ i < 2 ^ 62 ∧ -(2 ^ 62) ≤ j ∧ j < 2 ^ 62) ∧ lo = i ∧ n = (j - i).toNat := by
  subst e
  match is, l with
  | [i, j], _ =>
    simp only [rngOf] at h
    split at h
    · rename_i c
      simp only [Bool.and_eq_true] at c
      have hc := rngOk_iff.mp c.1
      have hc2 := rngOk_iff.mp c.2
      cases h
      exact ⟨lo, j, rfl, ⟨hc.1, hc.2, hc2.1, hc2.2⟩, rfl, rfl⟩
    · cases h
/-- the number of what the arguments give -/
theorem tOs_len {K : PySem.W.Frag} : ∀ {os : List Opd} {σ : S} {H : Hp} {Q Q' : List V → Hp → Prop}, tOs K cl W os σ H Q → (∀ vs H', vs.length = os.length → Q vs H' → Q' vs H') → tOs K cl W os σ H Q'
  | [], σ, H, Q, Q', h, q => q [] H rfl h
  | .slot i :: os, σ, H, Q, Q', h, q => by
    obtain ⟨v, e, h⟩ := h
    exact ⟨v, e, tOs_len h fun vs H' l z => q (v :: vs) H' (by simp [l]) z⟩
  | .val f :: os, σ, H, Q, Q', h, q => by
    obtain ⟨τ, κ, env, r, l, h⟩ := h
    exact ⟨τ, κ, env, r, l, h.imp (fun d env1 z v H1 r1 => tOs_len (z v H1 r1) fun vs H' l z => q (v :: vs) H' (by simp [l]) z) fun _ _ _ _ z => z⟩
theorem i_rng1 {tg : Expr} {f : Ev} (hm : X.mg "range" = none) (ha : PA X [e] (tOs X.K cl W (vals [f]))) (hg : Gl X "range" := by rfl) (hs : starEach [e] X.env = [(false, eval e X.env)] := by rfl) : PI X tg (.Call (.Name "range" p) [e] [] pos) (tI X.K cl W (iRng [f])) :=
  PI.imp (pi_range1 hg hm ha hs) fun σ H R h => tOs_len (rd_rng h) fun vs H' l ⟨is, lo, n, e, e2, q⟩ => by
  obtain ⟨j, ej, h1, h2, rfl, rfl⟩ := rng_one e2 e l
  exact ⟨j, ej, h1, h2, q⟩
theorem i_rng2 {tg : Expr} {f g : Ev} (hm : X.mg "range" = none) (ha : PA X [a, b] (tOs X.K cl W (vals [f, g]))) (hg : Gl X "range" := by rfl) (hs : starEach [a, b] X.env = [(false, eval a X.env), (false, eval b X.env)] := by rfl) (hs2 : starEach [b] X.env = [(false, eval b X.env)] := by rfl) : PI X tg (.Call (.Name "range" p) [a, b] [] pos) (tI X.K cl W (iRng [f, g])) :=
  PI.imp (pi_range2 hg hm ha hs hs2) fun σ H R h => tOs_len (rd_rng h) fun vs H' l ⟨is, lo, n, e, e2, q⟩ => by
  obtain ⟨i, j, ej, h1, e3, e4⟩ := rng_two e2 e l
  subst e3; subst e4
  exact ⟨_, j, ej, h1, q⟩
/-! ### zip -/
def zipD (xs ys : List D) : List D := (xs.zip ys).map fun p => .pr [p.1, p.2]
def iZip2 (fa fb : Ev) : Tw.Env → Rs (List D) := fun env => (fa env).bind fun x env1 => (fb env1).bind fun y env2 => match x, y with
  | .lst _ xs, .lst _ ys => if D.oks xs && D.oks ys then .ok (zipD xs ys) env2 else .stuck
  | .tup xs, .tup ys => if D.oks xs && D.oks ys then .ok (zipD xs ys) env2 else .stuck
  | _, _ => .stuck
theorem zipD_get {xs ys : List D} {i : Nat} {d : D} (h : (zipD xs ys)[i]? = some d) : ∃ x y, xs[i]? = some x ∧ ys[i]? = some y ∧ d = .pr [x, y] := by
  unfold zipD at h
  rw [List.getElem?_map] at h
  obtain ⟨q, e, rfl⟩ := Option.map_eq_some_iff.mp h
  rw [List.getElem?_zip_eq_some] at e
  exact ⟨q.1, q.2, e.1, e.2, rfl⟩
theorem zipD_end {xs ys : List D} {i : Nat} (h : (zipD xs ys).length ≤ i) : xs.length ≤ i ∨ ys.length ≤ i := by
  unfold zipD at h
  rw [List.length_map, List.length_zip] at h
  omega
end
end Tw
noncomputable section
namespace Tw
open PySem PySem.Spec PyProof.Rows L2
/-! ### zip of a list with a tuple -/
theorem sep_of {z TI TO i1 i2 a b : Addr} (D : ZipApart z TI TO i1 i2 a b) : ZipSep2 z TI TO i1 i2 [i1, a] [i2, b] where
  TIz := D.TIz
  TOz := D.TOz
  TITO := D.TITO
  TIi1 := D.TIi1
  mem1 := by simp
  zf1 := by simp; exact ⟨D.i1z.symm, D.l1z.symm⟩
  Tf1 := by simp; exact ⟨D.TOi1, D.l1TO.symm⟩
  TIi2 := D.TIi2
  mem2 := by simp
  zf2 := by simp; exact ⟨D.i2z.symm, D.l2z.symm⟩
  Tf2 := by simp; exact ⟨D.TOi2, D.l2TO.symm⟩
  sep1_2 := by simp; exact ⟨D.i12, D.l2i1.symm⟩
  sep2_1 := by simp; exact ⟨D.i12.symm, D.l1i2.symm⟩
def ItzM (K : PySem.W.Frag) (a b : Addr) (n1 n2 : Nat) : It :=
  ⟨fun i H => ∃ (xs ys : List V) (x y : V), SqL K H a xs ∧ SqT K H b ys ∧ (xs.length = n1 ∧ ys.length = n2) ∧ xs[i]? = some x ∧ ys[i]? = some y,
    fun i H v H' => ∃ T x y, v = .ref T ∧ H T = none ∧ H' = upd H T (.tup [x, y]) ∧ (∀ xs, SqL K H a xs → xs[i]? = some x) ∧ ∀ ys, SqT K H b ys → ys[i]? = some y,
    fun i H => ∃ xs ys : List V, SqL K H a xs ∧ SqT K H b ys ∧ (xs.length = n1 ∧ ys.length = n2) ∧ (xs.length ≤ i ∨ ys.length ≤ i)⟩
theorem turn_zipM {P : Program} {w : World} {K : PySem.W.Frag} {elts : List Expr} {kk : Nat} {tpos : Pos} {a b z TI TO i1 i2 : Addr} {n1 n2 : Nat} (D : ZipApart z TI TO i1 i2 a b) :
    Turn P w K (.Tuple elts kk tpos) (ItzM K a b n1 n2) [z, TI, TO, i1, i2] z (fun i h => (i ≤ n1 ∧ i ≤ n2) ∧ IsZip h z TI TO .none ∧ IsPair h TI (.ref i1) (.ref i2) ∧ (∃ x y, IsPair h TO x y) ∧ h.IsListIter i1 a i ∧ h.IsTupleIter i2 b i) where
  mem := by simp
  obj := fun i h st c hc => by
    obtain ⟨_, hz, hTI, ⟨x, y, hTO⟩, ⟨o1, e1, _, d1⟩, ⟨o2, e2, _, d2⟩⟩ := st
    have e' : c = z ∨ c = TI ∨ c = TO ∨ c = i1 ∨ c = i2 := by simpa using hc
    rcases e' with q | q | q | q | q
    · rw [q]; exact ⟨_, hz, fun v q => nomatch q⟩
    · rw [q]; exact ⟨_, hTI, fun v q => nomatch q⟩
    · rw [q]; exact ⟨_, hTO, fun v q => nomatch q⟩
    · rw [q]; exact ⟨o1, e1, fun v q => by rw [d1] at q; cases q⟩
    · rw [q]; exact ⟨o2, e2, fun v q => by rw [d2] at q; cases q⟩
  keep := fun i h h' st k => by
    obtain ⟨hn, hz, hTI, ⟨x, y, hTO⟩, h1, h2⟩ := st
    exact ⟨hn, k z (by simp) _ hz, k TI (by simp) _ hTI, ⟨x, y, k TO (by simp) _ hTO⟩, h1.at fun o q => k i1 (by simp) o q, h2.at fun o q => k i2 (by simp) o q⟩
  item := by
    intro X hP hw hK hc i pins s σ H E I hf st hg
    subst hP hw hK
    obtain ⟨hn, hz, hTI, ⟨x0, y0, hTO⟩, h1, h2⟩ := st
    obtain ⟨xs, ys, x, y, hqx, hqy, ⟨en1, en2⟩, hx, hy⟩ := hg
    obtain ⟨its, rv, p, _⟩ := I.list hqx
    obtain ⟨its2, rv2, p2, _⟩ := I.tuple hqy
    obtain ⟨u, hu, ru⟩ := rv.get hx
    obtain ⟨u2, hu2, ru2⟩ := rv2.get hy
    have hzl : z < s.heap.objs.size := Heap.lt_size hz
    have l1 : i < its.toArray.size := by have := (List.getElem?_eq_some_iff.mp hu).1; simpa using this
    have l2 : i < its2.toArray.size := by have := (List.getElem?_eq_some_iff.mp hu2).1; simpa using this
    refine wpAny_pyNext_zipD2_item (sep_of D) (Draws.list (prog := X.prog) (w := X.w) (A := X.A.in1) (I.ok.hd hc) i1 a D.l1i1 its.toArray) (Draws.tuple (prog := X.prog) (w := X.w) (A := X.A.in1) (I.ok.hd hc) i2 b D.l2i2 its2.toArray) hz hTI hTO ⟨h1, p.isList⟩ ⟨h2, p2⟩ l1 l2 fun x1 x2 h' tk px1 px2 z' TO' st1 st2 hT hsz hk => ?_
    have ex1 : x1 = u := by
      have e2 : its.toArray[i]? = some x1 := px1
      rw [show its.toArray[i]? = some u by simpa using hu] at e2
      exact (Option.some.inj e2).symm
    have ex2 : x2 = u2 := by
      have e2 : its2.toArray[i]? = some x2 := px2
      rw [show its2.toArray[i]? = some u2 by simpa using hu2] at e2
      exact (Option.some.inj e2).symm
    subst ex1 ex2
    have h1' := st1.1
    have h2' := st2.1
    refine ⟨_, rfl, wpAny_letOwnedTupleGo_zip (s := { s with heap := h', toks := tk }) z' fun h'' z'' sb => ?_⟩
    have hT2 : h''.get? s.heap.objs.size = some { cls := .type "tuple", data := .seq #[x1, x2] } := (sb.2 _ (Nat.ne_of_gt hzl)).trans hT
    have new : ObjOk X.prog X.w (upd H s.heap.objs.size (.tup [x, y])) h'' s.heap.objs.size (.tup [x, y]) :=
      ⟨by show 2 ≤ sizeLine; decide, [x1, x2], .cons ru (.cons ru2 .nil), ⟨_, hT2, rfl, _, rfl⟩⟩
    have I1 : Inv X pins σ (upd H s.heap.objs.size (.tup [x, y])) { s with heap := h'', toks := tk } :=
      I.turnedNew (t' := tk) (ch := [z, TI, TO, i1, i2]) (fun c o hb q => (sb.2 c (fun q' => hb (by simp [q']))).trans (hk c o (fun q' => hb (by simp [q'])) (fun q' => hb (by simp [q'])) (fun q' => hb (by simp [q'])) (fun q' => hb (by simp [q'])) q)) hf (Nat.le_refl _) new
    refine ⟨.ref s.heap.objs.size, _, I1, rfl, ⟨_, x, y, rfl, I.hok.fresh (Nat.le_refl _), rfl, fun l hl => by rw [I.list_inj hl hqx]; exact hx, fun l hl => by rw [I.tuple_inj hl hqy]; exact hy⟩, ⟨⟨by have := (List.getElem?_eq_some_iff.mp hx).1; omega, by have := (List.getElem?_eq_some_iff.mp hy).1; omega⟩, z'', ?_, ⟨x1, x2, ?_⟩, ?_, ?_⟩, fun c hcm => ?_⟩
    · exact (sb.2 _ D.TIz).trans (hk _ _ D.TIz D.TITO D.TIi1 D.TIi2 hTI)
    · exact (sb.2 _ D.TOz).trans TO'
    · exact h1'.at fun o q => (sb.2 _ D.i1z).trans q
    · exact h2'.at fun o q => (sb.2 _ D.i2z).trans q
    · have hlt : c < s.heap.objs.size := by
        have e' : c = z ∨ c = TI ∨ c = TO ∨ c = i1 ∨ c = i2 := by simpa using hcm
        rcases e' with q | q | q | q | q
        · rw [q]; exact hzl
        · rw [q]; exact Heap.lt_size hTI
        · rw [q]; exact Heap.lt_size hTO
        · rw [q]; obtain ⟨_, e1, _⟩ := h1; exact Heap.lt_size e1
        · rw [q]; obtain ⟨_, e2, _⟩ := h2; exact Heap.lt_size e2
      rw [upd_ne (Nat.ne_of_lt hlt)]
      exact (hf c hcm).1
  done := by
    intro X hP hw hK hc i pins s σ H E I hf st hg
    subst hP hw hK
    obtain ⟨hn, hz, hTI, ⟨x0, y0, hTO⟩, h1, h2⟩ := st
    obtain ⟨xs, ys, hqx, hqy, ⟨en1, en2⟩, hend⟩ := hg
    obtain ⟨its, rv, p, _⟩ := I.list hqx
    obtain ⟨its2, rv2, p2, _⟩ := I.tuple hqy
    have l1 := rv.length
    have l2 := rv2.length
    exact wpAny_pyNext_zipD2_end (sep_of D) (Draws.list (prog := X.prog) (w := X.w) (A := X.A.in1) (I.ok.hd hc) i1 a D.l1i1 its.toArray) (Draws.tuple (prog := X.prog) (w := X.w) (A := X.A.in1) (I.ok.hd hc) i2 b D.l2i2 its2.toArray) hz hTI hTO ⟨h1, p.isList⟩ ⟨h2, p2⟩ (by simp; omega) (by simp; omega) (by simp; omega) fun h' tk hk => ⟨rfl, I.turnedL (t' := tk) (ch := [z, TI, TO, i1, i2]) (fun c o hb q =>
      hk c o (fun q' => hb (by simp [q'])) (fun q' => hb (by simp [q'])) (fun q' => hb (by simp [q'])) (fun q' => hb (by simp [q'])) q) hf⟩
  self := fun A i s Q E st h => wpAny_pyIter_zip st.2.1 h


theorem pi_zipM {X : Cx} {e e2 : Expr} {ta : TA} {p pos tpos : Pos} {elts : List Expr} {kk : Nat} (hg : Gl X "zip") (hm : X.mg "zip" = none) (ha : PA X [e, e2] ta)
    (hs : starEach [e, e2] X.env = (false, eval e X.env) :: starEach [e2] X.env := by rfl) (hpl : (backTo pos (starEach [e2] X.env)).any (·.1) = false := by rfl) :
    PI X (.Tuple elts kk tpos) (.Call (.Name "zip" p) [e, e2] [] pos) (fun σ H R => ta σ H fun vs H1 => ∃ a b xs ys, vs = [.ref a, .ref b] ∧ SqL X.K H1 a xs ∧ SqT X.K H1 b ys ∧ R (ItzM X.K a b xs.length ys.length) H1) := by
  refine ⟨fun pins s σ H R I h => ?_⟩
  refine Call_ (ld_blt I hg hm PyProof.Rows.boot_zip (PyProof.Rows.callWith_type1 (thn (ha.run pos pins s σ H _ I h) fun us s1 ⟨vs, H1, I1, r1, q1⟩ => ?_) hs hpl))
  obtain ⟨a, b, xs, ys, ex, hqx, hqy, q⟩ := q1
  subst ex
  cases r1 with
  | cons r rr =>
    cases rr with
    | cons r' rr =>
      cases rr
      cases r
      cases r'
      have fresh5 : ∀ c, c ∈ [s1.heap.objs.size + 4, s1.heap.objs.size + 2, s1.heap.objs.size + 3, s1.heap.objs.size, s1.heap.objs.size + 1] → FpOk X pins H1 c := fun c hcm => by
        have e' : c = s1.heap.objs.size + 4 ∨ c = s1.heap.objs.size + 2 ∨ c = s1.heap.objs.size + 3 ∨ c = s1.heap.objs.size ∨ c = s1.heap.objs.size + 1 := by simpa using hcm
        have hle : s1.heap.objs.size ≤ c := by
          rcases e' with z | z | z | z | z <;> (rw [z]; omega)
        exact I1.fpOk hle (I1.hok.fresh hle)
      obtain ⟨its, rv, p1, _⟩ := I1.list hqx
      obtain ⟨its2, rv2, p2, _⟩ := I1.tuple hqy
      obtain ⟨o2, ho2, _⟩ := id p2
      refine zip_begins2 (begins_list a its.toArray) (begins_tuple b its2.toArray) p1.isList p2 fun h' hz hTI hTO g1 g2 hsz hk => wpAny_pyIter_zip hz ?_
      have I2 : Inv X pins σ H1 { s1 with heap := h' } := I1.kept (t' := s1.toks) hk
      exact ⟨s1.heap.objs.size + 4, [s1.heap.objs.size + 4, s1.heap.objs.size + 2, s1.heap.objs.size + 3, s1.heap.objs.size, s1.heap.objs.size + 1], _, _, H1, rfl, I2, turn_zipM (PySem.W.ktu_apart s1.heap.objs.size a b p1.lt (Heap.lt_size ho2)), ⟨⟨Nat.zero_le _, Nat.zero_le _⟩, hz, hTI, ⟨_, _, hTO⟩, ⟨_, g1, rfl, rfl⟩, ⟨_, g2, rfl, rfl⟩⟩, fresh5, q⟩
end Tw
noncomputable section
namespace Tw
open PySem PySem.Spec PyProof.Rows L2
/-- a list (false) or a tuple (true), its items -/
def D.seqK : D → Option (Bool × List D)
  | .lst _ xs => if D.oks xs then some (false, xs) else none
  | .tup xs => if D.oks xs then some (true, xs) else none
  | _ => none
def zipOf : List D → Option (Bool × List D × List D)
  | [x, y] => (D.seqK x).bind fun p => (D.seqK y).bind fun q => match p.1, q.1 with
    | true, false => none
    | _, _ => some (p.1, p.2, q.2)
  | _ => none
def iZip (os : List Ev) : Tw.Env → Rs (List D) := fun env => (evs (vals os) env).bind fun ds env1 => match zipOf ds with
  | some q => .ok (zipD q.2.1 q.2.2) env1
  | none => .stuck
section
variable {X : Cx} {cl : Nat → Addr} {W : WX} {a b c e : Expr} {es : List Expr} {pos p : Pos} {x : Str} {fa fb fc : Ev}
theorem dat_seqK {K M H} {d : D} {k : Bool} {xs : List D} {v : V} {f : List Addr} (h : Dat K cl M H d v f) (e : D.seqK d = some (k, xs)) : ∃ a vs, v = .ref a ∧ (k = false → H a = some (.lst vs)) ∧ (k = true → SqT K H a vs) ∧ Dats K cl M H xs vs [] := by
  cases d with
  | lst m ds =>
    simp only [D.seqK] at e
    split at e
    · rename_i o
      cases e
      obtain ⟨a, vs, g, e1, t, hd, _⟩ := h
      exact ⟨a, vs, e1, fun _ => t, fun z => (nomatch z), oks_nil hd o⟩
    · cases e
  | tup ds =>
    simp only [D.seqK] at e
    split at e
    · rename_i o
      cases e
      obtain ⟨a, vs, e1, t, hd⟩ := h
      exact ⟨a, vs, e1, fun z => (nomatch z), fun _ => t.sq, oks_nil hd o⟩
    · cases e
  | _ => simp [D.seqK] at e
theorem iter_zip {K : PySem.W.Frag} {A B : Addr} {x y : D} {k : Bool} {xs ys : List D} (ex : D.seqK x = some (k, xs)) (ey : D.seqK y = some (k, ys)) : IterD K cl (if k = true then RZ.ItzT K A B else Itz K A B) (List.map some [x, y]) (List.map some [.ref A, .ref B]) (zipD xs ys) := by
  have key : ∀ (H : Hp) (κ : Tw.Env) (τ : S), Rel K cl H (List.map some [x, y] ++ κ) (List.map some [.ref A, .ref B] ++ τ) → ∃ f g us ws, (f ++ g).Nodup ∧ Dats K cl (· ∈ f ++ g) H [x, y] [.ref A, .ref B] f ∧ Slots K cl (· ∈ f ++ g) H κ τ g ∧
      (k = false → H A = some (.lst us)) ∧ (k = true → SqT K H A us) ∧ Dats K cl (· ∈ f ++ g) H xs us [] ∧ (k = false → H B = some (.lst ws)) ∧ (k = true → SqT K H B ws) ∧ Dats K cl (· ∈ f ++ g) H ys ws [] := fun H κ τ r => by
    obtain ⟨f, g, n, hh, hr⟩ := r.split rfl
    obtain ⟨f1, f2, _, h1, h2⟩ := dats2 hh
    obtain ⟨a, us, e1, l1, t1, d1⟩ := dat_seqK h1 ex
    obtain ⟨b, ws, e2, l2, t2, d2⟩ := dat_seqK h2 ey
    cases e1; cases e2
    exact ⟨f, g, us, ws, n, hh, hr, l1, t1, d1, l2, t2, d2⟩
  refine ⟨fun i d e H κ τ r => ?_, fun i hi H κ τ r => ?_⟩
  · obtain ⟨f, g, us, ws, n, hh, hr, l1, t1, d1, l2, t2, d2⟩ := key H κ τ r
    obtain ⟨x1, y1, e1, e2, rfl⟩ := zipD_get e
    obtain ⟨u, e3, hu⟩ := dats_get d1 e1
    obtain ⟨w, e4, hw⟩ := dats_get d2 e2
    have fin : ∀ T, H T = none → Rel K cl (upd H T (.tup [u, w])) (some (.pr [x1, y1]) :: (List.map some [x, y] ++ κ)) (some (.ref T) :: (List.map some [.ref A, .ref B] ++ τ)) := fun T nT => newPr n hh hr nT ⟨u, [w], [], [], rfl, rfl, hu, w, [], [], [], rfl, rfl, hw, rfl, rfl⟩
    cases k with
    | false =>
      rw [if_neg Bool.false_ne_true]
      refine ⟨⟨us, ws, u, w, .of (l1 rfl), .of (l2 rfl), e3, e4⟩, fun v H' yl => ?_⟩
      obtain ⟨T, u', w', rfl, nT, rfl, q1, q2⟩ := yl
      have z1 := q1 us (.of (l1 rfl)); have z2 := q2 ws (.of (l2 rfl))
      rw [e3] at z1; rw [e4] at z2
      cases z1; cases z2
      exact fin T nT
    | true =>
      rw [if_pos rfl]
      refine ⟨⟨us, ws, u, w, t1 rfl, t2 rfl, e3, e4⟩, fun v H' yl => ?_⟩
      obtain ⟨T, u', w', rfl, nT, rfl, q1, q2⟩ := yl
      have z1 := q1 us (t1 rfl); have z2 := q2 ws (t2 rfl)
      rw [e3] at z1; rw [e4] at z2
      cases z1; cases z2
      exact fin T nT
  · obtain ⟨f, g, us, ws, n, hh, hr, l1, t1, d1, l2, t2, d2⟩ := key H κ τ r
    have q := zipD_end hi
    rw [← dats_length d1, ← dats_length d2] at q
    cases k with
    | false =>
      rw [if_neg Bool.false_ne_true]
      exact ⟨us, ws, .of (l1 rfl), .of (l2 rfl), q⟩
    | true =>
      rw [if_pos rfl]
      exact ⟨us, ws, t1 rfl, t2 rfl, q⟩
theorem iter_zipM {K : PySem.W.Frag} {A B : Addr} {x y : D} {xs ys : List D} (ex : D.seqK x = some (false, xs)) (ey : D.seqK y = some (true, ys)) : IterD K cl (ItzM K A B xs.length ys.length) (List.map some [x, y]) (List.map some [.ref A, .ref B]) (zipD xs ys) := by
  have key : ∀ (H : Hp) (κ : Tw.Env) (τ : S), Rel K cl H (List.map some [x, y] ++ κ) (List.map some [.ref A, .ref B] ++ τ) → ∃ f g us ws, (f ++ g).Nodup ∧ Dats K cl (· ∈ f ++ g) H [x, y] [.ref A, .ref B] f ∧ Slots K cl (· ∈ f ++ g) H κ τ g ∧
      SqL K H A us ∧ Dats K cl (· ∈ f ++ g) H xs us [] ∧ SqT K H B ws ∧ Dats K cl (· ∈ f ++ g) H ys ws [] := fun H κ τ r => by
    obtain ⟨f, g, n, hh, hr⟩ := r.split rfl
    obtain ⟨f1, f2, _, h1, h2⟩ := dats2 hh
    obtain ⟨a, us, e1, l1, t1, d1⟩ := dat_seqK h1 ex
    obtain ⟨b, ws, e2, l2, t2, d2⟩ := dat_seqK h2 ey
    cases e1; cases e2
    exact ⟨f, g, us, ws, n, hh, hr, .of (l1 rfl), d1, t2 rfl, d2⟩
  refine ⟨fun i d e H κ τ r => ?_, fun i hi H κ τ r => ?_⟩
  · obtain ⟨f, g, us, ws, n, hh, hr, l1, d1, t2, d2⟩ := key H κ τ r
    obtain ⟨x1, y1, e1, e2, rfl⟩ := zipD_get e
    obtain ⟨u, e3, hu⟩ := dats_get d1 e1
    obtain ⟨w, e4, hw⟩ := dats_get d2 e2
    refine ⟨⟨us, ws, u, w, l1, t2, ⟨dats_length d1, dats_length d2⟩, e3, e4⟩, fun v H' yl => ?_⟩
    obtain ⟨T, u', w', rfl, nT, rfl, q1, q2⟩ := yl
    have z1 := q1 us l1; have z2 := q2 ws t2
    rw [e3] at z1; rw [e4] at z2
    cases z1; cases z2
    exact newPr n hh hr nT ⟨u, [w], [], [], rfl, rfl, hu, w, [], [], [], rfl, rfl, hw, rfl, rfl⟩
  · obtain ⟨f, g, us, ws, n, hh, hr, l1, d1, t2, d2⟩ := key H κ τ r
    have q := zipD_end hi
    rw [← dats_length d1, ← dats_length d2] at q
    exact ⟨us, ws, l1, t2, ⟨dats_length d1, dats_length d2⟩, q⟩
theorem i_zip {tpos : Pos} {elts : List Expr} {kk : Nat} {f g : Ev} (hm : X.mg "zip" = none) (ha : PA X [a, b] (tOs X.K cl W (vals [f, g]))) (hg : Gl X "zip" := by rfl)
    (hs : starEach [a, b] X.env = (false, eval a X.env) :: starEach [b] X.env := by rfl) (hpl : (backTo pos (starEach [b] X.env)).any (·.1) = false := by rfl) :
    PI X (.Tuple elts kk tpos) (.Call (.Name "zip" p) [a, b] [] pos) (tI X.K cl W (iZip [f, g])) := PI.imp (PI.or (RZ.pi_zipA hg hm ha hs hpl) (pi_zipM hg hm ha hs hpl)) fun σ H R ⟨τ, κ, env, r, l, q⟩ => by
  unfold iZip at q
  cases e1 : evs (vals [f, g]) env with
  | ok ds env1 =>
    rw [e1, Rs.bind_ok] at q
    cases e2 : zipOf ds with
    | none => rw [e2] at q; exact q.elim
    | some pr =>
      rw [e2] at q
      match ds, e2, e1, q with
      | [x, y], e2, e1, q =>
        simp only [zipOf, Option.bind_eq_some_iff] at e2
        obtain ⟨⟨k, xs⟩, ex, ⟨k2, ys⟩, ey, e2⟩ := e2
        have run : ∀ {RA : List V → Hp → Prop}, (∀ (A B : Addr) (us ws : List V) (H' : Hp), Rel X.K cl H' (List.map some [x, y] ++ (κ ++ env1)) (List.map some [.ref A, .ref B] ++ (τ ++ σ)) → (k = false → H' A = some (.lst us)) → (k = true → SqT X.K H' A us) → (k2 = false → H' B = some (.lst ws)) → (k2 = true → SqT X.K H' B ws) → us.length = xs.length → ws.length = ys.length → RA [.ref A, .ref B] H') → tOs X.K cl W (vals [f, g]) σ H RA := fun {RA} go => by
          refine tA_os (os := vals [f, g]) ⟨τ, κ, env, r, l, ?_⟩
          rw [e1]
          intro us vs H' l2 r2 fu
          obtain ⟨rfl, l3⟩ := full_vals fu
          match vs, l2, r2 with
          | [u, w], l2, r2 =>
            obtain ⟨f', g', n, hh, hr⟩ := r2.split rfl
            obtain ⟨f1, f2, _, h1, h2⟩ := dats2 hh
            obtain ⟨A, us, ea, la, ta, d1⟩ := dat_seqK h1 ex
            obtain ⟨B, ws, eb, lb, tb, d2⟩ := dat_seqK h2 ey
            subst ea; subst eb
            exact go A B us ws H' r2 la ta lb tb (dats_length d1) (dats_length d2)
        cases k with
        | false =>
          cases k2 with
          | false =>
            cases e2
            exact .inl (run fun A B us ws H' r2 la ta lb tb n1 n2 => ⟨A, B, us, ws, rfl, .inl ⟨.of (la rfl), .of (lb rfl), q (Itz X.K A B) _ _ H' rfl (iter_zip (k := false) ex ey) r2⟩⟩)
          | true =>
            cases e2
            exact .inr (run fun A B us ws H' r2 la ta lb tb n1 n2 => ⟨A, B, us, ws, rfl, .of (la rfl), tb rfl, by rw [n1, n2]; exact q (ItzM X.K A B xs.length ys.length) _ _ H' rfl (iter_zipM ex ey) r2⟩)
        | true =>
          cases k2 with
          | false => cases e2
          | true =>
            cases e2
            exact .inl (run fun A B us ws H' r2 la ta lb tb n1 n2 => ⟨A, B, us, ws, rfl, .inr ⟨ta rfl, tb rfl, q (RZ.ItzT X.K A B) _ _ H' rfl (iter_zip (k := true) ex ey) r2⟩⟩)
  | exc _ _ _ _ =>
    rw [e1] at q
    left
    refine tA_os (os := vals [f, g]) ⟨τ, κ, env, r, l, ?_⟩
    rw [e1]
    exact q
  | stuck => rw [e1] at q; exact q.elim
/-! ### comprehensions -/
def Rs.ne {α : Type} (r : Rs α) : Rs α := match r with
  | .exc _ _ _ _ => .stuck
  | r => r
def wipeE (env : Tw.Env) : List Nat → Tw.Env
  | [] => env
  | v :: vs => (wipeE env vs).set v none
def compGo (vs : List Nat) (b : Bd) (t : EvB) (f : Ev) : List D → List D → Tw.Env → Rs (List D)
  | [], acc, env => .ok acc env
  | d :: ds, acc, env => match b d env with
    | none => .stuck
    | some env1 => (t env1).ne.bind fun k env2 => if k = true then (f env2).ne.bind fun y env3 => compGo vs b t f ds (acc ++ [y]) (wipeE env3 vs) else compGo vs b t f ds acc (wipeE env2 vs)
def fComp (vs : List Nat) (fi : Tw.Env → Rs (List D)) (b : Bd) (t : EvB) (f : Ev) : Ev := fun env => (fi env).bind fun items env1 => if lenOk items.length then (compGo vs b t f items [] (wipeE env1 vs)).bind fun ds env2 => .ok (.lst true ds) env2 else .stuck
theorem Rel.append {K : PySem.W.Frag} {H : Hp} {d : D} {acc : List D} {y : V} {p : Addr} {κ : Tw.Env} {τ : S} (r : Rel K cl H (some d :: some (.lst true acc) :: κ) (some y :: some (.ref p) :: τ)) :
    ∃ us, H p = some (.lst us) ∧ us.length = acc.length ∧ Rel K cl (upd H p (.lst (us ++ [y]))) (some (.lst true (acc ++ [d])) :: κ) (some (.ref p) :: τ) := by
  obtain ⟨F, n, h⟩ := r
  obtain ⟨v1, xs1, f1, g1, e1, e2, h1, h2⟩ := h
  cases e1
  obtain ⟨v2, xs2, f2, g2, e3, e4, h3, h4⟩ := h2
  cases e3
  obtain ⟨a, us, g, e5, t, hd, w⟩ := h3
  cases e5
  rcases w with ⟨_, hM, e6⟩ | ⟨z, _⟩
  · subst e6; subst e4; subst e2
    refine ⟨us, t, dats_length hd, ?_⟩
    have n1 := List.nodup_append.mp n
    have n2 := List.nodup_append.mp n1.2.1
    have np1 : p ∉ f1 := fun z => n1.2.2 p z p (List.mem_append_left _ List.mem_cons_self) rfl
    have np2 : p ∉ g2 := fun z => n2.2.2 p List.mem_cons_self p z rfl
    have np3 : p ∉ g := (List.nodup_cons.mp n2.1).1
    have pm : (f1 ++ (p :: g ++ g2)).Perm ((p :: (g ++ f1)) ++ g2) := by
      refine (List.perm_append_comm_assoc f1 (p :: g) g2).trans ?_
      simp
    refine Rel.of_perm (f := f1 ++ (p :: g ++ g2)) (g := (p :: (g ++ f1)) ++ g2) ?_ n pm
    have tr : ∀ {f : List Addr}, p ∉ f → ∀ a o, H a = some o → (a ∈ f1 ++ (p :: g ++ g2) → a ∈ f) → upd H p (.lst (us ++ [y])) a = some o := fun {f} np a o e hf => by
      rw [upd_ne fun z => np (by rw [← z]; exact hf (by rw [z]; exact hM))]
      exact e
    refine ⟨.ref p, _, p :: (g ++ f1), g2, rfl, rfl, ⟨p, us ++ [y], g ++ f1, rfl, upd_same, ?_, .inl ⟨rfl, hM, rfl⟩⟩, ?_⟩
    · refine dats_append (dats_tr hd (fun a z => .inl z) (fun a z => by simp [z]) (tr np3)) ⟨y, [], f1, [], rfl, by simp, dat_tr h1 (fun a z => .inl z) (fun a z => by simp [z]) (tr np1), rfl, rfl⟩
    · exact slots_tr h4 (fun a z => .inl z) (fun a z => by simp [z]) (tr np2)
  · cases z
theorem slots_blank {K M H} : ∀ {ds : Tw.Env} {xs : S} {f : List Addr} (i : Nat) (x : Option V), Slots K cl M H ds xs f → ∃ g, (∀ a ∈ g, a ∈ f) ∧ (f.Nodup → g.Nodup) ∧ Slots K cl M H (ds.set i none) (xs.set i x) g
  | [], xs, f, i, x, h => by
    have e := h.1
    subst e
    exact ⟨f, fun _ z => z, id, by simpa using h⟩
  | none :: ds, _, f, 0, x, h => by
    obtain ⟨y, ys, rfl, h⟩ := h
    exact ⟨f, fun _ z => z, id, x, ys, rfl, h⟩
  | some d :: ds, _, f, 0, x, h => by
    obtain ⟨y, ys, f1, f2, rfl, rfl, h1, h⟩ := h
    exact ⟨f2, fun _ z => List.mem_append_right _ z, fun n => (List.nodup_append.mp n).2.1, x, ys, rfl, h⟩
  | none :: ds, _, f, i + 1, x, h => by
    obtain ⟨y, ys, rfl, h⟩ := h
    obtain ⟨g, hg, n, h2⟩ := slots_blank i x h
    exact ⟨g, hg, n, y, ys.set i x, rfl, h2⟩
  | some d :: ds, _, f, i + 1, x, h => by
    obtain ⟨y, ys, f1, f2, rfl, rfl, h1, h⟩ := h
    obtain ⟨g, hg, n, h2⟩ := slots_blank i x h
    refine ⟨f1 ++ g, fun a z => (List.mem_append.mp z).elim (fun z => List.mem_append_left _ z) fun z => List.mem_append_right _ (hg a z), fun n' => ?_, y, ys.set i x, f1, g, rfl, rfl, h1, h2⟩
    have n3 := List.nodup_append.mp n'
    exact List.nodup_append.mpr ⟨n3.1, n n3.2.1, fun a z b w e => n3.2.2 a z b (hg b w) e⟩
theorem Rel.blank {K : PySem.W.Frag} {H : Hp} {ds : Tw.Env} {xs : S} (r : Rel K cl H ds xs) (i : Nat) (x : Option V) : Rel K cl H (ds.set i none) (xs.set i x) := by
  obtain ⟨f, n, h⟩ := r
  obtain ⟨g, hg, n2, h2⟩ := slots_blank i x h
  exact .of_sub h2 (n2 n) hg
theorem Rel.blank2 {K : PySem.W.Frag} {H : Hp} {κ env : Tw.Env} {τ σ : S} (r : Rel K cl H (κ ++ env) (τ ++ σ)) (l : τ.length = κ.length) (i : Nat) (x : Option V) : Rel K cl H (κ ++ env.set i none) (τ ++ σ.set i x) := by
  have q := r.blank (κ.length + i) x
  rwa [List.set_append_right _ _ (by omega), Nat.add_sub_cancel_left, ← l, List.set_append_right _ _ (by omega), Nat.add_sub_cancel_left] at q
theorem rel_wipe {K : PySem.W.Frag} {H : Hp} {κ env : Tw.Env} {τ σ : S} (r : Rel K cl H (κ ++ env) (τ ++ σ)) (l : τ.length = κ.length) : ∀ vs : List Nat, Rel K cl H (κ ++ wipeE env vs) (τ ++ wipe σ vs)
  | [] => r
  | v :: vs => (rel_wipe r l vs).blank2 l v none
theorem wipeE_set {env : Tw.Env} : ∀ {vs : List Nat} {v : Nat}, v ∈ vs → (wipeE env vs).set v none = wipeE env vs
  | u :: vs, v, h => by
    unfold wipeE
    by_cases e : v = u
    · subst e; rw [List.set_set]
    · rw [List.set_comm _ _ (Ne.symm e), wipeE_set ((List.mem_cons.mp h).resolve_left e)]
theorem set_some_self (σ : S) (v : Nat) : σ.set v (σ[v]?.join) = σ := by
  by_cases h : v < σ.length
  · rw [List.getElem?_eq_getElem h]
    show σ.set v σ[v] = σ
    exact List.set_getElem_self h
  · exact List.set_eq_of_length_le (by omega)
theorem rel_unwipe {K : PySem.W.Frag} {H : Hp} {κ env : Tw.Env} {τ σ : S} (l : τ.length = κ.length) : ∀ {vs : List Nat}, (∀ v ∈ vs, env.set v none = env) → Rel K cl H (κ ++ env) (τ ++ wipe σ vs) → Rel K cl H (κ ++ env) (τ ++ σ)
  | [], _, r => r
  | v :: vs, hv, r => by
    refine rel_unwipe l (fun u hu => hv u (List.mem_cons_of_mem _ hu)) ?_
    have q := r.blank2 l v ((wipe σ vs)[v]?.join)
    rw [hv v List.mem_cons_self] at q
    have e : (wipe σ (v :: vs)).set v ((wipe σ vs)[v]?.join) = wipe σ vs := by
      show ((wipe σ vs).set v none).set v _ = _
      rw [List.set_set, set_some_self]
    rwa [e] at q
theorem wipe_off {σ σ' : S} : ∀ {vs : List Nat}, σ'.length = σ.length → (∀ j, j ∉ vs → σ'[j]? = σ[j]?) → wipe σ' vs = wipe σ vs := fun {vs} l h => by
  apply List.ext_getElem?
  intro j
  by_cases hj : j ∈ vs
  · have key : ∀ (ρ : S) (us : List Nat), j ∈ us → (wipe ρ us)[j]? = if j < ρ.length then some none else none := fun ρ us hm => by
      induction us with
      | nil => cases hm
      | cons u us ih =>
        unfold wipe
        by_cases e : u = j
        · subst e
          by_cases c : u < ρ.length
          · rw [if_pos c, List.getElem?_set_self (by rw [wipe_length]; exact c)]
          · rw [if_neg c, List.getElem?_eq_none (by rw [List.length_set, wipe_length]; omega)]
        · rw [List.getElem?_set_ne e]
          exact ih ((List.mem_cons.mp hm).resolve_left fun z => e z.symm)
    rw [key σ' vs hj, key σ vs hj, l]
  · rw [wipe_out hj, wipe_out hj, h j hj]
/-- the reading of a comprehension -/
theorem rd_comp {K : PySem.W.Frag} {vs ts : List Nat} {fi : Tw.Env → Rs (List D)} {b : Bd} {t : EvB} {f : Ev} {g : TG} {tt : TT} {te : TE} (hts : ∀ i ∈ ts, i ∈ vs) {σ : S} {H : Hp} {Q : VK} (h : tE K cl W (fComp vs fi b t f) σ H Q)
    (hg : ∀ v σ H Q, tG K cl ts b v σ H Q → g v σ H Q) (ht : ∀ σ H Q, tT K cl (fun _ _ _ _ => False) t σ H Q → tt σ H Q) (he : ∀ σ H Q, tE K cl (fun _ _ _ _ => False) f σ H Q → te σ H Q) : tLc (tI K cl W fi) g tt te vs σ H Q := by
  obtain ⟨τ, κ, env, r, l, q⟩ := h
  refine ⟨τ, κ, env, r, l, ?_⟩
  unfold fComp at q
  cases e1 : fi env with
  | ok items env1 =>
    rw [e1, Rs.bind_ok] at q
    intro J κx τx H1 lx it r1 p hD
    split at q
    · rename_i hlen
      have hlen := of_decide_eq_true hlen
      let Inv : Nat → Nat → Hp → Prop := fun i m H => i ≤ items.length ∧ m = items.length - i ∧ ∃ (env' : Tw.Env) (acc : List D), acc.length ≤ i ∧ (∀ v ∈ vs, env'.set v none = env') ∧ Rel K cl H (some (.lst true acc) :: (κx ++ (κ ++ env'))) (some (.ref p) :: (τx ++ (τ ++ wipe σ vs))) ∧
        ((compGo vs b t f (items.drop i) acc env').bind fun ds env2 => Rs.ok (Tw.D.lst true ds) env2).P (fun d env' => ∀ v H', Rel K cl H' (some d :: (κ ++ env')) (some v :: (τ ++ σ)) → Q v H') (WP K cl W κ τ σ)
      refine ⟨Inv, ⟨items.length, Nat.zero_le _, rfl, wipeE env1 vs, [], Nat.zero_le _, fun v hv => wipeE_set hv, ?_, q⟩, ?_⟩
      · have r2 : Rel K cl H1 (κx ++ (κ ++ wipeE env1 vs)) (τx ++ (τ ++ wipe σ vs)) := by
          have z := rel_wipe (κ := κx ++ κ) (τ := τx ++ τ) (env := env1) (σ := σ) (by rw [List.append_assoc, List.append_assoc]; exact r1) (by simp [lx, l]) vs
          rwa [List.append_assoc, List.append_assoc] at z
        exact Rel.packL (as := []) (vs := []) r2 rfl hD
      · rintro i m H ⟨hi, rfl, env', acc, ha, hv, r2, q2⟩
        by_cases hlt : i < items.length
        · right
          have hd : items[i]? = some items[i] := List.getElem?_eq_getElem hlt
          have r3 : Rel K cl H (κx ++ (some (.lst true acc) :: (κ ++ env'))) (τx ++ (some (.ref p) :: (τ ++ wipe σ vs))) := Rel.swap3 (A := [some (.lst true acc)]) (X := [some (.ref p)]) r2 rfl lx
          obtain ⟨go, yl⟩ := it.go i items[i] hd H _ _ r3
          have r4' : ∀ x H', J.yld i H x H' → Rel K cl H' (some items[i] :: (some (.lst true acc) :: (κx ++ (κ ++ env')))) (some x :: (some (.ref p) :: (τx ++ (τ ++ wipe σ vs)))) := fun x H' y => by
            have z := yl x H' y
            have z2 := Rel.swap3 (A := some items[i] :: κx) (X := some x :: τx) (B := [some (.lst true acc)]) (Y := [some (.ref p)]) (C := κ ++ env') (Z := τ ++ wipe σ vs) z (by simp [lx]) rfl
            exact Rel.swap3 (A := [some (.lst true acc)]) (X := [some (.ref p)]) (B := [some items[i]]) (Y := [some x]) z2 rfl rfl
          rw [List.drop_eq_getElem_cons hlt] at q2
          unfold compGo at q2
          refine ⟨go, fun H' => ∃ m', m' < items.length - i ∧ Inv (i + 1) m' H', fun H' z => z, fun x H' y => hg _ _ _ _ ?_⟩
          have r4 := r4' x H' y
          cases e2 : b items[i] env' with
          | none => rw [e2] at q2; exact q2.elim
          | some env2 =>
            rw [e2] at q2
            simp only at q2
            refine ⟨some (.ref p) :: (τx ++ τ), some (.lst true acc) :: (κx ++ κ), env', items[i], by simpa [List.append_assoc] using r4, by simp [lx, l], env2, e2, fun σ2 H2 o2 r5 => ?_⟩
            have ew : wipe σ2 vs = wipe σ vs := by
              have z : wipe σ2 vs = wipe (wipe σ vs) vs := wipe_off o2.1 fun j hj => o2.2 j fun z => hj (hts j z)
              rw [z]
              exact wipe_off (wipe_length _ _) fun j hj => wipe_out hj
            refine ⟨ew, ht _ _ _ ?_⟩
            have back : ∀ {ρ : S} {env3 : Tw.Env} {H3 : Hp} {a : List D}, wipe ρ vs = wipe σ vs → Rel K cl H3 (some (.lst true a) :: (κx ++ (κ ++ env3))) (some (.ref p) :: (τx ++ (τ ++ ρ))) → Rel K cl H3 (some (.lst true a) :: (κx ++ (κ ++ wipeE env3 vs))) (some (.ref p) :: (τx ++ (τ ++ wipe σ vs))) := fun {ρ env3 H3 a} e z => by
              have z2 := rel_wipe (κ := some (.lst true a) :: (κx ++ κ)) (τ := some (.ref p) :: (τx ++ τ)) (env := env3) (σ := ρ) (by simpa [List.append_assoc] using z) (by simp [lx, l]) vs
              rw [e] at z2
              simpa [List.append_assoc] using z2
            refine ⟨some (.ref p) :: (τx ++ τ), some (.lst true acc) :: (κx ++ κ), env2, r5, by simp [lx, l], ?_⟩
            cases e3 : t env2 with
            | ok k env3 =>
              rw [e3] at q2
              simp only [Rs.ne, Rs.bind_ok] at q2
              intro H3 r6
              have r6' : Rel K cl H3 (some (.lst true acc) :: (κx ++ (κ ++ env3))) (some (.ref p) :: (τx ++ (τ ++ σ2))) := by simpa [List.append_assoc] using r6
              cases k with
              | true =>
                rw [if_pos rfl] at q2 ⊢
                refine he _ _ _ ⟨some (.ref p) :: (τx ++ τ), some (.lst true acc) :: (κx ++ κ), env3, r6, by simp [lx, l], ?_⟩
                cases e4 : f env3 with
                | ok y env4 =>
                  rw [e4] at q2
                  simp only [Rs.ne, Rs.bind_ok] at q2
                  intro v H4 r7
                  obtain ⟨us, t1, lu, r8⟩ := Rel.append (d := y) (acc := acc) (y := v) (p := p) (κ := κx ++ (κ ++ env4)) (τ := τx ++ (τ ++ σ2)) (by simpa [List.append_assoc] using r7)
                  exact ⟨us, t1, by omega, items.length - (i + 1), by omega, hlt, rfl, wipeE env4 vs, acc ++ [y], by simp; omega, fun v hv => wipeE_set hv, back ew r8, q2⟩
                | exc _ _ _ _ => rw [e4] at q2; exact q2.elim
                | stuck => rw [e4] at q2; exact q2.elim
              | false =>
                rw [if_neg Bool.false_ne_true] at q2 ⊢
                exact ⟨items.length - (i + 1), by omega, hlt, rfl, wipeE env3 vs, acc, by omega, fun v hv => wipeE_set hv, back ew r6', q2⟩
            | exc _ _ _ _ => rw [e3] at q2; exact q2.elim
            | stuck => rw [e3] at q2; exact q2.elim
        · left
          have e : i = items.length := by omega
          subst e
          have r3 : Rel K cl H (κx ++ (some (.lst true acc) :: (κ ++ env'))) (τx ++ (some (.ref p) :: (τ ++ wipe σ vs))) := Rel.swap3 (A := [some (.lst true acc)]) (X := [some (.ref p)]) r2 rfl lx
          refine ⟨it.stop _ (Nat.le_refl _) H _ _ r3, ?_⟩
          rw [List.drop_length] at q2
          have r4 := Rel.drop r3 lx
          exact q2 _ _ (rel_unwipe (κ := some (.lst true acc) :: κ) (τ := some (.ref p) :: τ) (by simp [l]) hv r4)
    · exact q.elim
  | exc _ _ _ _ => rw [e1] at q; exact q
  | stuck => rw [e1] at q; exact q
end
end Tw
noncomputable section
namespace Tw
open PySem PySem.Spec PyProof.Rows L2
def bTrue : EvB := fun env => .ok true env
section
variable {X : Cx} {cl : Nat → Addr} {W : WX} {a b c e : Expr} {es : List Expr} {pos p : Pos} {x : Str} {fa fb fc : Ev}
theorem c_nil : PTs X [] (tT X.K cl W bTrue) := ⟨fun pins s σ H Q I ⟨τ, κ, env, r, l, q⟩ => pts_nil.run pins s σ H Q I (q H r)⟩
theorem c_one {t : EvB} (h : PT X c (tT X.K cl W t)) : PTs X [c] (tT X.K cl W t) := pts_one h
theorem j_comp {elt tg iter : Expr} {ifs : List Expr} {scope : Scope} {own : List (Str × Nat)} {fi : Tw.Env → Rs (List D)} {bd : Bd} {ts : List Nat} {t : EvB} {f : Ev} (hc : X.calm = true) (hN : X.N.Nodup) (hi : PI X tg iter (tI X.K cl W fi)) (ok : BlkOk X.N X.env.scope scope own)
    (hg : ∀ (s : Shared) (H : Hp) (C : Addr) (cls : List (Str × Addr)) (fp : List Addr), PG (X.blk s H scope (compEnvC scope cls C X.env) fp) tg (tG X.K cl ts bd)) (ht : ∀ (s : Shared) (H : Hp) (C : Addr) (cls : List (Str × Addr)) (fp : List Addr), PTs (X.blk s H scope (compEnvC scope cls C X.env) fp) ifs (tT X.K cl (fun _ _ _ _ => False) t))
    (he : ∀ (s : Shared) (H : Hp) (C : Addr) (cls : List (Str × Addr)) (fp : List Addr), PE (X.blk s H scope (compEnvC scope cls C X.env) fp) elt (tE X.K cl (fun _ _ _ _ => False) f)) (hts : ∀ i ∈ ts, i ∈ own.map (·.2)) (hs : ∀ x, foldedSetIterable iter X.env x = pure x := by intro _; rfl) :
    PE X (.ListComp elt [⟨tg, iter, ifs, 0⟩] scope pos) (tE X.K cl W (fComp (own.map (·.2)) fi bd t f)) :=
  PE.imp (pe_lc hc hN hi ok hg ht he hs) fun σ H Q h => rd_comp hts h (fun _ _ _ _ z => z) (fun _ _ _ z => z) fun _ _ _ z => z
/-! ## statements -/
inductive Out where
  | next (env : Tw.Env) | brk (env : Tw.Env) | cont (env : Tw.Env) | ret (d : D) (env : Tw.Env) | exc (c : Nat) (ns : List Str) (ds : List D) (env : Tw.Env) | stuck
abbrev Sv := Tw.Env → Out
def Agr (io : List Nat) (σ σ' : S) : Prop := σ'.length = σ.length ∧ ∀ i ∈ io, σ'[i]? = σ[i]?
theorem Agr.refl {io : List Nat} {σ : S} : Agr io σ σ := ⟨rfl, fun _ _ => rfl⟩
theorem Agr.symm {io : List Nat} {σ σ' : S} (h : Agr io σ σ') : Agr io σ' σ := ⟨h.1.symm, fun i hi => (h.2 i hi).symm⟩
theorem Agr.trans {io : List Nat} {σ σ1 σ2 : S} (h : Agr io σ σ1) (h2 : Agr io σ1 σ2) : Agr io σ σ2 := ⟨h2.1.trans h.1, fun i hi => (h2.2 i hi).trans (h.2 i hi)⟩
theorem Off.agr {ts io : List Nat} {σ σ' : S} (h : Off ts σ σ') (d : ∀ i ∈ io, i ∉ ts) : Agr io σ σ' := ⟨h.1, fun i hi => h.2 i (d i hi)⟩
def SOut (K : PySem.W.Frag) (cl : Nat → Addr) (W : WX) (io : List Nat) (Z : Ends) (κ : Tw.Env) (τ σ : S) : Out → Prop
  | .next env' => ∀ σ' H', Agr io σ σ' → Rel K cl H' (κ ++ env') (τ ++ σ') → Z.nx σ' H'
  | .brk env' => ∀ σ' H', Agr io σ σ' → Rel K cl H' (κ ++ env') (τ ++ σ') → Z.bk σ' H'
  | .cont env' => ∀ σ' H', Agr io σ σ' → Rel K cl H' (κ ++ env') (τ ++ σ') → Z.ct σ' H'
  | .ret d env' => ∀ v σ' H', Agr io σ σ' → Rel K cl H' (some d :: (κ ++ env')) (some v :: (τ ++ σ')) → Z.rt v H'
  | .exc c ns ds env' => ∀ cls dd σ' H' vs, Agr io σ σ' → ExAt cl H' cls dd c ns vs → Rel K cl H' (ds.map some ++ (κ ++ env')) (vs.map some ++ (τ ++ σ')) → ds.length = vs.length → W cls dd σ' H'
  | .stuck => False
def tS (K : PySem.W.Frag) (cl : Nat → Addr) (W : WX) (io : List Nat) (g : Sv) : TS := fun Z σ H => ∃ (τ : S) (κ env : Tw.Env), Rel K cl H (κ ++ env) (τ ++ σ) ∧ τ.length = κ.length ∧ SOut K cl W io Z κ τ σ (g env)
theorem SOut.agr {K : PySem.W.Frag} {io : List Nat} {Z : Ends} {κ : Tw.Env} {τ σ σ1 : S} {o : Out} (h : SOut K cl W io Z κ τ σ o) (g : Agr io σ σ1) : SOut K cl W io Z κ τ σ1 o := by
  cases o with
  | next env => exact fun σ' H' q r => h σ' H' (g.trans q) r
  | brk env => exact fun σ' H' q r => h σ' H' (g.trans q) r
  | cont env => exact fun σ' H' q r => h σ' H' (g.trans q) r
  | ret d env => exact fun v σ' H' q r => h v σ' H' (g.trans q) r
  | exc c ns ds env => exact fun cls dd σ' H' vs q e r l => h cls dd σ' H' vs (g.trans q) e r l
  | stuck => exact h
def sBind {α : Type} (r : Rs α) (k : α → Tw.Env → Out) : Out := match r with
  | .ok a e => k a e
  | .exc c ns ds e => .exc c ns ds e
  | .stuck => .stuck
@[simp] theorem sBind_ok {α : Type} (a : α) (e : Tw.Env) (k : α → Tw.Env → Out) : sBind (.ok a e) k = k a e := rfl
@[simp] theorem sBind_stuck {α : Type} (k : α → Tw.Env → Out) : sBind .stuck k = .stuck := rfl
theorem sbind_at {K : PySem.W.Frag} {io : List Nat} {Z : Ends} {A κ env : Tw.Env} {Y τ σ : S} {H : Hp} {f : Ev} {k : D → Tw.Env → Out} {Q : VK} (ly : Y.length = A.length) (r : Rel K cl H (A ++ (κ ++ env)) (Y ++ (τ ++ σ))) (l : τ.length = κ.length) (h : SOut K cl W io Z κ τ σ (sBind (f env) k))
    (hk : ∀ d env1 v H1, SOut K cl W io Z κ τ σ (k d env1) → Rel K cl H1 (some d :: (A ++ (κ ++ env1))) (some v :: (Y ++ (τ ++ σ))) → Q v H1) : tE K cl W f σ H Q := by
  refine ⟨Y ++ τ, A ++ κ, env, by rwa [List.append_assoc, List.append_assoc], by simp [ly, l], ?_⟩
  cases e : f env with
  | ok d env1 =>
    rw [e] at h
    exact fun v H1 r1 => hk d env1 v H1 h (by rwa [List.append_assoc, List.append_assoc] at r1)
  | exc c ns ds env1 =>
    rw [e] at h
    exact WP.weak ly fun cls dd H' vs ex r2 l2 => h cls dd σ H' vs .refl ex r2 l2
  | stuck => rw [e] at h; exact h
theorem tbind_at {K : PySem.W.Frag} {io : List Nat} {Z : Ends} {κ env : Tw.Env} {τ σ : S} {H : Hp} {f : EvB} {k : Bool → Tw.Env → Out} {Q : Bool → Hp → Prop} (r : Rel K cl H (κ ++ env) (τ ++ σ)) (l : τ.length = κ.length) (h : SOut K cl W io Z κ τ σ (sBind (f env) k))
    (hk : ∀ d env1 H1, SOut K cl W io Z κ τ σ (k d env1) → Rel K cl H1 (κ ++ env1) (τ ++ σ) → Q d H1) : tT K cl W f σ H Q := by
  refine ⟨τ, κ, env, r, l, ?_⟩
  cases e : f env with
  | ok d env1 =>
    rw [e] at h
    exact fun H1 r1 => hk d env1 H1 h r1
  | exc c ns ds env1 =>
    rw [e] at h
    exact fun cls dd H' vs ex r2 l2 => h cls dd σ H' vs .refl ex r2 l2
  | stuck => rw [e] at h; exact h
/-! ### one behind another -/
variable {io : List Nat} {st : Stmt} {sts : List Stmt}
def sNil : Sv := fun env => .next env
def sSeq (g h : Sv) : Sv := fun env => match g env with
  | .next env1 => h env1
  | o => o
theorem ss_nil : PSs X [] (tS X.K cl W io sNil) := PSs.imp pss_nil fun Z σ H ⟨τ, κ, env, r, l, q⟩ => q σ H .refl r
theorem ss_cons {g h : Sv} (h1 : PS X st (tS X.K cl W io g)) (h2 : PSs X sts (tS X.K cl W io h)) : PSs X (st :: sts) (tS X.K cl W io (sSeq g h)) := PSs.imp (pss_cons h1 h2) fun Z σ H ⟨τ, κ, env, r, l, q⟩ => by
  refine ⟨τ, κ, env, r, l, ?_⟩
  unfold sSeq at q
  cases e : g env with
  | next env1 =>
    rw [e] at q
    exact fun σ' H' a r' => ⟨τ, κ, env1, r', l, q.agr a⟩
  | brk env1 => rw [e] at q; exact q
  | cont env1 => rw [e] at q; exact q
  | ret d env1 => rw [e] at q; exact q
  | exc c ns ds env1 => rw [e] at q; exact q
  | stuck => rw [e] at q; exact q
theorem ss_one {g : Sv} (h1 : PS X st (tS X.K cl W io g)) : PSs X [st] (tS X.K cl W io g) := pss_one h1
def sNever : Sv := fun _ => .stuck
theorem s_never : PS X st (tS X.K cl W io sNever) := PS.imp ps_never fun Z σ H ⟨τ, κ, env, r, l, q⟩ => q
theorem ss_never : PSs X sts (tS X.K cl W io sNever) := PSs.imp pss_never fun Z σ H ⟨τ, κ, env, r, l, q⟩ => q
def sBrk : Sv := fun env => .brk env
def sCont : Sv := fun env => .cont env
theorem s_pass : PS X (.Pass pos) (tS X.K cl W io sNil) := PS.imp ps_pass fun Z σ H ⟨τ, κ, env, r, l, q⟩ => q σ H .refl r
theorem s_brk : PS X (.Break pos) (tS X.K cl W io sBrk) := PS.imp ps_break fun Z σ H ⟨τ, κ, env, r, l, q⟩ => q σ H .refl r
theorem s_cont : PS X (.Continue pos) (tS X.K cl W io sCont) := PS.imp ps_continue fun Z σ H ⟨τ, κ, env, r, l, q⟩ => q σ H .refl r
def sRet (f : Ev) : Sv := fun env => sBind (f env) fun d env1 => .ret d env1
def sExpr (f : Ev) : Sv := fun env => sBind (f env) fun _ env1 => .next env1
theorem s_ret (h : PE X e (tE X.K cl W fa)) : PS X (.Return (some e) pos) (tS X.K cl W io (sRet fa)) := PS.imp (ps_ret h) fun Z σ H ⟨τ, κ, env, r, l, q⟩ =>
  sbind_at (A := []) (Y := []) rfl r l q fun d env1 v H1 h1 r1 => h1 v σ H1 .refl r1
theorem s_retN : PS X (.Return none pos) (tS X.K cl W io (sRet (fK .non))) := PS.imp ps_retN fun Z σ H ⟨τ, κ, env, r, l, q⟩ => q .non σ H .refl (r.push fun M => ⟨rfl, rfl⟩)
theorem s_expr (h : PE X e (tE X.K cl W fa)) (hs : swapsWith e none pos.line X.env = pure false := by rfl) : PS X (.Expr e pos) (tS X.K cl W io (sExpr fa)) := PS.imp (ps_expr h hs) fun Z σ H ⟨τ, κ, env, r, l, q⟩ =>
  sbind_at (A := []) (Y := []) rfl r l q fun d env1 v H1 h1 r1 => h1 σ H1 .refl r1.pop
def sIf (t : EvB) (g h : Sv) : Sv := fun env => sBind (t env) fun k env1 => if k = true then g env1 else h env1
theorem s_if {t : EvB} {g h : Sv} {as bs : List Stmt} (hc : PT X c (tT X.K cl W t)) (ha : PSs X as (tS X.K cl W io g)) (hb : PSs X bs (tS X.K cl W io h)) : PS X (.If c as bs pos) (tS X.K cl W io (sIf t g h)) := PS.imp (ps_if hc ha hb) fun Z σ H ⟨τ, κ, env, r, l, q⟩ =>
  tbind_at r l q fun k env1 H1 h1 r1 => by
    cases k with
    | true => rw [if_pos rfl] at h1 ⊢; exact ⟨τ, κ, env1, r1, l, h1⟩
    | false => rw [if_neg Bool.false_ne_true] at h1 ⊢; exact ⟨τ, κ, env1, r1, l, h1⟩
/-! ### stores -/
def sAsg (bd : Bd) (f : Ev) : Sv := fun env => sBind (f env) fun d env1 => match bd d env1 with
  | some env2 => .next env2
  | none => .stuck
theorem rd_asg {K : PySem.W.Frag} {ts : List Nat} {bd : Bd} {te : TE} {g : TG} (he : ∀ σ H Q, tE K cl W fa σ H Q → te σ H Q) (hg : ∀ v σ H Q, tG K cl ts bd v σ H Q → g v σ H Q) (hio : ∀ i ∈ io, i ∉ ts) {Z : Ends} {σ : S} {H : Hp} (h : tS K cl W io (sAsg bd fa) Z σ H) : tAsg te g Z σ H := by
  obtain ⟨τ, κ, env, r, l, q⟩ := h
  refine he _ _ _ (sbind_at (A := []) (Y := []) rfl r l q fun d env1 v H1 h1 r1 => hg _ _ _ _ ?_)
  cases e : bd d env1 with
  | none => rw [e] at h1; exact h1.elim
  | some env2 =>
    rw [e] at h1
    exact ⟨τ, κ, env1, d, r1, l, env2, e, fun σ' H' o r2 => h1 σ' H' (o.agr hio) r2⟩
theorem s_set {i : Nat} {px : Pos} (hN : X.N.Nodup) (he : PE X e (tE X.K cl W fa)) (hio : ∀ j ∈ io, j ∉ [i] := by decide) (hi : X.N[i]? = some x := by rfl) (hx : Loc X.env.scope x := by first | exact .inl rfl | exact .inr rfl) (hs : swapsWith e (some (.Name x px)) pos.line X.env = pure false := by rfl)
    (hf : X.fn x = true ∨ X.env.scope.names.lookup x = some .local := by first | exact .inl rfl | exact .inr rfl) : PS X (.Assign [.Name x px] e pos) (tS X.K cl W io (sAsg (bNm i) fa)) :=
  PS.imp (L2.ps_set hN hi hx he hs hf) fun Z σ H h => rd_asg (fun _ _ _ z => z) (fun _ _ _ _ z => rd_nm z) hio h
theorem s_asg {tg : Expr} {ts : List Nat} {bd : Bd} (he : PE X e (tE X.K cl W fa)) (hg : PG X tg (tG X.K cl ts bd)) (hio : ∀ j ∈ io, j ∉ ts := by decide) (hs : swapsWithSole [tg] e pos.line X.env = pure false := by rfl) (hw : swappedStores [tg] e X.env = pure none := by rfl) (h1 : (assignEach [tg] X.env).map (·.2) = [assign tg X.env] := by rfl) :
    PS X (.Assign [tg] e pos) (tS X.K cl W io (sAsg bd fa)) := PS.imp (ps_asg he hg hs hw h1) fun Z σ H h => rd_asg (fun _ _ _ z => z) (fun _ _ _ _ z => z) hio h
theorem s_setLc {i : Nat} {y : Str} {py spos : Pos} {elt tg iter : Expr} {ifs : List Expr} {scope : Scope} {own : List (Str × Nat)} {fi : Tw.Env → Rs (List D)} {bd : Bd} {ts : List Nat} {t : EvB} {f : Ev} (hc : X.calm = true) (hN : X.N.Nodup) (hy : X.N[i]? = some y) (hyl : X.env.scope.names.lookup y = some .local)
    (hsw : swapsWith (.ListComp elt [⟨tg, iter, ifs, 0⟩] scope pos) (some (.Name y py)) spos.line X.env = pure true) (hi : PI X tg iter (tI X.K cl W fi)) (ok : BlkOk X.N X.env.scope scope own)
    (hg : ∀ (s : Shared) (H : Hp) (C : Addr) (cls : List (Str × Addr)) (fp : List Addr), PG (X.blk s H scope (compEnvC scope cls C X.env) fp) tg (tG X.K cl ts bd)) (ht : ∀ (s : Shared) (H : Hp) (C : Addr) (cls : List (Str × Addr)) (fp : List Addr), PTs (X.blk s H scope (compEnvC scope cls C X.env) fp) ifs (tT X.K cl (fun _ _ _ _ => False) t))
    (he : ∀ (s : Shared) (H : Hp) (C : Addr) (cls : List (Str × Addr)) (fp : List Addr), PE (X.blk s H scope (compEnvC scope cls C X.env) fp) elt (tE X.K cl (fun _ _ _ _ => False) f)) (hts : ∀ i ∈ ts, i ∈ own.map (·.2)) (hio : ∀ j ∈ io, j ∉ [i] := by decide) (hs : ∀ x, foldedSetIterable iter X.env x = pure x := by intro _; rfl) :
    PS X (.Assign [.Name y py] (.ListComp elt [⟨tg, iter, ifs, 0⟩] scope pos) spos) (tS X.K cl W io (sAsg (bNm i) (fComp (own.map (·.2)) fi bd t f))) :=
  PS.imp (ps_setLc hc hN hy hyl hsw hi ok hg ht he hs) fun Z σ H h => rd_asg (fun σ H Q h => rd_comp hts h (fun _ _ _ _ z => z) (fun _ _ _ z => z) fun _ _ _ z => z) (fun _ _ _ _ z => rd_nm z) hio h
/-- a, b = e1, e2 -/
def sPar (i j : Nat) (f g : Ev) : Sv := fun env => sBind (f env) fun x env1 => sBind (g env1) fun y env2 => if i < env2.length ∧ j < env2.length then .next ((env2.set i (some x)).set j (some y)) else .stuck
theorem s_par {i j : Nat} {x y : Str} {px py pt : Pos} {kt k2 pt2} (hc : X.calm = true) (hN : X.N.Nodup) (ha : PE X a (tE X.K cl W fa)) (hb : PE X b (tE X.K cl W fb)) (hi : X.N[i]? = some x := by rfl) (hj : X.N[j]? = some y := by rfl) (hij : i ≠ j := by decide) (hio : ∀ k ∈ io, k ∉ [i, j] := by decide)
    (hx : X.env.scope.names.lookup x = some .local := by rfl) (hy : X.env.scope.names.lookup y = some .local := by rfl) (hw : swappedStores [.Tuple [.Name x px, .Name y py] kt pt] (.Tuple [a, b] k2 pt2) X.env = pure (some [x, y]) := by rfl)
    (hs : swapsWithSole [.Tuple [.Name x px, .Name y py] kt pt] (.Tuple [a, b] k2 pt2) pos.line X.env = pure false := by rfl) (h1 : starEach [a, b] X.env = (false, eval a X.env) :: starEach [b] X.env := by rfl) (h2 : starEach [b] X.env = (false, eval b X.env) :: starEach [] X.env := by rfl) :
    PS X (.Assign [.Tuple [.Name x px, .Name y py] kt pt] (.Tuple [a, b] k2 pt2) pos) (tS X.K cl W io (sPar i j fa fb)) :=
  PS.imp (ps_par hc hN hi hj hij hx hy (pa_cons ha (pa_cons hb pa_nil h2) h1) hw hs) fun Z σ H ⟨τ, κ, env, r, l, q⟩ => by
  refine sbind_at (A := []) (Y := []) rfl r l q fun d env1 v H1 h1 r1 => ?_
  refine sbind_at (A := [some d]) (Y := [some v]) rfl r1 l h1 fun d2 env2 v2 H2 h2 r2 => ⟨v, v2, rfl, ?_⟩
  split at h2
  · rename_i hl
    have r3 : Rel X.K cl H2 (some d :: (some d2 :: (κ ++ env2))) (some v :: (some v2 :: (τ ++ σ))) := Rel.swap3 (A := [some d2]) (X := [some v2]) (B := [some d]) (Y := [some v]) r2 rfl rfl
    have r4 := Rel.put (i := κ.length + i + 1) r3 (by simp; omega)
    have r5 : Rel X.K cl H2 (some d2 :: (κ ++ env2.set i (some d))) (some v2 :: (τ ++ σ.set i (some v))) := by
      rw [List.set_cons_succ, List.set_cons_succ, List.set_append_right _ _ (by omega), Nat.add_sub_cancel_left, ← l, List.set_append_right _ _ (by omega), Nat.add_sub_cancel_left] at r4
      exact r4
    have r6 := Rel.put (i := κ.length + j) r5 (by simp; omega)
    rw [List.set_append_right _ _ (by omega), Nat.add_sub_cancel_left, ← l, List.set_append_right _ _ (by omega), Nat.add_sub_cancel_left] at r6
    exact h2 _ H2 ((Off.set.trans Off.set).agr hio) r6
  · exact h2.elim
/-! ### loops -/
def forGo (bd : Bd) (body : Sv) : List D → Sv
  | [], env => .next env
  | d :: ds, env => match bd d env with
    | none => .stuck
    | some env1 => match body env1 with
      | .next env2 => forGo bd body ds env2
      | .cont env2 => forGo bd body ds env2
      | .brk env2 => .next env2
      | o => o
def sFor (fi : Tw.Env → Rs (List D)) (bd : Bd) (body : Sv) : Sv := fun env => sBind (fi env) fun items env1 => forGo bd body items env1
theorem s_for {tg iter : Expr} {body : List Stmt} {fi : Tw.Env → Rs (List D)} {ts : List Nat} {bd : Bd} {g : Sv} (hp : PassesOwn (model X.prog X.w) X.A X.env X.xe) (hc : X.calm = true) (hi : PI X tg iter (tI X.K cl W fi)) (hg : PG X tg (tG X.K cl ts bd)) (hb : PSs X body (tS X.K cl W io g)) (hio : ∀ i ∈ io, i ∉ ts := by decide)
    (hs : ∀ x, foldedSetIterable iter X.env x = pure x := by intro _; rfl) : PS X (.For tg iter body [] pos) (tS X.K cl W io (sFor fi bd g)) := PS.imp (ps_for hp hc hi hg hb hs) fun Z σ H ⟨τ, κ, env, r, l, q⟩ => by
  refine ⟨τ, κ, env, r, l, ?_⟩
  unfold sFor at q
  cases e1 : fi env with
  | ok items env1 =>
    rw [e1, sBind_ok] at q
    intro J κx τx H1 lx it r1
    refine ⟨fun i m σ1 H1 => i ≤ items.length ∧ m = items.length - i ∧ Agr io σ σ1 ∧ ∃ env', Rel X.K cl H1 (κx ++ (κ ++ env')) (τx ++ (τ ++ σ1)) ∧ SOut X.K cl W io Z κ τ σ (forGo bd g (items.drop i) env'), ⟨items.length, Nat.zero_le _, rfl, .refl, env1, r1, q⟩, ?_⟩
    rintro i m σ1 H1 ⟨hi, rfl, ag, env', r2, q2⟩
    by_cases hlt : i < items.length
    · right
      have hd : items[i]? = some items[i] := List.getElem?_eq_getElem hlt
      obtain ⟨go, yl⟩ := it.go i items[i] hd H1 _ _ r2
      refine ⟨go, _, fun σ' H' z => z, fun x H' y => ?_⟩
      have r3 := yl x H' y
      rw [List.drop_eq_getElem_cons hlt] at q2
      unfold forGo at q2
      cases e2 : bd items[i] env' with
      | none => rw [e2] at q2; exact q2.elim
      | some env2 =>
        rw [e2] at q2
        simp only at q2
        refine ⟨τx ++ τ, κx ++ κ, env', items[i], by simpa [List.append_assoc] using r3, by simp [lx, l], env2, e2, fun σ2 H2 o2 r4 => ?_⟩
        have ag2 := ag.trans (o2.agr hio)
        refine ⟨τx ++ τ, κx ++ κ, env2, r4, by simp [lx, l], ?_⟩
        cases e3 : g env2 with
        | next env3 =>
          rw [e3] at q2
          exact fun σ3 H3 a3 r5 => ⟨items.length - (i + 1), by omega, hlt, rfl, ag2.trans a3, env3, by simpa [List.append_assoc] using r5, q2⟩
        | cont env3 =>
          rw [e3] at q2
          exact fun σ3 H3 a3 r5 => ⟨items.length - (i + 1), by omega, hlt, rfl, ag2.trans a3, env3, by simpa [List.append_assoc] using r5, q2⟩
        | brk env3 =>
          rw [e3] at q2
          exact fun σ3 H3 a3 r5 => q2 σ3 H3 (ag2.trans a3) (Rel.drop (A := κx) (X := τx) (by simpa [List.append_assoc] using r5) lx)
        | ret d env3 =>
          rw [e3] at q2
          exact fun v σ3 H3 a3 r5 => q2 v σ3 H3 (ag2.trans a3) (Rel.drop (A := κx) (X := τx) (Rel.swap3 (A := [some d]) (X := [some v]) (B := κx) (Y := τx) (C := κ ++ env3) (Z := τ ++ σ3) (by simpa [List.append_assoc] using r5) rfl lx) lx)
        | exc c ns ds env3 =>
          rw [e3] at q2
          exact fun cls dd σ3 H3 vs a3 ex r5 l5 => q2 cls dd σ3 H3 vs (ag2.trans a3) ex (Rel.drop (A := κx) (X := τx) (Rel.swap3 (A := ds.map some) (X := vs.map some) (B := κx) (Y := τx) (C := κ ++ env3) (Z := τ ++ σ3) (by simpa [List.append_assoc] using r5) (by simp [l5]) lx) lx) l5
        | stuck => rw [e3] at q2; exact q2.elim
    · left
      have e : i = items.length := by omega
      subst e
      rw [List.drop_length] at q2
      exact ⟨it.stop _ (Nat.le_refl _) H1 _ _ r2, q2 σ1 H1 ag (Rel.drop r2 lx)⟩
  | exc c ns ds env1 =>
    rw [e1] at q
    exact fun cls dd H' vs ex r2 l2 => q cls dd σ H' vs .refl ex r2 l2
  | stuck => rw [e1] at q; exact q
def whileGo (t : EvB) (body : Sv) : Nat → Sv
  | 0, _ => .stuck
  | n + 1, env => sBind (t env) fun k env1 => if k = true then (match body env1 with
      | .next env2 => whileGo t body n env2
      | .cont env2 => whileGo t body n env2
      | .brk env2 => .next env2
      | o => o) else .next env1
open Classical in
noncomputable def sWhile (t : EvB) (body : Sv) : Sv := fun env => if h : ∃ n, whileGo t body n env ≠ .stuck then whileGo t body (Classical.choose h) env else .stuck
theorem s_while {body : List Stmt} {t : EvB} {g : Sv} (hp : PassesOwn (model X.prog X.w) X.A X.env X.xe) (hc : PT X c (tT X.K cl W t)) (hb : PSs X body (tS X.K cl W io g)) : PS X (.While c body [] pos) (tS X.K cl W io (sWhile t g)) := PS.imp (ps_while hp hc hb) fun Z σ H ⟨τ, κ, env, r, l, q⟩ => by
  unfold sWhile at q
  split at q
  · rename_i h
    refine ⟨fun m σ1 H1 => Agr io σ σ1 ∧ ∃ env', Rel X.K cl H1 (κ ++ env') (τ ++ σ1) ∧ SOut X.K cl W io Z κ τ σ (whileGo t g m env'), ⟨_, .refl, env, r, q⟩, ?_⟩
    rintro m σ1 H1 ⟨ag, env', r1, q1⟩
    cases m with
    | zero => exact q1.elim
    | succ m =>
      unfold whileGo at q1
      refine tbind_at r1 l (q1.agr ag) fun k env1 H2 h2 r2 => ?_
      cases k with
      | false =>
        rw [if_neg Bool.false_ne_true] at h2 ⊢
        exact h2 σ1 H2 .refl r2
      | true =>
        rw [if_pos rfl] at h2 ⊢
        refine ⟨_, fun σ' H' z => z, τ, κ, env1, r2, l, ?_⟩
        cases e3 : g env1 with
        | next env3 =>
          rw [e3] at h2
          exact fun σ3 H3 a3 r5 => ⟨m, by omega, ag.trans a3, env3, r5, h2.agr ag.symm⟩
        | cont env3 =>
          rw [e3] at h2
          exact fun σ3 H3 a3 r5 => ⟨m, by omega, ag.trans a3, env3, r5, h2.agr ag.symm⟩
        | brk env3 => rw [e3] at h2; exact h2
        | ret d env3 => rw [e3] at h2; exact h2
        | exc c ns ds env3 => rw [e3] at h2; exact h2
        | stuck => rw [e3] at h2; exact h2.elim
  · exact q.elim
end
end Tw
noncomputable section
namespace Tw
open PySem PySem.Spec PyProof.Rows L2
/-! ### lists that are changed where they lie -/
def D.own : D → Option (List D)
  | .lst true xs => some xs
  | _ => none
theorem own_eq {d : D} {xs : List D} (h : D.own d = some xs) : d = .lst true xs := by
  cases d with
  | lst m ys => cases m <;> simp [D.own] at h; rw [h]
  | _ => simp [D.own] at h
def ownAt (env : Tw.Env) (i : Nat) : Option (List D) := (env[i]?.join).bind D.own
section
variable {X : Cx} {cl : Nat → Addr} {W : WX} {a b c e : Expr} {es : List Expr} {pos p : Pos} {x : Str} {fa fb fc : Ev} {io : List Nat}
theorem ownAt_eq {env : Tw.Env} {i : Nat} {xs : List D} (h : ownAt env i = some xs) : env[i]? = some (some (.lst true xs)) := by
  unfold ownAt at h
  obtain ⟨d, e, h⟩ := Option.bind_eq_some_iff.mp h
  rw [own_eq h] at e
  cases e2 : env[i]? with
  | none => rw [e2] at e; cases e
  | some o => rw [e2] at e; cases o with
    | none => cases e
    | some d' => cases e; rfl
/-- the list at a slot to the front, and back -/
theorem slot_out {K : PySem.W.Frag} {H : Hp} {A κ env : Tw.Env} {Y τ σ : S} {i : Nat} {d : D} (r : Rel K cl H (A ++ (κ ++ env)) (Y ++ (τ ++ σ))) (ly : Y.length = A.length) (l : τ.length = κ.length) (e : env[i]? = some (some d)) :
    ∃ v, σ[i]? = some (some v) ∧ Rel K cl H (some d :: (A ++ (κ ++ env.set i none))) (some v :: (Y ++ (τ ++ σ))) := by
  have e2 : (A ++ (κ ++ env))[A.length + (κ.length + i)]? = some (some d) := by
    rw [List.getElem?_append_right (by omega), Nat.add_sub_cancel_left, List.getElem?_append_right (by omega), Nat.add_sub_cancel_left]
    exact e
  obtain ⟨v, e3, r2⟩ := r.take e2
  rw [List.getElem?_append_right (by omega), ly, Nat.add_sub_cancel_left, List.getElem?_append_right (by omega), l, Nat.add_sub_cancel_left] at e3
  rw [List.set_append_right _ _ (by omega), Nat.add_sub_cancel_left, List.set_append_right _ _ (by omega), Nat.add_sub_cancel_left] at r2
  exact ⟨v, e3, r2⟩
theorem slot_in {K : PySem.W.Frag} {H : Hp} {A κ env : Tw.Env} {Y τ σ : S} {i : Nat} {d : D} {v : V} (r : Rel K cl H (some d :: (A ++ (κ ++ env))) (some v :: (Y ++ (τ ++ σ)))) (ly : Y.length = A.length) (l : τ.length = κ.length) (e : σ[i]? = some (some v)) : Rel K cl H (A ++ (κ ++ env.set i (some d))) (Y ++ (τ ++ σ)) := by
  have e2 : (Y ++ (τ ++ σ))[A.length + (κ.length + i)]? = some (some v) := by
    rw [← ly, ← l, List.getElem?_append_right (by omega), Nat.add_sub_cancel_left, List.getElem?_append_right (by omega), Nat.add_sub_cancel_left]
    exact e
  have r2 := r.back e2
  rwa [List.set_append_right _ _ (by omega), Nat.add_sub_cancel_left, List.set_append_right _ _ (by omega), Nat.add_sub_cancel_left] at r2
/-- o.m(e) of the list at slot i: gm tells from the list and the argument the answer and the new list -/
def fMt1 (i : Nat) (gm : List D → D → Option (D × List D)) (f : Ev) : Ev := fun env => match ownAt env i with
  | none => .stuck
  | some _ => (f env).bind fun y env1 => match (ownAt env1 i).bind fun ds => gm ds y with
    | some q => .ok q.1 (env1.set i (some (.lst true q.2)))
    | none => .stuck
def fMt0 (i : Nat) (gm : List D → Option (D × List D)) : Ev := fun env => match (ownAt env i).bind gm with
  | some q => .ok q.1 (env.set i (some (.lst true q.2)))
  | none => .stuck
/-- what the rule of such a method asks, told of the front -/
def Mt1S (K : PySem.W.Frag) (cl : Nat → Addr) (r : V → List V → Hp → VK → Prop) (gm : List D → D → Option (D × List D)) : Prop :=
  ∀ (ds : List D) (y : D) (q : D × List D) (p : Addr) (v : V) (H : Hp) (κ : Tw.Env) (τ : S) (Q : VK), gm ds y = some q → Rel K cl H (some y :: some (.lst true ds) :: κ) (some v :: some (.ref p) :: τ) →
    (∀ u H', Rel K cl H' (some q.1 :: some (.lst true q.2) :: κ) (some u :: some (.ref p) :: τ) → Q u H') → r (.ref p) [v] H Q
def Mt0S (K : PySem.W.Frag) (cl : Nat → Addr) (r : V → List V → Hp → VK → Prop) (gm : List D → Option (D × List D)) : Prop :=
  ∀ (ds : List D) (q : D × List D) (p : Addr) (H : Hp) (κ : Tw.Env) (τ : S) (Q : VK), gm ds = some q → Rel K cl H (some (.lst true ds) :: κ) (some (.ref p) :: τ) →
    (∀ u H', Rel K cl H' (some q.1 :: some (.lst true q.2) :: κ) (some u :: some (.ref p) :: τ) → Q u H') → r (.ref p) [] H Q
theorem own_head {K : PySem.W.Frag} {H : Hp} {ds : List D} {v : V} {κ : Tw.Env} {τ : S} (r : Rel K cl H (some (.lst true ds) :: κ) (some v :: τ)) : ∃ p vs, v = .ref p ∧ H p = some (.lst vs) ∧ vs.length = ds.length := by
  obtain ⟨M, f, a, vs, g, e, t, hd, _⟩ := r.head
  exact ⟨a, vs, e, t, dats_length hd⟩
theorem rd_mt1 {K : PySem.W.Frag} {i : Nat} {r : V → List V → Hp → VK → Prop} {gm : List D → D → Option (D × List D)} (hs : Mt1S K cl r gm) {σ : S} {H : Hp} {Q : VK} (h : tE K cl W (fMt1 i gm fa) σ H Q) : tBM K "list" r (tVar i) (tOs K cl W [.val fa]) σ H Q := by
  obtain ⟨τ, κ, env, rl, l, q⟩ := h
  unfold fMt1 at q
  cases e : ownAt env i with
  | none => rw [e] at q; exact q.elim
  | some ds0 =>
    rw [e] at q
    simp only at q
    obtain ⟨v, e1, r1⟩ := slot_out (A := []) (Y := []) rl rfl l (ownAt_eq e)
    obtain ⟨p, vs, rfl, t, _⟩ := own_head r1
    refine ⟨.ref p, e1, .inl ⟨rfl, vs, .of t⟩, ?_⟩
    refine tE_bind rl l q fun y env1 v H1 h1 r2 => ?_
    show r _ _ _ _
    cases e2 : (ownAt env1 i).bind fun ds => gm ds y with
    | none => rw [e2] at h1; exact h1.elim
    | some z =>
      rw [e2] at h1
      obtain ⟨ds, e3, e4⟩ := Option.bind_eq_some_iff.mp e2
      obtain ⟨v', e5, r3⟩ := slot_out (A := [some y]) (Y := [some v]) r2 rfl l (ownAt_eq e3)
      rw [e1] at e5
      cases e5
      refine hs ds y z p v H1 _ _ Q e4 (Rel.swap3 (A := [some (.lst true ds)]) (X := [some (.ref p)]) (B := [some y]) (Y := [some v]) r3 rfl rfl) fun u H2 r4 => ?_
      have r5 := slot_in (A := [some z.1]) (Y := [some u]) (Rel.swap3 (A := [some z.1]) (X := [some u]) (B := [some (.lst true z.2)]) (Y := [some (.ref p)]) r4 rfl rfl) rfl l e1
      rw [List.set_set] at r5
      exact h1 u H2 r5
theorem rd_mt0 {K : PySem.W.Frag} {i : Nat} {r : V → List V → Hp → VK → Prop} {gm : List D → Option (D × List D)} (hs : Mt0S K cl r gm) {σ : S} {H : Hp} {Q : VK} (h : tE K cl W (fMt0 i gm) σ H Q) : tBM0 K "list" r (tVar i) σ H Q := by
  obtain ⟨τ, κ, env, rl, l, q⟩ := h
  unfold fMt0 at q
  cases e2 : (ownAt env i).bind gm with
  | none => rw [e2] at q; exact q.elim
  | some z =>
    rw [e2] at q
    obtain ⟨ds, e3, e4⟩ := Option.bind_eq_some_iff.mp e2
    obtain ⟨v, e1, r1⟩ := slot_out (A := []) (Y := []) rl rfl l (ownAt_eq e3)
    obtain ⟨p, vs, rfl, t, _⟩ := own_head r1
    refine ⟨.ref p, e1, .inl ⟨rfl, vs, .of t⟩, ?_⟩
    refine hs ds z p H _ _ Q e4 r1 fun u H2 r4 => ?_
    have r5 := slot_in (A := [some z.1]) (Y := [some u]) (Rel.swap3 (A := [some z.1]) (X := [some u]) (B := [some (.lst true z.2)]) (Y := [some (.ref p)]) r4 rfl rfl) rfl l e1
    rw [List.set_set] at r5
    exact q u H2 r5
def gAppend (ds : List D) (y : D) : Option (D × List D) := if lenOk (ds.length + 1) then some (.non, ds ++ [y]) else none
theorem s_append {K : PySem.W.Frag} : Mt1S K cl rAppend gAppend := by
  intro ds y q p v H κ τ Q h r k
  unfold gAppend at h
  split at h
  · rename_i c
    cases h
    obtain ⟨us, t, lu, r2⟩ := r.append
    have c := of_decide_eq_true c
    exact ⟨p, us, v, rfl, rfl, t, by omega, k _ _ (r2.push fun M => ⟨rfl, rfl⟩)⟩
  · cases h
/-- parts of the front list put elsewhere: what is left of it -/
theorem Rel.relist {K : PySem.W.Frag} {H : Hp} {ds es : List D} {us ws : List V} {p : Addr} {κ : Tw.Env} {τ : S} (r : Rel K cl H (some (.lst true ds) :: κ) (some (.ref p) :: τ)) (t : H p = some (.lst us)) (o : D.oks ds = true)
    (hd : ∀ M, Dats K cl M H ds us [] → Dats K cl M H es ws []) : Rel K cl (upd H p (.lst ws)) (some (.lst true es) :: κ) (some (.ref p) :: τ) := by
  obtain ⟨F, n, h⟩ := r
  obtain ⟨v1, xs1, f1, g1, e1, e2, h1, h4⟩ := h
  cases e1
  obtain ⟨a, us', g, e5, t', hd', w⟩ := h1
  cases e5
  rw [t] at t'
  cases t'
  have eg := dats_ok hd' o
  subst eg
  rcases w with ⟨_, hM, e6⟩ | ⟨z, _⟩
  · subst e6; subst e2
    have np : p ∉ g1 := (List.nodup_cons.mp n).1
    have tr : ∀ {f : List Addr}, p ∉ f → ∀ a o, H a = some o → (a ∈ [p] ++ g1 → a ∈ f) → upd H p (.lst ws) a = some o := fun {f} np a o e hf => by
      rw [upd_ne fun z => np (by rw [← z]; exact hf (by rw [z]; exact hM))]
      exact e
    refine ⟨[p] ++ g1, n, .ref p, _, [p], g1, rfl, rfl, ⟨p, ws, [], rfl, upd_same, ?_, .inl ⟨rfl, hM, rfl⟩⟩, ?_⟩
    · exact dats_tr (hd _ hd') (fun a z => .inl z) (fun a z => nomatch z) (tr (by simp))
    · exact slots_tr h4 (fun a z => .inl z) (fun a z => List.mem_append_right _ z) (tr np)
  · cases z
theorem dats_dropLast {K M H} : ∀ {ds : List D} {vs : List V}, Dats K cl M H ds vs [] → Dats K cl M H ds.dropLast vs.dropLast [] := fun {ds vs} h => by
  rw [List.dropLast_eq_take, List.dropLast_eq_take, dats_length h]
  exact dats_take _ h
theorem dats_eraseIdx {K M H} {ds : List D} {vs : List V} (n : Nat) (h : Dats K cl M H ds vs []) : Dats K cl M H (ds.eraseIdx n) (vs.eraseIdx n) [] := by
  rw [List.eraseIdx_eq_take_drop_succ, List.eraseIdx_eq_take_drop_succ]
  exact dats_nil_append (dats_take _ h) (dats_drop _ h)
theorem dats_set {K M H} {d : D} {v : V} (hd : Dat K cl M H d v []) : ∀ {ds : List D} {vs : List V} (n : Nat), Dats K cl M H ds vs [] → Dats K cl M H (ds.set n d) (vs.set n v) []
  | [], _, n, h => by rw [h.1]; exact ⟨rfl, rfl⟩
  | e :: ds, _, n, h => by
    obtain ⟨u, us, f1, f2, rfl, e2, h1, h2⟩ := h
    obtain ⟨rfl, rfl⟩ := List.append_eq_nil_iff.mp e2.symm
    cases n with
    | zero => exact ⟨v, us, [], [], rfl, rfl, hd, h2⟩
    | succ n => exact ⟨u, us.set n v, [], [], rfl, rfl, h1, dats_set hd n h2⟩
/-- take a frozen thing out of the front list, and change it -/
theorem Rel.pluck {K : PySem.W.Frag} {H : Hp} {ds es : List D} {us ws : List V} {p : Addr} {κ : Tw.Env} {τ : S} {j : Nat} {d : D} {v : V} (r : Rel K cl H (some (.lst true ds) :: κ) (some (.ref p) :: τ)) (t : H p = some (.lst us)) (o : D.oks ds = true) (ed : ds[j]? = some d) (ev : us[j]? = some v)
    (hd : ∀ M, Dats K cl M H ds us [] → Dats K cl M H es ws []) : Rel K cl (upd H p (.lst ws)) (some d :: some (.lst true es) :: κ) (some v :: some (.ref p) :: τ) := by
  have r2 : Rel K cl H (some d :: (List.map some [D.lst true ds] ++ κ)) (some v :: (List.map some [.ref p] ++ τ)) := by
    obtain ⟨f, g, n, hh, hr⟩ := Rel.split (as := [.lst true ds]) (vs := [.ref p]) r rfl
    obtain ⟨a', us', g1, e1, t1, d1, _⟩ := dats1 hh
    cases e1
    rw [t] at t1
    cases t1
    obtain ⟨w, e2, hw⟩ := dats_get (oks_nil d1 o) ed
    rw [ev] at e2
    cases e2
    exact derive n hh hr hw
  have r3 : Rel K cl H (some (.lst true ds) :: (some d :: κ)) (some (.ref p) :: (some v :: τ)) := Rel.swap3 (A := [some d]) (X := [some v]) (B := [some (.lst true ds)]) (Y := [some (.ref p)]) r2 rfl rfl
  exact Rel.swap3 (A := [some (.lst true es)]) (X := [some (.ref p)]) (B := [some d]) (Y := [some v]) (r3.relist t o hd) rfl rfl
def gPop (ds : List D) : Option (D × List D) := if D.oks ds then (ds[ds.length - 1]?).map fun d => (d, ds.dropLast) else none
theorem own_dats {K : PySem.W.Frag} {H : Hp} {ds : List D} {p : Addr} {κ : Tw.Env} {τ : S} (r : Rel K cl H (some (.lst true ds) :: κ) (some (.ref p) :: τ)) (o : D.oks ds = true) : ∃ us M, H p = some (.lst us) ∧ Dats K cl M H ds us [] := by
  obtain ⟨M, f, a, vs, g, e, t, hd, _⟩ := r.head
  cases e
  exact ⟨vs, M, t, oks_nil hd o⟩
theorem s_pop {K : PySem.W.Frag} : Mt0S K cl rPop gPop := by
  intro ds q p H κ τ Q h r k
  unfold gPop at h
  split at h
  · rename_i o
    obtain ⟨d, e, rfl⟩ := Option.map_eq_some_iff.mp h
    obtain ⟨us, M, t, hd⟩ := own_dats r o
    obtain ⟨v, e2, _⟩ := dats_get hd e
    rw [← dats_length hd] at e2
    have e3 : us[ds.length - 1]? = some v := by rw [← dats_length hd]; exact e2
    exact ⟨p, us, v, rfl, rfl, t, e2, k _ _ (r.pluck t o e e3 fun M h => dats_dropLast h)⟩
  · cases h
def gPopAt (ds : List D) (y : D) : Option (D × List D) := (D.asI y).bind fun i => if D.oks ds && decide (-(2 ^ 63) ≤ i ∧ i < 2 ^ 63) then (seqIndex? i ds.length).bind fun k => (ds[k]?).map fun d => (d, ds.eraseIdx k) else none
theorem s_popAt {K : PySem.W.Frag} : Mt1S K cl rPopAt gPopAt := by
  intro ds y q p v H κ τ Q h r k
  unfold gPopAt at h
  obtain ⟨i, e, h⟩ := Option.bind_eq_some_iff.mp h
  split at h
  · rename_i o
    simp only [Bool.and_eq_true, decide_eq_true_eq] at o
    obtain ⟨o, b1, b2⟩ := o
    obtain ⟨j, ej, h⟩ := Option.bind_eq_some_iff.mp h
    obtain ⟨d, ed, rfl⟩ := Option.map_eq_some_iff.mp h
    obtain ⟨M, f, hv⟩ := r.head
    have ev := dat_asI hv e
    subst ev
    have r := r.pop
    obtain ⟨us, M, t, hd⟩ := own_dats r o
    obtain ⟨v, e2, _⟩ := dats_get hd ed
    refine ⟨p, us, i, j, v, rfl, rfl, t, b1, b2, by rw [dats_length hd]; exact ej, e2, k _ _ (r.pluck t o ed e2 fun M h => dats_eraseIdx _ h)⟩
  · cases h
/-- xs.extend(ys) -/
def D.lstOf : D → Option (List D)
  | .lst _ xs => some xs
  | _ => none
def gExtend (ds : List D) (y : D) : Option (D × List D) := (D.lstOf y).bind fun ys => if D.oks ds && D.oks ys && lenOk (ds.length + ys.length) then some (.non, ds ++ ys) else none
theorem dat_lstOf {K M H} {d : D} {xs : List D} {v : V} {f : List Addr} (h : Dat K cl M H d v f) (e : D.lstOf d = some xs) (o : D.oks xs = true) : ∃ a vs, v = .ref a ∧ H a = some (.lst vs) ∧ Dats K cl M H xs vs [] := by
  cases d with
  | lst m ds =>
    cases e
    obtain ⟨a, vs, g, e1, t, hd, _⟩ := h
    exact ⟨a, vs, e1, t, oks_nil hd o⟩
  | _ => cases e
theorem s_extend {K : PySem.W.Frag} : Mt1S K cl rExtend gExtend := by
  intro ds y q p v H κ τ Q h r k
  unfold gExtend at h
  obtain ⟨ys, ey, h⟩ := Option.bind_eq_some_iff.mp h
  split at h
  · rename_i o
    cases h
    simp only [Bool.and_eq_true] at o
    obtain ⟨⟨o1, o2⟩, o3⟩ := o
    have o3 := of_decide_eq_true o3
    obtain ⟨F, n, h⟩ := r
    obtain ⟨v1, xs1, f1, g1, e1, e2, h1, h2⟩ := h
    cases e1
    obtain ⟨v2, xs2, f2, g2, e3, e4, h3, h4⟩ := h2
    cases e3
    obtain ⟨a, us, g, e5, t, hd, w⟩ := h3
    cases e5
    have eg := dats_ok hd o1
    subst eg
    obtain ⟨b, zs, e7, tb, hz⟩ := dat_lstOf h1 ey o2
    subst e7
    rcases w with ⟨_, hM, e6⟩ | ⟨z, _⟩
    · subst e6; subst e4; subst e2
      have n1 := List.nodup_append.mp n
      have np : p ∉ g2 := (List.nodup_cons.mp n1.2.1).1
      have tr : ∀ {f : List Addr}, p ∉ f → ∀ a o, H a = some o → (a ∈ f1 ++ ([p] ++ g2) → a ∈ f) → upd H p (.lst (us ++ zs)) a = some o := fun {f} np a o e hf => by
        rw [upd_ne fun z => np (by rw [← z]; exact hf (by rw [z]; exact hM))]
        exact e
      have r2 : Rel K cl (upd H p (.lst (us ++ zs))) (some (.lst true (ds ++ ys)) :: κ) (some (.ref p) :: τ) := by
        refine Rel.of_sub (f := f1 ++ ([p] ++ g2)) (g := [p] ++ g2) ?_ n1.2.1 fun a z => List.mem_append_right _ z
        refine ⟨.ref p, _, [p], g2, rfl, rfl, ⟨p, us ++ zs, [], rfl, upd_same, ?_, .inl ⟨rfl, hM, rfl⟩⟩, ?_⟩
        · exact dats_tr (dats_nil_append hd hz) (fun a z => .inl z) (fun a z => nomatch z) (tr (by simp))
        · exact slots_tr h4 (fun a z => .inl z) (fun a z => by simp [z]) (tr np)
      refine ⟨p, b, us, zs, rfl, rfl, t, tb, by rw [dats_length hd, dats_length hz]; exact o3, k _ _ (r2.push fun M => ⟨rfl, rfl⟩)⟩
    · cases z
  · cases h
end
end Tw
noncomputable section
namespace Tw
open PySem PySem.Spec PyProof.Rows L2
section
variable {X : Cx} {cl : Nat → Addr} {W : WX} {a b c e : Expr} {es : List Expr} {pos p : Pos} {x : Str} {fa fb fc : Ev} {io : List Nat} {o : Expr} {i : Nat} {apos : Pos}
theorem j_append (ho : PE X o (tVar i)) (ha : PA X [e] (tOs X.K cl W [.val fa])) (hbase : attributeBase o "append" X.env (eval o X.env) = eval o X.env := by rfl)
    (hfew : ((backTo pos (starEach [e] X.env)).all (fun x => !x.1) && (backToKw pos (keywordEach [] X.env)).all (fun x => x.1.isSome) && decide ([e].length + ([] : List Keyword).length + (if ([] : List Keyword).isEmpty then 0 else 1) < 30)) = true := by rfl)
    (hline : (apos.endLine == pos.line) = true := by rfl) (hs : starEach [e] X.env = (false, eval e X.env) :: starEach [] X.env := by rfl) (hplain : (backTo pos (starEach [] X.env)).any (·.1) = false := by rfl) :
    PE X (.Call (.Attribute o "append" apos) [e] [] pos) (tE X.K cl W (fMt1 i gAppend fa)) :=
  PE.imp (pe_bm PySem.F.plainAttrs_list PySem.F.slot_list_append PySem.F.type_list_append mt_append ho ha hbase hfew hline hs hplain) fun σ H Q h => rd_mt1 s_append h
theorem j_extend (ho : PE X o (tVar i)) (ha : PA X [e] (tOs X.K cl W [.val fa])) (hbase : attributeBase o "extend" X.env (eval o X.env) = eval o X.env := by rfl)
    (hfew : ((backTo pos (starEach [e] X.env)).all (fun x => !x.1) && (backToKw pos (keywordEach [] X.env)).all (fun x => x.1.isSome) && decide ([e].length + ([] : List Keyword).length + (if ([] : List Keyword).isEmpty then 0 else 1) < 30)) = true := by rfl)
    (hline : (apos.endLine == pos.line) = true := by rfl) (hs : starEach [e] X.env = (false, eval e X.env) :: starEach [] X.env := by rfl) (hplain : (backTo pos (starEach [] X.env)).any (·.1) = false := by rfl) :
    PE X (.Call (.Attribute o "extend" apos) [e] [] pos) (tE X.K cl W (fMt1 i gExtend fa)) :=
  PE.imp (pe_bm PySem.F.plainAttrs_list PySem.F.slot_list_extend PySem.F.type_list_extend mt_extend ho ha hbase hfew hline hs hplain) fun σ H Q h => rd_mt1 s_extend h
theorem j_popAt (ho : PE X o (tVar i)) (ha : PA X [e] (tOs X.K cl W [.val fa])) (hbase : attributeBase o "pop" X.env (eval o X.env) = eval o X.env := by rfl)
    (hfew : ((backTo pos (starEach [e] X.env)).all (fun x => !x.1) && (backToKw pos (keywordEach [] X.env)).all (fun x => x.1.isSome) && decide ([e].length + ([] : List Keyword).length + (if ([] : List Keyword).isEmpty then 0 else 1) < 30)) = true := by rfl)
    (hline : (apos.endLine == pos.line) = true := by rfl) (hs : starEach [e] X.env = (false, eval e X.env) :: starEach [] X.env := by rfl) (hplain : (backTo pos (starEach [] X.env)).any (·.1) = false := by rfl) :
    PE X (.Call (.Attribute o "pop" apos) [e] [] pos) (tE X.K cl W (fMt1 i gPopAt fa)) :=
  PE.imp (pe_bm PySem.F.plainAttrs_list PySem.F.slot_list_pop PySem.F.type_list_pop mt_popAt ho ha hbase hfew hline hs hplain) fun σ H Q h => rd_mt1 s_popAt h
theorem j_pop (ho : PE X o (tVar i)) (hbase : attributeBase o "pop" X.env (eval o X.env) = eval o X.env := by rfl) (hline : (apos.endLine == pos.line) = true := by rfl) :
    PE X (.Call (.Attribute o "pop" apos) [] [] pos) (tE X.K cl W (fMt0 i gPop)) :=
  PE.imp (pe_bm0 PySem.F.plainAttrs_list PySem.F.slot_list_pop PySem.F.type_list_pop mt_pop ho hbase hline) fun σ H Q h => rd_mt0 s_pop h
/-! ### xs[i] = v -/
def sStore (i : Nat) (fi f : Ev) : Sv := fun env => sBind (f env) fun d env1 => match ownAt env1 i with
  | none => .stuck
  | some _ => sBind (fi env1) fun k env2 => match (D.asI k).bind fun z => (ownAt env2 i).bind fun ds => if D.oks ds && D.ok d then (ixN ds.length z).map fun j => ds.set j d else none with
    | some es => .next (env2.set i (some (.lst true es)))
    | none => .stuck
theorem s_store {tpos : Pos} (hpg : PG X (.Subscript o c tpos) (L2.gSub (tVar i) (tE X.K cl W fc) rSetL)) (he : PE X e (tE X.K cl W fa)) (hs : swapsWithSole [.Subscript o c tpos] e pos.line X.env = pure false := by rfl) (hw : swappedStores [.Subscript o c tpos] e X.env = pure none := by rfl)
    (h1 : (assignEach [.Subscript o c tpos] X.env).map (·.2) = [assign (.Subscript o c tpos) X.env] := by rfl) :
    PS X (.Assign [.Subscript o c tpos] e pos) (tS X.K cl W io (sStore i fc fa)) := PS.imp (ps_asg he hpg hs hw h1) fun Z σ H ⟨τ, κ, env, r, l, q⟩ => by
  refine sbind_at (A := []) (Y := []) rfl r l q fun d env1 v H1 h1 r1 => ?_
  cases e : ownAt env1 i with
  | none => rw [e] at h1; exact h1.elim
  | some ds0 =>
    rw [e] at h1
    simp only at h1
    obtain ⟨u, e1, r1'⟩ := slot_out (A := [some d]) (Y := [some v]) r1 rfl l (ownAt_eq e)
    obtain ⟨p, vs0, eu, t0, _⟩ := own_head r1'
    subst eu
    refine ⟨.ref p, e1, ?_⟩
    refine sbind_at (A := [some d]) (Y := [some v]) rfl r1 l h1 fun k env2 w H2 h2 r2 => ?_
    cases e2 : (D.asI k).bind fun z => (ownAt env2 i).bind fun ds => if D.oks ds && D.ok d then (ixN ds.length z).map fun j => ds.set j d else none with
    | none => rw [e2] at h2; exact h2.elim
    | some es =>
      rw [e2] at h2
      obtain ⟨z, ez, e2⟩ := Option.bind_eq_some_iff.mp e2
      obtain ⟨ds, ed, e2⟩ := Option.bind_eq_some_iff.mp e2
      split at e2
      · rename_i ok
        simp only [Bool.and_eq_true] at ok
        obtain ⟨j, ej, rfl⟩ := Option.map_eq_some_iff.mp e2
        obtain ⟨M, f, hk⟩ := r2.head
        have ew := dat_asI hk ez
        subst ew
        have r3 := r2.pop
        obtain ⟨u', e1', r4⟩ := slot_out (A := [some d]) (Y := [some v]) r3 rfl l (ownAt_eq ed)
        rw [e1] at e1'
        cases e1'
        have r5 : Rel X.K cl H2 (List.map some [d, .lst true ds] ++ (κ ++ env2.set i none)) (List.map some [v, .ref p] ++ (τ ++ σ)) := Rel.swap3 (A := [some (.lst true ds)]) (X := [some (.ref p)]) (B := [some d]) (Y := [some v]) r4 rfl rfl
        obtain ⟨f, g, n, hh, hr⟩ := r5.split rfl
        obtain ⟨f1, f2, ef, hd, hl⟩ := dats2 hh
        obtain ⟨a', us, g', e6, t, hds, w⟩ := hl
        cases e6
        have z1 := dat_ok hd ok.2
        subst z1
        have z2 := dats_ok hds ok.1
        subst z2
        rcases w with ⟨_, hM, e7⟩ | ⟨z, _⟩
        · subst e7
          have e8 : f = [p] := ef
          subst e8
          refine ⟨p, us, z, j, rfl, rfl, t, by rw [dats_length hds]; exact ej, ?_⟩
          have np : p ∉ g := (List.nodup_cons.mp n).1
          have tr : ∀ {f : List Addr}, p ∉ f → ∀ a o, H2 a = some o → (a ∈ [p] ++ g → a ∈ f) → upd H2 p (.lst (us.set j v)) a = some o := fun {f} np a o e hf => by
            rw [upd_ne fun z => np (by rw [← z]; exact hf (by rw [z]; exact hM))]
            exact e
          have r6 : Rel X.K cl (upd H2 p (.lst (us.set j v))) (some (.lst true (ds.set j d)) :: (κ ++ env2.set i none)) (some (.ref p) :: (τ ++ σ)) := by
            refine ⟨[p] ++ g, n, .ref p, _, [p], g, rfl, rfl, ⟨p, us.set j v, [], rfl, upd_same, ?_, .inl ⟨rfl, hM, rfl⟩⟩, ?_⟩
            · exact dats_tr (dats_set hd j hds) (fun a z => .inl z) (fun a z => nomatch z) (tr (by simp))
            · exact slots_tr hr (fun a z => .inl z) (fun a z => List.mem_append_right _ z) (tr np)
          have r7 := slot_in (A := []) (Y := []) r6 rfl l e1
          rw [List.set_set] at r7
          exact h2 σ _ .refl r7
        · cases z
      · cases e2
/-- x op= e -/
def sAug (i : Nat) (g : List D → Option D) (f : Ev) : Sv := fun env => sBind (fVar i env) fun u env1 => sBind (f env1) fun y env2 => match g [u, y] with
  | some z => if i < env2.length then .next (env2.set i (some z)) else .stuck
  | none => .stuck
theorem s_aug {op : Operator} {r : R2} {g : List D → Option D} {px : Pos} (hN : X.N.Nodup) (ho : OpR X (inplaceOp op) r) (hs : OpS X.K cl (rw2 r) g) (he : PE X e (tE X.K cl W fa)) (hio : ∀ j ∈ io, j ∉ [i] := by decide) (hi : X.N[i]? = some x := by rfl) (hx : Loc X.env.scope x := by first | exact .inl rfl | exact .inr rfl)
    (hf : X.fn x = true ∨ X.env.scope.names.lookup x = some .local := by first | exact .inl rfl | exact .inr rfl) : PS X (.AugAssign (.Name x px) op e pos) (tS X.K cl W io (sAug i g fa)) :=
  PS.imp (ps_aug hN hi hx he ho hf) fun Z σ H ⟨τ, κ, env, rl, l, q⟩ => by
  unfold sAug at q
  have key : tE X.K cl W (fVar i) σ H fun u H1 => tE X.K cl W fa σ H1 fun y H2 => r u y H2 fun z H3 => Z.nx (σ.set i (some z)) H3 := by
    refine sbind_at (A := []) (Y := []) rfl rl l q fun d env1 v H1 h1 r1 => ?_
    refine sbind_at (A := [some d]) (Y := [some v]) rfl r1 l h1 fun y env2 w H2 h2 r2 => ?_
    have r3 : Rel X.K cl H2 (List.map some [d, y] ++ (κ ++ env2)) (List.map some [v, w] ++ (τ ++ σ)) := Rel.swap3 (A := [some y]) (X := [some w]) (B := [some d]) (Y := [some v]) r2 rfl rfl
    cases eg : g [d, y] with
    | none => rw [eg] at h2; exact h2.elim
    | some z =>
      rw [eg] at h2
      refine hs [d, y] z [v, w] H2 _ _ _ eg rfl r3 fun u H3 r4 => ?_
      have r5 : Rel X.K cl H3 (some z :: (κ ++ env2)) (some u :: (τ ++ σ)) := Rel.drop (A := [some d, some y]) (X := [some v, some w]) (Rel.swap3 (A := [some z]) (X := [some u]) (B := [some d, some y]) (Y := [some v, some w]) r4 rfl rfl) rfl
      by_cases hl : i < env2.length
      · simp only [if_pos hl] at h2
        have r6 := Rel.put (i := κ.length + i) r5 (by simp; omega)
        rw [List.set_append_right _ _ (by omega), Nat.add_sub_cancel_left, ← l, List.set_append_right _ _ (by omega), Nat.add_sub_cancel_left] at r6
        exact h2 _ H3 (Off.set.agr hio) r6
      · simp only [if_neg hl] at h2; exact h2.elim
  obtain ⟨τ', κ', env', r', l', key⟩ := key
  unfold fVar at key
  cases e1 : env'[i]? with
  | none => rw [e1] at key; exact key.elim
  | some y =>
    cases y with
    | none => rw [e1] at key; exact key.elim
    | some d =>
      rw [e1] at key
      have e2 : (κ' ++ env')[κ'.length + i]? = some (some d) := by rw [List.getElem?_append_right (by omega)]; simpa using e1
      obtain ⟨v, e3, r2⟩ := r'.read e2
      rw [List.getElem?_append_right (by omega), l', Nat.add_sub_cancel_left] at e3
      rw [List.set_append_right _ _ (by omega), Nat.add_sub_cancel_left] at r2
      exact ⟨v, e3, key v H r2⟩
end
/-! ## a def -/
def ioOf (io : List Nat) (env : Tw.Env) : Option (List D) := io.mapM fun i => env[i]?.join
def runB (n : Nat) (io : List Nat) (g : Sv) : List D → Rf := fun ds => match g (ds.map some ++ List.replicate (n - ds.length) none) with
  | .next env => match ioOf io env with
    | some ios => .ret .non ios
    | none => .stuck
  | .ret d env => match ioOf io env with
    | some ios => .ret d ios
    | none => .stuck
  | .exc c ns es env => match ioOf io env with
    | some ios => .exc c ns es ios
    | none => .stuck
  | _ => .stuck
section
variable {P : Program} {w : World} {K : PySem.W.Frag} {mg : Str → Option Value} {base : Heap} {cl : Nat → Addr}
/-- the slots that the caller gets back, in front of what is the caller's own -/
theorem Rel.outs {H : Hp} : ∀ {io : List Nat} {ios : List D} {env A κ : Tw.Env} {σ Y τ : S}, ioOf io env = some ios → io.Nodup → σ.length = env.length → Y.length = A.length → Rel K cl H (A ++ (κ ++ env)) (Y ++ (τ ++ σ)) → τ.length = κ.length →
    ∃ us : List V, io.map (fun i => σ[i]?) = us.map (fun u => some (some u)) ∧ us.length = ios.length ∧ Rel K cl H (A ++ (ios.map some ++ κ)) (Y ++ (us.map some ++ τ))
  | [], ios, env, A, κ, σ, Y, τ, e, _, ls, ly, r, l => by
    simp [ioOf] at e
    subst e
    refine ⟨[], rfl, rfl, ?_⟩
    have r2 : Rel K cl H ((A ++ κ) ++ env) ((Y ++ τ) ++ σ) := by rwa [List.append_assoc, List.append_assoc]
    exact Rel.drop (r2.swap (by simp [ly, l])) ls
  | i :: io, ios, env, A, κ, σ, Y, τ, e, nd, ls, ly, r, l => by
    simp only [ioOf, List.mapM_cons, Option.bind_eq_bind, Option.bind_eq_some_iff, Option.pure_def, Option.some.injEq] at e
    obtain ⟨d, ed, ios', e, rfl⟩ := e
    have ed2 : env[i]? = some (some d) := by
      cases q : env[i]? with
      | none => rw [q] at ed; cases ed
      | some y => rw [q] at ed; cases y with
        | none => cases ed
        | some d' => cases ed; rfl
    obtain ⟨v, ev, r2⟩ := slot_out r ly l ed2
    have nd2 := List.nodup_cons.mp nd
    have e' : ioOf io (env.set i none) = some ios' := by
      have key : ∀ l : List Nat, i ∉ l → ioOf l (env.set i none) = ioOf l env := fun l => by
        induction l with
        | nil => intro _; rfl
        | cons j l ih =>
          intro hj
          simp only [List.mem_cons, not_or] at hj
          unfold ioOf at ih ⊢
          rw [List.mapM_cons, List.mapM_cons, ih hj.2, List.getElem?_set_ne hj.1]
      rw [key io nd2.1]
      exact e
    have r3 : Rel K cl H ((A ++ [some d]) ++ (κ ++ env.set i none)) ((Y ++ [some v]) ++ (τ ++ σ)) := by
      have z := Rel.swap3 (A := [some d]) (X := [some v]) (B := A) (Y := Y) r2 rfl ly
      rwa [List.append_assoc, List.append_assoc]
    obtain ⟨us, eu, lu, r4⟩ := Rel.outs (io := io) (ios := ios') e' nd2.2 (by simp [ls]) (by simp [ly]) r3 l
    refine ⟨v :: us, by simp [ev, eu], by simp [lu], ?_⟩
    rw [List.append_assoc, List.append_assoc] at r4
    exact r4
theorem start_rel {N : List Str} {H : Hp} {ds : List D} {vs : List V} {κ : Tw.Env} {τ : S} (r : Rel K cl H (ds.map some ++ κ) (vs.map some ++ τ)) (l : vs.length = ds.length) : Rel K cl H (κ ++ (ds.map some ++ List.replicate (N.length - ds.length) none)) (τ ++ L2.start N vs) := by
  have key : ∀ (n : Nat) {A : Tw.Env} {Y : S}, Rel K cl H A Y → Rel K cl H (A ++ List.replicate n none) (Y ++ List.replicate n none) := fun n A Y h => by
    obtain ⟨f, nd, h⟩ := h
    have hn : ∀ n, Slots K cl (· ∈ f) H (List.replicate n (none : Option D)) (List.replicate n (none : Option V)) [] := fun n => by
      induction n with
      | zero => exact ⟨rfl, rfl⟩
      | succ n ih => exact ⟨none, _, rfl, ih⟩
    have z := slots_app h (hn n)
    rw [List.append_nil] at z
    exact ⟨f, nd, z⟩
  unfold L2.start
  rw [l]
  have r2 := r.swap (by simp [l])
  have r3 := key (N.length - ds.length) r2
  rwa [List.append_assoc, List.append_assoc] at r3
theorem def_okF {x qual : Str} {st : Stmt} {f : Addr} {fd : FuncData} {N ps : List Str} {k : Nat} {io : List Nat} {g : Sv} (F : Fun K x qual st f fd) (Sc : FnScope N ps (defScope st)) (hnd : io.Nodup) (hio : ∀ i ∈ io, i < ps.length) (hps : ps.length ≤ N.length)
    (hbody : ∀ (cdv : Value) (A : Around) (outer : List PySem.Env) (s : Shared) (H : Hp) (E : XK), Room k (A.deeper (envOfC qual (defScope st) s.heap.objs.size f cdv)) →
      Takes (cxOf (L2.CX P w) P w K mg base N qual (defScope st) f cdv A outer s H E) (fun cls dd _ H' => E cls dd H') → PassesOwn (model P w) (A.deeper (envOfC qual (defScope st) s.heap.objs.size f cdv)) (envOfC qual (defScope st) s.heap.objs.size f cdv) (cxOf (L2.CX P w) P w K mg base N qual (defScope st) f cdv A outer s H E).xe →
      PSs (cxOf (L2.CX P w) P w K mg base N qual (defScope st) f cdv A outer s H E) (defBody st) (tS K cl (fun cls dd _ H' => E cls dd H') io g)) :
    FnOk P w K mg base (L2.CX P w) (k + 1) f fd ps (spD K cl ps.length io (runB N.length io g)) := by
  refine F.okX Sc (fun vs H Q E h => h.1) fun cdv A outer s H vs Q E hr h => ⟨_, hbody cdv A outer s H E hr (takes_of rfl rfl rfl rfl) (passes_of rfl), ?_⟩
  obtain ⟨ln, τ, κ, ds, l, lt, r, q⟩ := h
  refine ⟨τ, κ, ds.map some ++ List.replicate (N.length - ds.length) none, start_rel r l, lt, ?_⟩
  have lst : (L2.start N vs).length = (ds.map some ++ List.replicate (N.length - ds.length) none : Tw.Env).length := by unfold L2.start; simp [l]
  have hstart : ∀ {σ' : S} {us : List V}, Agr io (L2.start N vs) σ' → io.map (fun i => σ'[i]?) = us.map (fun u => some (some u)) → io.map (fun i => vs[i]?) = us.map some := fun {σ' us} ag e => by
    have key : ∀ (l : List Nat) (us : List V), (∀ i ∈ l, i ∈ io) → l.map (fun i => σ'[i]?) = us.map (fun u => some (some u)) → l.map (fun i => vs[i]?) = us.map some := fun l => by
      induction l with
      | nil => intro us _ e; cases us with
        | nil => rfl
        | cons _ _ => simp at e
      | cons i l ih =>
        intro us hi e
        cases us with
        | nil => simp at e
        | cons u us =>
          simp only [List.map_cons, List.cons.injEq] at e ⊢
          refine ⟨?_, ih us (fun j hj => hi j (List.mem_cons_of_mem _ hj)) e.2⟩
          have e1 := (ag.2 i (hi i List.mem_cons_self)).symm.trans e.1
          have il : i < vs.length := by have := hio i (hi i List.mem_cons_self); omega
          unfold L2.start at e1
          rw [List.getElem?_append_left (by simpa using il), List.getElem?_map] at e1
          cases q : vs[i]? with
          | none => rw [q] at e1; cases e1
          | some y => rw [q] at e1; cases e1; rfl
    exact key io us (fun _ z => z) e
  unfold runB at q
  have lenOf : ∀ {H' : Hp} {κ' env' : Tw.Env} {τ' σ' : S}, Rel K cl H' (κ' ++ env') (τ' ++ σ') → τ'.length = κ'.length → σ'.length = env'.length := fun {H' κ' env' τ' σ'} z lt => by
    have y := z.len
    simp only [List.length_append] at y
    omega
  cases e : g (ds.map some ++ List.replicate (N.length - ds.length) none) with
  | next env =>
    rw [e] at q
    intro σ' H' ag r2
    cases e2 : ioOf io env with
    | none => simp only [e2] at q
    | some ios =>
      simp only [e2] at q
      obtain ⟨us, eu, lu, r3⟩ := Rel.outs (A := [some D.non]) (Y := [some V.non]) e2 hnd (lenOf r2 lt) rfl (r2.push fun M => ⟨rfl, rfl⟩) lt
      exact q .non H' us (hstart ag eu) r3
  | ret d env =>
    rw [e] at q
    intro v σ' H' ag r2
    cases e2 : ioOf io env with
    | none => simp only [e2] at q
    | some ios =>
      simp only [e2] at q
      obtain ⟨us, eu, lu, r3⟩ := Rel.outs (A := [some d]) (Y := [some v]) e2 hnd (lenOf r2.pop lt) rfl r2 lt
      exact q v H' us (hstart ag eu) r3
  | exc c ns es env =>
    rw [e] at q
    intro cls dd σ' H' ws ag ex r2 lw
    cases e2 : ioOf io env with
    | none => simp only [e2] at q
    | some ios =>
      simp only [e2] at q
      obtain ⟨us, eu, lu, r3⟩ := Rel.outs (A := es.map some) (Y := ws.map some) e2 hnd (lenOf (Rel.drop r2 (by simp [lw])) lt) (by simp [lw]) r2 lt
      exact q cls dd H' ws us ex lw.symm (hstart ag eu) r3
  | brk env => rw [e] at q; exact q.elim
  | cont env => rw [e] at q; exact q.elim
  | stuck => rw [e] at q; exact q.elim
theorem def_ok {x qual : Str} {st : Stmt} {f : Addr} {fd : FuncData} {N ps : List Str} {k : Nat} {io : List Nat} {g : Sv} (F : Fun K x qual st f fd) (Sc : FnScope N ps (defScope st)) (gm : mg x = some (.ref f)) (hb : Binds K fd ps []) (hnd : io.Nodup) (hio : ∀ i ∈ io, i < ps.length) (hps : ps.length ≤ N.length)
    (hbody : ∀ (cdv : Value) (A : Around) (outer : List PySem.Env) (s : Shared) (H : Hp) (E : XK), Room k (A.deeper (envOfC qual (defScope st) s.heap.objs.size f cdv)) →
      Takes (cxOf (L2.CX P w) P w K mg base N qual (defScope st) f cdv A outer s H E) (fun cls dd _ H' => E cls dd H') → PassesOwn (model P w) (A.deeper (envOfC qual (defScope st) s.heap.objs.size f cdv)) (envOfC qual (defScope st) s.heap.objs.size f cdv) (cxOf (L2.CX P w) P w K mg base N qual (defScope st) f cdv A outer s H E).xe →
      PSs (cxOf (L2.CX P w) P w K mg base N qual (defScope st) f cdv A outer s H E) (defBody st) (tS K cl (fun cls dd _ H' => E cls dd H') io g)) :
    FnD P w K mg base cl x (k + 1) ps.length io (runB N.length io g) := ⟨f, fd, ps, gm, F.kp, hb, def_okF F Sc hnd hio hps hbody⟩
end
end Tw
noncomputable section
namespace Tw
open PySem PySem.Spec PyProof.Rows L2
/-! ### comprehensions with two clauses -/
def comp2Go (vs vs1 : List Nat) (b : Bd) (t : EvB) (fi1 : Tw.Env → Rs (List D)) (b1 : Bd) (t1 : EvB) (f : Ev) : List D → List D → Tw.Env → Rs (List D)
  | [], acc, env => .ok acc env
  | d :: ds, acc, env => match b d env with
    | none => .stuck
    | some env1 => (t env1).ne.bind fun k env2 => if k = true then (fi1 env2).ne.bind fun items1 env3 => if lenOk (acc.length + items1.length) then
        (compGo vs1 b1 t1 f items1 acc (wipeE env3 vs1)).bind fun acc2 env4 => comp2Go vs vs1 b t fi1 b1 t1 f ds acc2 (wipeE env4 vs) else .stuck
      else comp2Go vs vs1 b t fi1 b1 t1 f ds acc (wipeE env2 vs)
def fComp2 (vs vs1 : List Nat) (fi : Tw.Env → Rs (List D)) (b : Bd) (t : EvB) (fi1 : Tw.Env → Rs (List D)) (b1 : Bd) (t1 : EvB) (f : Ev) : Ev := fun env => (fi env).bind fun items env1 => (comp2Go vs vs1 b t fi1 b1 t1 f items [] (wipeE env1 vs)).bind fun ds env2 => .ok (.lst true ds) env2
section
variable {X : Cx} {cl : Nat → Addr} {W : WX} {pos : Pos}
theorem rd_comp2 {K : PySem.W.Frag} {vs vs1 ts ts1 : List Nat} {fi fi1 : Tw.Env → Rs (List D)} {b b1 : Bd} {t t1 : EvB} {f : Ev} (hts : ∀ i ∈ ts, i ∈ vs) (hts1 : ∀ i ∈ ts1, i ∈ vs1) {σ : S} {H : Hp} {Q : VK} (h : tE K cl W (fComp2 vs vs1 fi b t fi1 b1 t1 f) σ H Q) :
    tLc2 (tI K cl W fi) (tG K cl ts b) (tT K cl (fun _ _ _ _ => False) t) (tI K cl (fun _ _ _ _ => False) fi1) (tG K cl ts1 b1) (tT K cl (fun _ _ _ _ => False) t1) (tE K cl (fun _ _ _ _ => False) f) vs vs1 σ H Q := by
  obtain ⟨τ, κ, env, r, l, q⟩ := h
  refine ⟨τ, κ, env, r, l, ?_⟩
  unfold fComp2 at q
  cases e1 : fi env with
  | exc _ _ _ _ => rw [e1] at q; exact q
  | stuck => rw [e1] at q; exact q
  | ok items env1 =>
    rw [e1, Rs.bind_ok] at q
    intro J κx τx H1 lx it r1 p hD
    let Fin : Rs (List D) → Prop := fun o => (o.bind fun ds env2 => Rs.ok (D.lst true ds) env2).P (fun d env' => ∀ v H', Rel K cl H' (some d :: (κ ++ env')) (some v :: (τ ++ σ)) → Q v H') (WP K cl W κ τ σ)
    let Inv : Nat → Nat → Hp → Prop := fun i m H => i ≤ items.length ∧ m = items.length - i ∧ ∃ (env' : Tw.Env) (acc : List D), (∀ v ∈ vs, env'.set v none = env') ∧ Rel K cl H (some (.lst true acc) :: (κx ++ (κ ++ env'))) (some (.ref p) :: (τx ++ (τ ++ wipe σ vs))) ∧
        Fin (comp2Go vs vs1 b t fi1 b1 t1 f (items.drop i) acc env')
    refine ⟨Inv, ⟨items.length, Nat.zero_le _, rfl, wipeE env1 vs, [], fun v hv => wipeE_set hv, ?_, q⟩, ?_⟩
    · have r2 : Rel K cl H1 (κx ++ (κ ++ wipeE env1 vs)) (τx ++ (τ ++ wipe σ vs)) := by
        have z := rel_wipe (κ := κx ++ κ) (τ := τx ++ τ) (env := env1) (σ := σ) (by rw [List.append_assoc, List.append_assoc]; exact r1) (by simp [lx, l]) vs
        rwa [List.append_assoc, List.append_assoc] at z
      exact Rel.packL (as := []) (vs := []) r2 rfl hD
    · rintro i m H ⟨hi, rfl, env', acc, hv, r2, q2⟩
      by_cases hlt : i < items.length
      · right
        have hd : items[i]? = some items[i] := List.getElem?_eq_getElem hlt
        have r3 : Rel K cl H (κx ++ (some (.lst true acc) :: (κ ++ env'))) (τx ++ (some (.ref p) :: (τ ++ wipe σ vs))) := Rel.swap3 (A := [some (.lst true acc)]) (X := [some (.ref p)]) r2 rfl lx
        obtain ⟨go, yl⟩ := it.go i items[i] hd H _ _ r3
        have r4' : ∀ x H', J.yld i H x H' → Rel K cl H' (some items[i] :: (some (.lst true acc) :: (κx ++ (κ ++ env')))) (some x :: (some (.ref p) :: (τx ++ (τ ++ wipe σ vs)))) := fun x H' y => by
          have z := yl x H' y
          have z2 := Rel.swap3 (A := some items[i] :: κx) (X := some x :: τx) (B := [some (.lst true acc)]) (Y := [some (.ref p)]) (C := κ ++ env') (Z := τ ++ wipe σ vs) z (by simp [lx]) rfl
          exact Rel.swap3 (A := [some (.lst true acc)]) (X := [some (.ref p)]) (B := [some items[i]]) (Y := [some x]) z2 rfl rfl
        rw [List.drop_eq_getElem_cons hlt] at q2
        unfold comp2Go at q2
        refine ⟨go, fun H' => ∃ m', m' < items.length - i ∧ Inv (i + 1) m' H', fun H' z => z, fun x H' y => ?_⟩
        have r4 := r4' x H' y
        cases e2 : b items[i] env' with
        | none => rw [e2] at q2; exact q2.elim
        | some env2 =>
          rw [e2] at q2
          simp only at q2
          refine ⟨some (.ref p) :: (τx ++ τ), some (.lst true acc) :: (κx ++ κ), env', items[i], by simpa [List.append_assoc] using r4, by simp [lx, l], env2, e2, fun σ2 H2 o2 r5 => ?_⟩
          have ew : wipe σ2 vs = wipe σ vs := by
            have z : wipe σ2 vs = wipe (wipe σ vs) vs := wipe_off o2.1 fun j hj => o2.2 j fun z => hj (hts j z)
            rw [z]
            exact wipe_off (wipe_length _ _) fun j hj => wipe_out hj
          refine ⟨ew, ?_⟩
          have back : ∀ {env3 : Tw.Env} {H3 : Hp} {a : List D}, Rel K cl H3 (some (.lst true a) :: (κx ++ (κ ++ env3))) (some (.ref p) :: (τx ++ (τ ++ σ2))) → Rel K cl H3 (some (.lst true a) :: (κx ++ (κ ++ wipeE env3 vs))) (some (.ref p) :: (τx ++ (τ ++ wipe σ vs))) := fun {env3 H3 a} z => by
            have z2 := rel_wipe (κ := some (.lst true a) :: (κx ++ κ)) (τ := some (.ref p) :: (τx ++ τ)) (env := env3) (σ := σ2) (by simpa [List.append_assoc] using z) (by simp [lx, l]) vs
            rw [ew] at z2
            simpa [List.append_assoc] using z2
          refine ⟨some (.ref p) :: (τx ++ τ), some (.lst true acc) :: (κx ++ κ), env2, r5, by simp [lx, l], ?_⟩
          cases e3 : t env2 with
          | exc _ _ _ _ => rw [e3] at q2; exact q2.elim
          | stuck => rw [e3] at q2; exact q2.elim
          | ok k env3 =>
            rw [e3] at q2
            simp only [Rs.ne, Rs.bind_ok] at q2
            intro H3 r6
            have r6' : Rel K cl H3 (some (.lst true acc) :: (κx ++ (κ ++ env3))) (some (.ref p) :: (τx ++ (τ ++ σ2))) := by simpa [List.append_assoc] using r6
            cases k with
            | false =>
              rw [if_neg Bool.false_ne_true] at q2 ⊢
              exact ⟨items.length - (i + 1), by omega, hlt, rfl, wipeE env3 vs, acc, fun v hv => wipeE_set hv, back r6', q2⟩
            | true =>
              rw [if_pos rfl] at q2 ⊢
              refine ⟨some (.ref p) :: (τx ++ τ), some (.lst true acc) :: (κx ++ κ), env3, r6, by simp [lx, l], ?_⟩
              cases e4 : fi1 env3 with
              | exc _ _ _ _ => rw [e4] at q2; exact q2.elim
              | stuck => rw [e4] at q2; exact q2.elim
              | ok items1 env4 =>
                rw [e4] at q2
                simp only [Rs.ne, Rs.bind_ok] at q2
                intro J1 κ1 τ1 H4 l1 it1 r7
                by_cases hln : lenOk (acc.length + items1.length) = true
                · rw [if_pos hln] at q2
                  have hln := of_decide_eq_true hln
                  -- the inner loop
                  let Inv1 : Nat → Nat → Hp → Prop := fun j m H => j ≤ items1.length ∧ m = items1.length - j ∧ ∃ (env' : Tw.Env) (ac : List D), ac.length ≤ acc.length + j ∧ (∀ v ∈ vs1, env'.set v none = env') ∧
                    Rel K cl H (some (.lst true ac) :: (κ1 ++ (κx ++ (κ ++ env')))) (some (.ref p) :: (τ1 ++ (τx ++ (τ ++ wipe σ2 vs1)))) ∧
                    Fin ((compGo vs1 b1 t1 f (items1.drop j) ac env').bind fun acc2 env4 => comp2Go vs vs1 b t fi1 b1 t1 f (items.drop (i + 1)) acc2 (wipeE env4 vs))
                  refine ⟨Inv1, ⟨items1.length, Nat.zero_le _, rfl, wipeE env4 vs1, acc, by omega, fun v hv => wipeE_set hv, ?_, q2⟩, ?_⟩
                  · have z0 : Rel K cl H4 (some (.lst true acc) :: (κ1 ++ (κx ++ (κ ++ env4)))) (some (.ref p) :: (τ1 ++ (τx ++ (τ ++ σ2)))) := by
                      have z := Rel.swap3 (A := κ1) (X := τ1) (B := [some (.lst true acc)]) (Y := [some (.ref p)]) (C := κx ++ (κ ++ env4)) (Z := τx ++ (τ ++ σ2)) (by simpa [List.append_assoc] using r7) l1 rfl
                      exact z
                    have z := rel_wipe (κ := some (.lst true acc) :: (κ1 ++ (κx ++ κ))) (τ := some (.ref p) :: (τ1 ++ (τx ++ τ))) (env := env4) (σ := σ2) (by simpa [List.append_assoc] using z0) (by simp [l1, lx, l]) vs1
                    simpa [List.append_assoc] using z
                  · rintro j m H5 ⟨hj, rfl, env5, ac, ha, hv5, r8, q5⟩
                    have r9 : Rel K cl H5 (κ1 ++ (some (.lst true ac) :: (κx ++ (κ ++ env5)))) (τ1 ++ (some (.ref p) :: (τx ++ (τ ++ wipe σ2 vs1)))) := Rel.swap3 (A := [some (.lst true ac)]) (X := [some (.ref p)]) r8 rfl l1
                    by_cases hlt1 : j < items1.length
                    · right
                      have hd1 : items1[j]? = some items1[j] := List.getElem?_eq_getElem hlt1
                      obtain ⟨go1, yl1⟩ := it1.go j items1[j] hd1 H5 _ _ r9
                      rw [List.drop_eq_getElem_cons hlt1] at q5
                      unfold compGo at q5
                      refine ⟨go1, fun H' => ∃ m', m' < items1.length - j ∧ Inv1 (j + 1) m' H', fun H' z => z, fun x1 H6 y1 => ?_⟩
                      have r10 : Rel K cl H6 (some items1[j] :: (some (.lst true ac) :: (κ1 ++ (κx ++ (κ ++ env5))))) (some x1 :: (some (.ref p) :: (τ1 ++ (τx ++ (τ ++ wipe σ2 vs1))))) := by
                        have z := yl1 x1 H6 y1
                        have z2 := Rel.swap3 (A := some items1[j] :: κ1) (X := some x1 :: τ1) (B := [some (.lst true ac)]) (Y := [some (.ref p)]) (C := κx ++ (κ ++ env5)) (Z := τx ++ (τ ++ wipe σ2 vs1)) z (by simp [l1]) rfl
                        exact Rel.swap3 (A := [some (.lst true ac)]) (X := [some (.ref p)]) (B := [some items1[j]]) (Y := [some x1]) z2 rfl rfl
                      cases e6 : b1 items1[j] env5 with
                      | none => rw [e6] at q5; exact q5.elim
                      | some env6 =>
                        rw [e6] at q5
                        simp only at q5
                        refine ⟨some (.ref p) :: (τ1 ++ (τx ++ τ)), some (.lst true ac) :: (κ1 ++ (κx ++ κ)), env5, items1[j], by simpa [List.append_assoc] using r10, by simp [l1, lx, l], env6, e6, fun σ3 H7 o3 r11 => ?_⟩
                        have ew3 : wipe σ3 vs1 = wipe σ2 vs1 := by
                          have z : wipe σ3 vs1 = wipe (wipe σ2 vs1) vs1 := wipe_off o3.1 fun j hj => o3.2 j fun z => hj (hts1 j z)
                          rw [z]
                          exact wipe_off (wipe_length _ _) fun j hj => wipe_out hj
                        refine ⟨ew3, ?_⟩
                        have back1 : ∀ {env3 : Tw.Env} {H3 : Hp} {a : List D}, Rel K cl H3 (some (.lst true a) :: (κ1 ++ (κx ++ (κ ++ env3)))) (some (.ref p) :: (τ1 ++ (τx ++ (τ ++ σ3)))) → Rel K cl H3 (some (.lst true a) :: (κ1 ++ (κx ++ (κ ++ wipeE env3 vs1)))) (some (.ref p) :: (τ1 ++ (τx ++ (τ ++ wipe σ2 vs1)))) := fun {env3 H3 a} z => by
                          have z2 := rel_wipe (κ := some (.lst true a) :: (κ1 ++ (κx ++ κ))) (τ := some (.ref p) :: (τ1 ++ (τx ++ τ))) (env := env3) (σ := σ3) (by simpa [List.append_assoc] using z) (by simp [l1, lx, l]) vs1
                          rw [ew3] at z2
                          simpa [List.append_assoc] using z2
                        refine ⟨some (.ref p) :: (τ1 ++ (τx ++ τ)), some (.lst true ac) :: (κ1 ++ (κx ++ κ)), env6, r11, by simp [l1, lx, l], ?_⟩
                        cases e7 : t1 env6 with
                        | exc _ _ _ _ => rw [e7] at q5; exact q5.elim
                        | stuck => rw [e7] at q5; exact q5.elim
                        | ok k1 env7 =>
                          rw [e7] at q5
                          simp only [Rs.ne, Rs.bind_ok] at q5
                          intro H8 r12
                          have r12' : Rel K cl H8 (some (.lst true ac) :: (κ1 ++ (κx ++ (κ ++ env7)))) (some (.ref p) :: (τ1 ++ (τx ++ (τ ++ σ3)))) := by simpa [List.append_assoc] using r12
                          cases k1 with
                          | false =>
                            rw [if_neg Bool.false_ne_true] at q5 ⊢
                            exact ⟨items1.length - (j + 1), by omega, hlt1, rfl, wipeE env7 vs1, ac, by omega, fun v hv => wipeE_set hv, back1 r12', q5⟩
                          | true =>
                            rw [if_pos rfl] at q5 ⊢
                            refine ⟨some (.ref p) :: (τ1 ++ (τx ++ τ)), some (.lst true ac) :: (κ1 ++ (κx ++ κ)), env7, r12, by simp [l1, lx, l], ?_⟩
                            cases e8 : f env7 with
                            | exc _ _ _ _ => rw [e8] at q5; exact q5.elim
                            | stuck => rw [e8] at q5; exact q5.elim
                            | ok y env8 =>
                              rw [e8] at q5
                              simp only [Rs.ne, Rs.bind_ok] at q5
                              intro v H9 r13
                              obtain ⟨us, tu, lu, r14⟩ := Rel.append (d := y) (acc := ac) (y := v) (p := p) (κ := κ1 ++ (κx ++ (κ ++ env8))) (τ := τ1 ++ (τx ++ (τ ++ σ3))) (by simpa [List.append_assoc] using r13)
                              exact ⟨us, tu, by omega, items1.length - (j + 1), by omega, hlt1, rfl, wipeE env8 vs1, ac ++ [y], by simp; omega, fun v hv => wipeE_set hv, back1 r14, q5⟩
                    · left
                      have e : j = items1.length := by omega
                      subst e
                      rw [List.drop_length] at q5
                      refine ⟨it1.stop _ (Nat.le_refl _) H5 _ _ r9, items.length - (i + 1), by omega, hlt, rfl, wipeE env5 vs, ac, fun v hv => wipeE_set hv, ?_, q5⟩
                      have z := Rel.drop r9 l1
                      have z2 := rel_unwipe (κ := some (.lst true ac) :: (κx ++ κ)) (τ := some (.ref p) :: (τx ++ τ)) (σ := σ2) (env := env5) (vs := vs1) (by simp [lx, l]) hv5 (by simpa [List.append_assoc] using z)
                      exact back (by simpa [List.append_assoc] using z2)
                · rw [if_neg hln] at q2; exact q2.elim
      · left
        have e : i = items.length := by omega
        subst e
        have r3 : Rel K cl H (κx ++ (some (.lst true acc) :: (κ ++ env'))) (τx ++ (some (.ref p) :: (τ ++ wipe σ vs))) := Rel.swap3 (A := [some (.lst true acc)]) (X := [some (.ref p)]) r2 rfl lx
        refine ⟨it.stop _ (Nat.le_refl _) H _ _ r3, ?_⟩
        rw [List.drop_length] at q2
        have r4 := Rel.drop r3 lx
        exact q2 _ _ (rel_unwipe (κ := some (.lst true acc) :: κ) (τ := some (.ref p) :: τ) (by simp [l]) hv r4)
variable {io : List Nat}
theorem j_comp2 {elt tg iter tg1 iter1 : Expr} {ifs ifs1 : List Expr} {scope : Scope} {own : List (Str × Nat)} {fi fi1 : Tw.Env → Rs (List D)} {bd bd1 : Bd} {ts vs1 : List Nat} {t t1 : EvB} {f : Ev} (hc : X.calm = true) (hN : X.N.Nodup) (hi : PI X tg iter (tI X.K cl W fi)) (ok : BlkOk X.N X.env.scope scope own) (hv : ∀ i ∈ vs1, i ∈ own.map (·.2))
    (hg : ∀ (s : Shared) (H : Hp) (C : Addr) (cls : List (Str × Addr)) (fp : List Addr), PG (X.blk s H scope (compEnvC scope cls C X.env) fp) tg (tG X.K cl ts bd)) (ht : ∀ (s : Shared) (H : Hp) (C : Addr) (cls : List (Str × Addr)) (fp : List Addr), PTs (X.blk s H scope (compEnvC scope cls C X.env) fp) ifs (tT X.K cl (fun _ _ _ _ => False) t))
    (hi1 : ∀ (s : Shared) (H : Hp) (C : Addr) (cls : List (Str × Addr)) (fp : List Addr), PI (X.blk s H scope (compEnvC scope cls C X.env) fp) tg1 iter1 (tI X.K cl (fun _ _ _ _ => False) fi1))
    (hg1 : ∀ (s : Shared) (H : Hp) (C : Addr) (cls : List (Str × Addr)) (fp : List Addr), PG (X.blk s H scope (compEnvC scope cls C X.env) fp) tg1 (tG X.K cl vs1 bd1)) (ht1 : ∀ (s : Shared) (H : Hp) (C : Addr) (cls : List (Str × Addr)) (fp : List Addr), PTs (X.blk s H scope (compEnvC scope cls C X.env) fp) ifs1 (tT X.K cl (fun _ _ _ _ => False) t1))
    (he : ∀ (s : Shared) (H : Hp) (C : Addr) (cls : List (Str × Addr)) (fp : List Addr), PE (X.blk s H scope (compEnvC scope cls C X.env) fp) elt (tE X.K cl (fun _ _ _ _ => False) f)) (hts : ∀ i ∈ ts, i ∈ own.map (·.2)) (hs : ∀ x, foldedSetIterable iter X.env x = pure x := by intro _; rfl) (hs1 : ∀ env x, foldedSetIterable iter1 env x = pure x := by intro _ _; rfl) :
    PE X (.ListComp elt [⟨tg, iter, ifs, 0⟩, ⟨tg1, iter1, ifs1, 0⟩] scope pos) (tE X.K cl W (fComp2 (own.map (·.2)) vs1 fi bd t fi1 bd1 t1 f)) :=
  PE.imp (pe_lc2 hc hN hi ok hv hg ht hi1 hg1 ht1 he hs hs1) fun σ H Q h => rd_comp2 hts (fun _ z => z) h
theorem s_setLc2 {i : Nat} {y : Str} {py spos : Pos} {elt tg iter tg1 iter1 : Expr} {ifs ifs1 : List Expr} {scope : Scope} {own : List (Str × Nat)} {fi fi1 : Tw.Env → Rs (List D)} {bd bd1 : Bd} {ts vs1 : List Nat} {t t1 : EvB} {f : Ev} (hc : X.calm = true) (hN : X.N.Nodup) (hy : X.N[i]? = some y) (hyl : X.env.scope.names.lookup y = some .local)
    (hsw : swapsWith (.ListComp elt [⟨tg, iter, ifs, 0⟩, ⟨tg1, iter1, ifs1, 0⟩] scope pos) (some (.Name y py)) spos.line X.env = pure true) (hi : PI X tg iter (tI X.K cl W fi)) (ok : BlkOk X.N X.env.scope scope own) (hv : ∀ i ∈ vs1, i ∈ own.map (·.2))
    (hg : ∀ (s : Shared) (H : Hp) (C : Addr) (cls : List (Str × Addr)) (fp : List Addr), PG (X.blk s H scope (compEnvC scope cls C X.env) fp) tg (tG X.K cl ts bd)) (ht : ∀ (s : Shared) (H : Hp) (C : Addr) (cls : List (Str × Addr)) (fp : List Addr), PTs (X.blk s H scope (compEnvC scope cls C X.env) fp) ifs (tT X.K cl (fun _ _ _ _ => False) t))
    (hi1 : ∀ (s : Shared) (H : Hp) (C : Addr) (cls : List (Str × Addr)) (fp : List Addr), PI (X.blk s H scope (compEnvC scope cls C X.env) fp) tg1 iter1 (tI X.K cl (fun _ _ _ _ => False) fi1))
    (hg1 : ∀ (s : Shared) (H : Hp) (C : Addr) (cls : List (Str × Addr)) (fp : List Addr), PG (X.blk s H scope (compEnvC scope cls C X.env) fp) tg1 (tG X.K cl vs1 bd1)) (ht1 : ∀ (s : Shared) (H : Hp) (C : Addr) (cls : List (Str × Addr)) (fp : List Addr), PTs (X.blk s H scope (compEnvC scope cls C X.env) fp) ifs1 (tT X.K cl (fun _ _ _ _ => False) t1))
    (he : ∀ (s : Shared) (H : Hp) (C : Addr) (cls : List (Str × Addr)) (fp : List Addr), PE (X.blk s H scope (compEnvC scope cls C X.env) fp) elt (tE X.K cl (fun _ _ _ _ => False) f)) (hts : ∀ i ∈ ts, i ∈ own.map (·.2)) (hio : ∀ j ∈ io, j ∉ [i] := by decide) (hs : ∀ x, foldedSetIterable iter X.env x = pure x := by intro _; rfl) (hs1 : ∀ env x, foldedSetIterable iter1 env x = pure x := by intro _ _; rfl) :
    PS X (.Assign [.Name y py] (.ListComp elt [⟨tg, iter, ifs, 0⟩, ⟨tg1, iter1, ifs1, 0⟩] scope pos) spos) (tS X.K cl W io (sAsg (bNm i) (fComp2 (own.map (·.2)) vs1 fi bd t fi1 bd1 t1 f))) :=
  PS.imp (ps_setLc2 hc hN hy hyl hsw hi ok hv hg ht hi1 hg1 ht1 he hs hs1) fun Z σ H h => rd_asg (fun σ H Q h => rd_comp2 hts (fun _ z => z) h) (fun _ _ _ _ z => rd_nm z) hio h
end
end Tw
noncomputable section
namespace Tw
open PySem PySem.Spec PyProof.Rows L2
/-! ### objects -/
def putN (f : Str) (ns : List Str) : List Str := if f ∈ ns then ns else ns ++ [f]
def putD (f : Str) (d : D) : List Str → List D → List D
  | n :: ns, e :: ds => if n = f then d :: ds else e :: putD f d ns ds
  | _, _ => [d]
/-- the thing at the field that is stored anew -/
def oldOk (f : Str) : List Str → List D → Bool
  | n :: ns, e :: ds => if n = f then D.ok e else oldOk f ns ds
  | _, _ => true
def D.ownO : D → Option (Nat × List Str × List D)
  | .obj true c ns ds => some (c, ns, ds)
  | _ => none
theorem ownO_eq {d : D} {c : Nat} {ns : List Str} {ds : List D} (h : D.ownO d = some (c, ns, ds)) : d = .obj true c ns ds := by
  cases d with
  | obj m c' ns' ds' => cases m <;> simp [D.ownO] at h; obtain ⟨rfl, rfl, rfl⟩ := h; rfl
  | _ => simp [D.ownO] at h
def ownOAt (env : Tw.Env) (i : Nat) : Option (Nat × List Str × List D) := (env[i]?.join).bind D.ownO
def sFSet (i : Nat) (own : Nat → Bool) (f : Str) (fe : Ev) : Sv := fun env => sBind (fe env) fun d env1 => match ownOAt env1 i with
  | some q => if own q.1 && decide (q.2.1.length = q.2.2.length) && decide (q.2.1.length < 1000) && oldOk f q.2.1 q.2.2 then .next (env1.set i (some (.obj true q.1 (putN f q.2.1) (putD f d q.2.1 q.2.2)))) else .stuck
  | none => .stuck
section
variable {X : Cx} {cl : Nat → Addr} {W : WX} {a b c e : Expr} {es : List Expr} {pos p : Pos} {x : Str} {fa fb fc : Ev} {io : List Nat} {o : Expr} {i : Nat} {K : PySem.W.Frag} {M : Addr → Prop} {H : Hp}
theorem ownOAt_eq {env : Tw.Env} {i : Nat} {q : Nat × List Str × List D} (h : ownOAt env i = some q) : env[i]? = some (some (.obj true q.1 q.2.1 q.2.2)) := by
  unfold ownOAt at h
  obtain ⟨d, e, h⟩ := Option.bind_eq_some_iff.mp h
  obtain ⟨c, ns, ds⟩ := q
  rw [ownO_eq h] at e
  cases e2 : env[i]? with
  | none => rw [e2] at e; cases e
  | some o => rw [e2] at e; cases o with
    | none => cases e
    | some d' => cases e; rfl
theorem put_zip (f : Str) (d : D) (v : V) {k : List Addr} : ∀ {ns : List Str} {ds : List D} {vs : List V} {g : List Addr}, Dats K cl M H ds vs g → ns.length = ds.length → Dat K cl M H d v k → oldOk f ns ds = true →
    ∃ ws g2, putF f v (ns.zip vs) = (putN f ns).zip ws ∧ (putN f ns).length = ws.length ∧ g2.Perm (k ++ g) ∧ Dats K cl M H (putD f d ns ds) ws g2
  | [], [], vs, g, h, _, hd, _ => by
    obtain ⟨rfl, rfl⟩ := h
    exact ⟨[v], k, rfl, rfl, by rw [List.append_nil], v, [], k, [], rfl, (List.append_nil k).symm, hd, rfl, rfl⟩
  | n :: ns, e :: ds, vs, g, h, l, hd, ok => by
    obtain ⟨u, us, f1, f2, rfl, rfl, h1, h2⟩ := h
    by_cases c : n = f
    · subst c
      simp only [oldOk, if_pos] at ok
      have z := dat_ok h1 ok
      subst z
      refine ⟨v :: us, k ++ f2, ?_, ?_, .refl _, ?_⟩
      · show (if n = n then (n, v) :: ns.zip us else _) = _
        rw [if_pos rfl, putN, if_pos List.mem_cons_self]
        rfl
      · rw [putN, if_pos List.mem_cons_self]
        have := dats_length h2
        simp only [List.length_cons] at l ⊢
        omega
      · show Dats K cl M H (if n = n then d :: ds else _) _ _
        rw [if_pos rfl]
        exact ⟨v, us, k, f2, rfl, rfl, hd, h2⟩
    · simp only [oldOk, if_neg c] at ok
      obtain ⟨ws, g2, e1, e2, ep, e3⟩ := put_zip f d v h2 (by simpa using l) hd ok
      have en : putN f (n :: ns) = n :: putN f ns := by
        unfold putN
        by_cases m : f ∈ ns
        · rw [if_pos m, if_pos (List.mem_cons_of_mem _ m)]
        · rw [if_neg m, if_neg (by simp [m, Ne.symm c])]
          rfl
      refine ⟨u :: ws, f1 ++ g2, ?_, by rw [en]; simp [e2], ?_, ?_⟩
      · show (if n = f then _ else (n, u) :: putF f v (ns.zip us)) = _
        rw [if_neg c, e1, en]
        rfl
      · refine (List.Perm.append_left f1 ep).trans ?_
        rw [← List.append_assoc, ← List.append_assoc]
        exact List.Perm.append_right _ List.perm_append_comm
      · show Dats K cl M H (if n = f then _ else e :: putD f d ns ds) _ _
        rw [if_neg c]
        exact ⟨u, ws, f1, g2, rfl, rfl, h1, e3⟩
  | [], _ :: _, _, _, _, l, _, _ => by simp at l
  | _ :: _, [], _, _, _, l, _, _ => by simp at l
theorem s_fset {own : Nat → Bool} {f : Str} {pf : Pos} (ho : FldOk X.K cl own f) (hs : PE X o (tVar i)) (he : PE X e (tE X.K cl W fa)) (hsw : swapsWith e (some (.Attribute o f pf)) pos.line X.env = pure false := by rfl) : PS X (.Assign [.Attribute o f pf] e pos) (tS X.K cl W io (sFSet i own f fa)) :=
  PS.imp (ps_fld hs he hsw) fun Z σ H ⟨τ, κ, env, r, l, q⟩ => by
  refine sbind_at (A := []) (Y := []) rfl r l q fun d env1 v H1 h1 r1 => ?_
  cases e1 : ownOAt env1 i with
  | none => rw [e1] at h1; exact h1.elim
  | some z =>
    obtain ⟨c, ns, ds⟩ := z
    rw [e1] at h1
    simp only at h1
    split at h1
    · rename_i ok
      simp only [Bool.and_eq_true, decide_eq_true_eq] at ok
      obtain ⟨⟨⟨ow, ln⟩, l1⟩, okf⟩ := ok
      obtain ⟨u, e2, r2⟩ := slot_out (A := [some d]) (Y := [some v]) r1 rfl l (ownOAt_eq e1)
      have r3 : Rel X.K cl H1 (List.map some [d, .obj true c ns ds] ++ (κ ++ env1.set i none)) (List.map some [v, u] ++ (τ ++ σ)) := Rel.swap3 (A := [some (.obj true c ns ds)]) (X := [some u]) (B := [some d]) (Y := [some v]) r2 rfl rfl
      obtain ⟨fp, g, n, hh, hr⟩ := r3.split rfl
      obtain ⟨f1, f2, ef, hd, hl⟩ := dats2 hh
      obtain ⟨ad, dx, vs, g', eu, t, lv, hds, w⟩ := hl
      subst eu
      rcases w with ⟨_, hM, e7⟩ | ⟨z, _⟩
      · subst e7
        subst ef
        obtain ⟨ws, g2, q1, q2, qp, q3⟩ := put_zip f d v hds ln hd okf
        refine ⟨.ref ad, e2, ad, cl c, dx, _, rfl, t, (ho.ok c ow).1.c, (ho.ok c ow).2, ?_, ?_⟩
        · rw [List.length_zip]; omega
        · rw [q1]
          have pm : (f1 ++ ad :: g').Perm (ad :: g2) := List.perm_middle.trans (qp.symm.cons ad)
          have n1 : (ad :: g2 ++ g).Nodup := ((pm.append_right g).nodup_iff).mp n
          have n2 := List.nodup_append.mp n1
          have np : ad ∉ g := fun z => n2.2.2 ad List.mem_cons_self ad z rfl
          have np2 : ad ∉ g2 := (List.nodup_cons.mp n2.1).1
          have mm : ∀ a, a ∈ f1 ++ ad :: g' ++ g ↔ a ∈ ad :: g2 ++ g := fun a => (pm.append_right g).mem_iff
          have tr : ∀ {f0 : List Addr} {ob : HO}, ad ∉ f0 → ∀ a o, H1 a = some o → (a ∈ f1 ++ ad :: g' ++ g → a ∈ f0) → upd H1 ad ob a = some o := fun {f0 ob} np a o e hf => by
            rw [upd_ne fun z => np (by rw [← z]; exact hf (by rw [z]; exact hM))]
            exact e
          have r6 : Rel X.K cl (upd H1 ad (.ins (cl c) dx ((putN f ns).zip ws))) (some (.obj true c (putN f ns) (putD f d ns ds)) :: (κ ++ env1.set i none)) (some (.ref ad) :: (τ ++ σ)) := by
            refine ⟨ad :: g2 ++ g, n1, .ref ad, _, ad :: g2, g, rfl, rfl, ⟨ad, dx, ws, g2, rfl, upd_same, q2, ?_, .inl ⟨rfl, (mm ad).mp hM, rfl⟩⟩, ?_⟩
            · exact dats_tr q3 (fun a z => .inl ((mm a).mpr z)) (fun a z => List.mem_append_left _ (List.mem_cons_of_mem _ z)) (tr np2)
            · exact slots_tr hr (fun a z => .inl ((mm a).mpr z)) (fun a z => List.mem_append_right _ z) (tr np)
          have r7 := slot_in (A := []) (Y := []) r6 rfl l e2
          rw [List.set_set] at r7
          exact h1 σ _ .refl r7
      · cases z
    · exact h1.elim
/-- C(..): a new instance, then its __init__ -/
def fMake (n : Nat) (h : List D → Rf) (fs : List Ev) : Ev := fun env => (evs (vals fs) env).bind fun ds env1 => match h (.obj true n [] [] :: ds) with
  | .ret .non [z] => .ok z env1
  | .exc c ns es _ => .exc c ns es env1
  | _ => .stuck
/-- the new instance stands in front -/
theorem Rel.newO {as : List D} {vs : List V} {κ : Tw.Env} {τ : S} {q dx : Addr} {n : Nat} (r : Rel K cl H (as.map some ++ κ) (vs.map some ++ τ)) (hq : H q = none) (hd : H dx = none) (ne : dx ≠ q) :
    Rel K cl (upd (upd H dx (.own q)) q (.ins (cl n) dx [])) (List.map some (.obj true n [] [] :: as) ++ κ) (List.map some (.ref q :: vs) ++ τ) := by
  have hq1 : upd H dx (.own q) q = none := by rw [upd_ne (Ne.symm ne)]; exact hq
  have r1 := (r.same (same_upd (o := .own q) hd)).same (same_upd (o := .ins (cl n) dx []) hq1)
  obtain ⟨f, nd, h⟩ := r
  have np : q ∉ f := fun z => by
    obtain ⟨_, o, e⟩ := slots_in h q z
    rw [hq] at e; cases e
  refine ⟨q :: f, List.nodup_cons.mpr ⟨np, nd⟩, .ref q, _, [q], f, rfl, rfl, ⟨q, dx, [], [], rfl, upd_same, rfl, ⟨rfl, rfl⟩, .inl ⟨rfl, List.mem_cons_self, rfl⟩⟩, ?_⟩
  refine slots_tr h (fun a z => (List.mem_cons.mp z).elim (fun e => .inr (by rw [e]; exact hq)) .inl) (fun a z => List.mem_cons_of_mem _ z) fun a o e _ => ?_
  exact same_upd hq1 a o (same_upd hd a o e)
theorem j_make {n k m ar : Nat} {h : List D → Rf} {fs : List Ev} {name : Str} (hm : X.mg name = some (.ref (cl n)) ∧ ∃ f, Mk X.K (cl n) f ∧ ∃ fd ps, Binds X.K fd ps [] ∧ FnOk X.prog X.w X.K X.mg X.base (L2.CX X.prog X.w) k f fd ps (spD X.K cl ar [0] h)) (tk : Takes X W) (hr : Room m X.A) (hkm : k + 1 ≤ m) (hn : fs.length + 1 = ar)
    (hW : ∀ cls dd σ σ' H, W cls dd σ H → W cls dd σ' H) (ha : PA X (e :: es) (tOs X.K cl W (vals fs))) (hg : Gl X name := by rfl) (hdb : (name == ("__debug__" : Str)) = false := by decide) (he : starEach (e :: es) X.env = (false, eval e X.env) :: starEach es X.env := by rfl) (hpl : (backTo pos (starEach es X.env)).any (·.1) = false := by rfl) :
    PE X (.Call (.Name name p) (e :: es) [] pos) (tE X.K cl W (fMake n h fs)) := by
  obtain ⟨hm, f, M, fd, ps, hb, F⟩ := hm
  refine PE.imp (pe_make (dvs := []) (E := fun cls dd H' => ∀ σ, W cls dd σ H') M F (hr.mono hkm) hg hm hb .nil (passes_call tk fun cls dd σ H z => z σ) ha hdb he hpl) fun σ H Q ⟨τ, κ, env, r, l, q⟩ => ?_
  refine tA_os (os := vals fs) ⟨τ, κ, env, r, l, ?_⟩
  unfold fMake at q
  cases e1 : evs (vals fs) env with
  | exc _ _ _ _ => rw [e1] at q; exact q
  | stuck => rw [e1] at q; exact q
  | ok ds env1 =>
    rw [e1, Rs.bind_ok] at q
    intro us vs H' l2 r2 fu
    obtain ⟨rfl, l3⟩ := full_vals fu
    intro xa dx hx hd ne
    rw [List.append_nil]
    have ls : (τ ++ σ).length = (κ ++ env1).length := by
      have z := r2.len
      simp only [List.length_append, List.length_map] at z ⊢
      omega
    refine ⟨by simp [l3, hn], τ ++ σ, κ ++ env1, .obj true n [] [] :: ds, by simp [l2], ls, Rel.newO r2 hx hd ne, ?_⟩
    cases e2 : h (.obj true n [] [] :: ds) with
    | ret d ios =>
      rw [e2] at q
      cases d with
      | non =>
        match ios, q with
        | [z], q =>
          intro v H2 ws ew r3
          cases ws with
          | nil => simp at ew
          | cons w ws =>
            simp only [List.map_cons, List.map_nil, List.cons.injEq] at ew
            obtain ⟨ew, ew2⟩ := ew
            cases ew
            cases ws with
            | cons _ _ => simp at ew2
            | nil =>
              obtain ⟨M, f, hv⟩ := Rel.head r3
              exact ⟨hv.1, q _ H2 (Rel.pop r3)⟩
        | [], q => exact q.elim
        | _ :: _ :: _, q => exact q.elim
      | _ => exact q.elim
    | exc c ns es ios =>
      rw [e2] at q
      intro cls dd H2 xs ws ex lx ew r3 σ'
      refine hW cls dd σ σ' H2 (q cls dd H2 xs ex ?_ lx.symm)
      have r4 := Rel.swap3 (A := es.map some) (X := xs.map some) (B := ios.map some) (Y := ws.map some) r3 (by simp [lx]) (by
        have z := r3.len
        simp only [List.length_append, List.length_map] at z ls ⊢
        omega)
      exact Rel.drop r4 (by
        have z := r3.len
        simp only [List.length_append, List.length_map] at z ls ⊢
        omega)
    | stuck => rw [e2] at q; exact q.elim
/-! ### how many unlike numbers -/
def nub : List Int → List Int
  | [] => []
  | n :: ns => if n ∈ ns then nub ns else n :: nub ns
theorem nub_mem : ∀ {ns : List Int} {k : Int}, k ∈ nub ns ↔ k ∈ ns
  | [], k => Iff.rfl
  | n :: ns, k => by
    unfold nub
    by_cases h : n ∈ ns
    · rw [if_pos h, nub_mem, List.mem_cons]
      exact ⟨.inr, fun z => z.elim (fun e => by rw [e]; exact h) id⟩
    · rw [if_neg h, List.mem_cons, List.mem_cons, nub_mem]
theorem nub_nodup : ∀ ns : List Int, (nub ns).Nodup
  | [] => .nil
  | n :: ns => by
    unfold nub
    by_cases h : n ∈ ns
    · rw [if_pos h]; exact nub_nodup ns
    · rw [if_neg h]; exact List.nodup_cons.mpr ⟨fun z => h (nub_mem.mp z), nub_nodup ns⟩
def fLenSet (f : Ev) : Ev := fun env => (f env).bind fun d env1 => match D.seqK d with
  | some (true, xs) => (match D.ints xs with
    | some is => if is.length ≤ 4000 then .ok (.int (nub is).length) env1 else .stuck
    | none => .stuck)
  | _ => .stuck
theorem j_lenSet {p2 q : Pos} (hm : X.mg "len" = none) (hm2 : X.mg "set" = none) (hc : X.calm = true) (ha : PE X a (tE X.K cl W fa)) (hg : Gl X "len" := by rfl) (hg2 : Gl X "set" := by rfl) (na : starEach [a] X.env = (false, eval a X.env) :: starEach [] X.env := by rfl) :
    PE X (.Call (.Name "len" p) [.Call (.Name "set" p2) [a] [] q] [] pos) (tE X.K cl W (fLenSet fa)) := by
  refine ⟨fun pins s σ H Q I ⟨τ, κ, env, r, l, qq⟩ => Call_ (ld_blt I hg hm boot_len (PyProof.Rows.callWith_builtin1 (PyProof.Rows.args_cons (Call_ (ld_blt I hg2 hm2 boot_set (PyProof.Rows.callWith_type1 (PyProof.Rows.args_cons (thn (ha.run pins s σ H _ I (tE_bind r l qq fun d env1 v H1 h1 r1 => (?_ : ∃ (t : Addr) (ns : List Int), v = .ref t ∧ SqT X.K H1 t (ns.map V.int) ∧ ns.length ≤ 4000 ∧ Q (.int (nub ns).length) H1))) fun v s1 ⟨x, H1, I1, r1, q1⟩ => PyProof.Rows.args_nil ?_) na) na rfl))) rfl) rfl rfl))⟩
  · cases e : D.seqK d with
    | none => rw [e] at h1; exact h1.elim
    | some pr =>
      obtain ⟨k, xs⟩ := pr
      rw [e] at h1
      cases k with
      | false => exact h1.elim
      | true =>
        simp only at h1
        cases e2 : D.ints xs with
        | none => rw [e2] at h1; exact h1.elim
        | some is =>
          rw [e2] at h1
          simp only at h1
          by_cases c : is.length ≤ 4000
          · rw [if_pos c] at h1
            obtain ⟨M, f, hd⟩ := r1.head
            obtain ⟨t, vs, ev, _, st, hds⟩ := dat_seqK hd e
            have e3 := dats_intsOf hds e2
            subst e3
            exact ⟨t, is, ev, st rfl, c, h1 _ _ (r1.pop.push fun M => dint)⟩
          · rw [if_neg c] at h1; exact h1.elim
  · obtain ⟨t, ns, rfl, hq, hl, q1⟩ := q1
    cases r1
    obtain ⟨its, rv, pt, hz⟩ := I1.tuple hq
    refine call_set_tupI ns (I1.ok.hd hc) (show s1.heap.IsTuple t its.toArray from pt) (by simpa using intsAre_of rv) (by unfold scanBound; omega) fun h' tk c R1 hcn kk => PyProof.Rows.args_nil ?_
    obtain ⟨ob, es', ep, tt, ho, hex, hdt, g, nd, hm3, hb, hf, hn, hr, hl2⟩ := R1
    have I2 : Inv X pins σ H1 { s1 with heap := h', toks := tk } := I1.kept kk
    have e4 : es'.size = (nub ns).length := by
      have p1 : (es'.toList.map keyOf).Perm (nub ns) := (List.perm_ext_iff_of_nodup nd (nub_nodup ns)).mpr fun k => by rw [nub_mem, ← hm3 k, decide_eq_true_eq]
      have z := p1.length_eq
      simpa using z
    exact call_len_set ho hex hdt hf (by unfold scanBound at hb; omega) ⟨.int (nub ns).length, H1, I2.tok _, ⟨_, by rw [← e4]⟩, q1⟩
end
end Tw
noncomputable section
namespace Tw
open PySem PySem.Spec PyProof.Rows L2
section
variable {prog : Program} {w : World} {A : Around} {E : Value → Shared → Prop} {s : Shared}
theorem revPick (xs : Array Value) : ((List.range xs.size).filterMap fun (m : Nat) => xs[(((xs.size : Int) - 1) + (m : Int) * (-1)).toNat]?) = xs.toList.reverse := by
  have key : ∀ n, n ≤ xs.size → ((List.range n).filterMap fun (m : Nat) => xs[(((xs.size : Int) - 1) + (m : Int) * (-1)).toNat]?) = xs.toList.reverse.take n := fun n => by
    induction n with
    | zero => intro _; rfl
    | succ n ih =>
      intro h
      have h1 : n < xs.toList.reverse.length := by simp; omega
      have e0 : (((xs.size : Int) - 1) + (n : Int) * (-1)).toNat = xs.size - 1 - n := by omega
      have e1 : xs[xs.size - 1 - n]? = some (xs.toList.reverse[n]) := by
        rw [List.getElem_reverse, Array.getElem?_eq_getElem (by omega)]
        simp
      rw [List.range_succ, List.filterMap_append, ih (by omega), List.take_add_one, List.getElem?_eq_getElem h1]
      congr 1
      simp only [List.filterMap_cons, e0, e1, List.filterMap_nil, Option.toList]
  have z := key xs.size (Nat.le_refl _)
  rwa [List.take_of_length_le (by simp)] at z
theorem revItem {t sl : Addr} {items : Array Value} {vs : Value} {Q : Value → Shared → Prop} (ht : IsTup s.heap t items) (hs : s.heap.IsSliceOf sl .none .none vs) (ps : IsPart vs (some (-1))) (hsz : items.size ≤ sizeLine)
    (h : Q (.ref s.heap.objs.size) { s with heap := s.heap.push { cls := .type "tuple", data := .seq items.toList.reverse.toArray } }) : wpAny (model prog w) A (getItem (.ref t) (.ref sl)) Q E s := by
  have hfit : sizeOk (.seq items.toList.reverse.toArray) := show items.toList.reverse.toArray.size ≤ sizeLine by simpa using hsz
  obtain ⟨os, hos, hcs, hds⟩ := id hs
  have hTs : s.TypeIs (.ref sl) "slice" := ⟨os, hos, hcs⟩
  have happ : ∀ {B : Around} {R : Int × Int × Nat → Shared → Prop}, R (((items.size : Int) - 1), -1, items.size) s → wpAny (model prog w) B (Builtin.Slice.sliceApplied (.ref sl) (pure (items.size : Int))) R E s := fun {B R} hR => by
    unfold Builtin.Slice.sliceApplied Builtin.Slice.sliceFields
    refine wpAny_bind (wpAny_bind (wpAny_field hos hds (x := .none) rfl (wpAny_bind (wpAny_field hos hds (x := .none) rfl (wpAny_bind (wpAny_field hos hds (x := vs) rfl (wpAny_pure ?_)))))))
    refine wpAny_bind (HT.slicePart_ ps ?_)
    show wpAny _ _ (if ((-1 : Int) == 0) = true then _ else _) _ _ s
    rw [if_neg (by decide)]
    refine wpAny_bind (slicePart_none (wpAny_bind (slicePart_none (wpAny_bind (wpAny_pure (wpAny_pure ?_))))))
    have e2 : Builtin.Slice.slicePlaces ((items.size : Int) - 1) (-1) (-1) = items.size := by
      unfold Builtin.Slice.slicePlaces
      rw [if_neg (by decide)]
      by_cases c : (items.size : Int) - 1 > -1
      · rw [if_pos c, show (-(-1 : Int)) = 1 from rfl, Int.ediv_one]; omega
      · rw [if_neg c]; omega
    show R (((items.size : Int) - 1), -1, Builtin.Slice.slicePlaces ((items.size : Int) - 1) (-1) (-1)) s
    rw [e2]
    exact hR
  unfold getItem
  try with_reducible refine wpAny_holding ?_
  first | refine wpAny_bind (wpAny_pure ?_) | skip
  refine wpAny_bind (wpAny_sequenceKey ht.typeIs (by decide) (wpAny_bind (wpAny_callSpecial?_slot (name := Str.ofString "__getitem__") ht.typeIs PyProof.Rows.slot_tuple_getitem (wpAny_call_entry PyProof.Rows.slot_tuple_getitem ht.typeIs PyProof.Rows.entry_tuple_getitem ?_ (PyProof.Rows.args_tuple_getitem _ _)))))
  show wpAny _ _ (Builtin.Tuple.tupleItemsOf (.ref t) >>= _) _ _ s
  refine wpAny_bind (PyProof.Rows.tupleItemsOf_ ht (wpAny_bind (wpAny_typeOf hTs ?_)))
  rw [if_pos (by decide)]
  refine wpAny_bind (happ ?_)
  show wpAny _ _ (if ((((items.size : Int) - 1) == 0 && (-1 : Int) == 1 && items.size == items.size) = true) then _ else _) _ _ s
  rw [if_neg (by simp), revPick]
  first
    | exact wpAny_bind (m := Builtin.Tuple.tupleExact _) (wpAny_newObj_type (wpAny_pure ⟨_, rfl, wpAny_pure h⟩) hfit)
    | exact wpAny_bind (m := Builtin.Tuple.tupleExact _) (wpAny_newObj_type (wpAny_bind (wpAny_pure (wpAny_pure ⟨_, rfl, wpAny_pure h⟩))) hfit)
    | exact wpAny_bind (wpAny_bind (m := Builtin.Tuple.tupleExact _) (wpAny_newObj_type (wpAny_pure (wpAny_pure ⟨_, rfl, wpAny_pure h⟩)) hfit))
    | exact wpAny_bind (wpAny_bind (m := Builtin.Tuple.tupleExact _) (wpAny_newObj_type (wpAny_pure ⟨_, rfl, wpAny_pure h⟩) hfit))
end
section
variable {X : Cx} {cl : Nat → Addr} {W : WX} {a b c e : Expr} {es : List Expr} {pos p : Pos} {x : Str} {fa fb fc : Ev} {io : List Nat} {K : PySem.W.Frag} {M : Addr → Prop} {H : Hp}
def tRevT (K : PySem.W.Frag) (ta : TE) : TE := fun σ H Q => ta σ H fun x H1 => ∃ a xs, x = .ref a ∧ SqT K H1 a xs ∧ ∀ p its, H1 p = none → Q (.ref p) (upd H1 p (tupH its xs.reverse))
theorem pe_revT {te : TE} {k : Nat} {p1 p2 p3 : Pos} (he : PE X e te) : PE X (.Subscript e (.Slice none none (some (.UnaryOp .USub (.Constant (.int 1) k p1) p2)) p3) pos) (tRevT X.K te) := by
  refine ⟨fun pins s σ H Q I h => Subscript_ (thn (he.run pins s σ H _ I h) fun v s1 ⟨x, H1, I1, r1, ad, xs, ex, hx, q⟩ => ?_)⟩
  subst ex
  cases r1
  have hst : PO X (some (.UnaryOp .USub (.Constant (.int 1) k p1) p2)) (tPart (tUn (rU fun i => .int (-i)) (tC (.int 1)))) := po_some (pe_un un_neg pe_int)
  refine wpAny_Slice (thn (po_none.run pins s1 σ H1 (fun o H2 => o = none ∧ H2 = H1) I1 ⟨rfl, rfl⟩) fun vl s2 ⟨l, H2, I2, pl, el, e2⟩ => thn (po_none.run pins s2 σ H2 (fun o H3 => o = none ∧ H3 = H2) I2 ⟨rfl, rfl⟩) fun vu s3 ⟨u, H3, I3, pu, eu, e3⟩ =>
    thn (hst.run pins s3 σ H3 (fun o H4 => o = some (-1) ∧ H4 = H3) I3 ⟨1, rfl, -1, rfl, rfl, rfl⟩) fun vs s4 ⟨o, H4, I4, ps, eo, e4⟩ => ?_)
  subst el; subst e2; subst eu; subst e3; subst eo; subst e4
  have evl : vl = .none := by cases pl; rfl
  have evu : vu = .none := by cases pu; rfl
  subst evl; subst evu
  have I5 : Inv X pins σ H4 { s4 with heap := s4.heap.push { cls := .type "slice", data := .fields #[.none, .none, vs] } } := I4.kept (t' := s4.toks) fun b ob q => Heap.get?_push_of_some _ q
  obtain ⟨its, r, ht, hz⟩ := I5.tuple hx
  have hlen := r.length
  refine tail_any (ops := [.ref ad, .ref s4.heap.objs.size]) ht.typeIs (PyProof.Rows.slot_tuple_getitem.lookup) (revItem ht (Heap.IsSliceOf.new _ .none .none vs) ps (by rw [List.size_toArray]; omega) ?_) (by with_unfolding_all rfl)
  exact ⟨.ref _, _, laidT (t' := s4.toks) I5 r.reverse (by rw [List.length_reverse]; exact hz), rfl, q _ _ (I5.hok.fresh (Nat.le_refl _))⟩
def gRev : D → Option D
  | .lst _ xs => if D.oks xs then some (.lst true xs.reverse) else none
  | .tup xs => if D.oks xs then some (.tup xs.reverse) else none
  | _ => none
def fRev (f : Ev) : Ev := fun env => (f env).bind fun d env1 => match gRev d with
  | some z => .ok z env1
  | none => .stuck
theorem dats_rev {ds : List D} {vs : List V} (h : Dats K cl M H ds vs []) : Dats K cl M H ds.reverse vs.reverse [] := by
  induction ds generalizing vs with
  | nil => rw [h.1]; exact ⟨rfl, rfl⟩
  | cons d ds ih =>
    obtain ⟨v, vs', f1, f2, rfl, e2, h1, h2⟩ := h
    obtain ⟨rfl, rfl⟩ := List.append_eq_nil_iff.mp e2.symm
    rw [List.reverse_cons, List.reverse_cons]
    exact dats_nil_append (ih h2) ⟨v, [], [], [], rfl, rfl, h1, rfl, rfl⟩
theorem PE.or {e : Expr} {t t' : TE} (h : PE X e t) (h' : PE X e t') : PE X e (fun σ H Q => t σ H Q ∨ t' σ H Q) := ⟨fun pins s σ H Q I z => z.elim (fun z => h.run pins s σ H Q I z) fun z => h'.run pins s σ H Q I z⟩
theorem j_rev {k : Nat} {p1 p2 p3 : Pos} (he : PE X e (tE X.K cl W fa)) : PE X (.Subscript e (.Slice none none (some (.UnaryOp .USub (.Constant (.int 1) k p1) p2)) p3) pos) (tE X.K cl W (fRev fa)) := PE.imp (PE.or (pe_revL he) (pe_revT he)) fun σ H Q ⟨τ, κ, env, r, l, q⟩ => by
  unfold fRev at q
  have fin : ∀ {d d2 : D} {v v2 : V} {env3 : Tw.Env} {H4 : Hp}, Rel X.K cl H4 (some d2 :: (List.map some [d] ++ (κ ++ env3))) (some v2 :: (List.map some [v] ++ (τ ++ σ))) → Rel X.K cl H4 (some d2 :: (κ ++ env3)) (some v2 :: (τ ++ σ)) := fun {d d2 v v2 env3 H4} r5 =>
    Rel.drop (A := [some d]) (X := [some v]) (Rel.swap3 (A := [some d2]) (X := [some v2]) (B := [some d]) (Y := [some v]) r5 rfl rfl) rfl
  cases e1 : fa env with
  | stuck => rw [e1] at q; exact q.elim
  | exc _ _ _ _ => rw [e1] at q; exact .inl ⟨τ, κ, env, r, l, by rw [e1]; exact q⟩
  | ok d env1 =>
    rw [e1, Rs.bind_ok] at q
    cases d with
    | lst m ds =>
      by_cases o : D.oks ds = true
      · simp only [gRev, if_pos o] at q
        refine .inl ⟨τ, κ, env, r, l, ?_⟩
        rw [e1]
        intro v H1 r1
        obtain ⟨f, g, n, hh, hr⟩ := Rel.split (as := [.lst m ds]) (vs := [v]) r1 rfl
        obtain ⟨ad, xs, g1, e2, t1, d1, _⟩ := dats1 hh
        subst e2
        exact ⟨ad, xs, rfl, .of t1, fun p hp => q _ _ (fin (newL n hh hr hp (dats_rev (oks_nil d1 o))))⟩
      · simp only [gRev, if_neg o] at q; exact q.elim
    | tup ds =>
      by_cases o : D.oks ds = true
      · simp only [gRev, if_pos o] at q
        refine .inr ⟨τ, κ, env, r, l, ?_⟩
        rw [e1]
        intro v H1 r1
        obtain ⟨f, g, n, hh, hr⟩ := Rel.split (as := [.tup ds]) (vs := [v]) r1 rfl
        obtain ⟨ad, xs, e2, t1, d1⟩ := dats1 hh
        subst e2
        exact ⟨ad, xs, rfl, t1.sq, fun p its hp => q _ _ (fin (newT n hh hr hp (dats_rev (oks_nil d1 o))))⟩
      · simp only [gRev, if_neg o] at q; exact q.elim
    | _ => exact q.elim
/-! ### in, of flat things -/
def D.flat : D → Option V
  | .non => some .non | .bl b => some (.bl b) | .int i => some (.int i) | .str x => some (.str x)
  | _ => none
def D.flats : List D → Option (List V)
  | [] => some []
  | d :: ds => (D.flat d).bind fun v => (D.flats ds).map (v :: ·)
theorem dat_flat {d : D} {u v : V} {f : List Addr} (h : Dat K cl M H d v f) (e : D.flat d = some u) : v = u ∧ flatV u = true := by
  cases d with
  | non => cases e; exact ⟨h.1, rfl⟩
  | bl b => cases e; exact ⟨h.1, rfl⟩
  | int b => cases e; exact ⟨h.1, rfl⟩
  | str b => cases e; exact ⟨h.1, rfl⟩
  | _ => cases e
theorem dats_flat : ∀ {ds : List D} {us vs : List V} {f : List Addr}, Dats K cl M H ds vs f → D.flats ds = some us → vs = us ∧ us.all flatV = true
  | [], _, _, _, h, e => by cases e; exact ⟨h.1, rfl⟩
  | d :: ds, _, _, _, h, e => by
    obtain ⟨v, vs', f1, f2, rfl, _, h1, h2⟩ := h
    simp only [D.flats, Option.bind_eq_some_iff, Option.map_eq_some_iff] at e
    obtain ⟨b, e1, bs, e, rfl⟩ := e
    obtain ⟨rfl, a1⟩ := dat_flat h1 e1
    obtain ⟨rfl, a2⟩ := dats_flat h2 e
    exact ⟨rfl, by simp [a1, a2]⟩
def gIn : List D → Option D
  | [a, b] => (D.flat a).bind fun v => (D.seqK b).bind fun q => (D.flats q.2).map fun vs => .bl (inV v vs)
  | _ => none
def gNotIn : List D → Option D
  | [a, b] => (D.flat a).bind fun v => (D.seqK b).bind fun q => (D.flats q.2).map fun vs => .bl (!inV v vs)
  | _ => none
theorem in_core {as : List D} {d : D} {vs : List V} {κ : Tw.Env} {τ : S} {neg : Bool} {Q : VK} (h : (if neg then gNotIn as else gIn as) = some d) (l : as.length = vs.length) (r : Rel K cl H (as.map some ++ κ) (vs.map some ++ τ))
    (q : ∀ v H', Rel K cl H' (some d :: (as.map some ++ κ)) (some v :: (vs.map some ++ τ)) → Q v H') : rw2 (rIn K neg) vs H Q := by
  have key : ∃ a b v k xs us, as = [a, b] ∧ D.flat a = some v ∧ D.seqK b = some (k, xs) ∧ D.flats xs = some us ∧ d = .bl (if neg then !inV v us else inV v us) := by
    match as, h with
    | [a, b], h =>
      cases neg with
      | true =>
        simp only [if_true, gNotIn, Option.bind_eq_some_iff, Option.map_eq_some_iff] at h
        obtain ⟨v, e1, ⟨k, xs⟩, e2, us, e3, rfl⟩ := h
        exact ⟨a, b, v, k, xs, us, rfl, e1, e2, e3, rfl⟩
      | false =>
        simp only [Bool.false_eq_true, if_false, gIn, Option.bind_eq_some_iff, Option.map_eq_some_iff] at h
        obtain ⟨v, e1, ⟨k, xs⟩, e2, us, e3, rfl⟩ := h
        exact ⟨a, b, v, k, xs, us, rfl, e1, e2, e3, rfl⟩
    | [], h => cases neg <;> simp [gIn, gNotIn] at h
    | [_], h => cases neg <;> simp [gIn, gNotIn] at h
    | _ :: _ :: _ :: _, h => cases neg <;> simp [gIn, gNotIn] at h
  obtain ⟨a, b, v, k, xs, us, rfl, e1, e2, e3, rfl⟩ := key
  obtain ⟨x, y, rfl⟩ := two_of rfl l
  obtain ⟨M, f, hh⟩ := r.heads l
  obtain ⟨f1, f2, _, h1, h2⟩ := dats2 hh
  obtain ⟨rfl, a1⟩ := dat_flat h1 e1
  obtain ⟨ad, ws, rfl, l1, t1, d1⟩ := dat_seqK h2 e2
  obtain ⟨rfl, a2⟩ := dats_flat d1 e3
  refine ⟨ad, ws, rfl, ?_, a1, a2, q _ _ (r.push fun M => dbl)⟩
  cases k with
  | false => exact .inl (.of (l1 rfl))
  | true => exact .inr (t1 rfl)
theorem s_in : OpS K cl (rw2 (rIn K false)) gIn := fun as d vs H κ τ Q h l r q => in_core (neg := false) h l r q
theorem s_notIn : OpS K cl (rw2 (rIn K true)) gNotIn := fun as d vs H κ τ Q h l r q => in_core (neg := true) h l r q
theorem op_inA : OpR X (compareOp .In) (rIn X.K false) := op_in_seq
theorem op_notInA : OpR X (compareOp .NotIn) (rIn X.K true) := op_notIn_seq
theorem in_bl {as : List D} {d : D} (h : gIn as = some d) : ∃ k, d = .bl k := by
  match as, h with
  | [a, b], h =>
    simp only [gIn, Option.bind_eq_some_iff, Option.map_eq_some_iff] at h
    obtain ⟨_, _, _, _, _, _, rfl⟩ := h
    exact ⟨_, rfl⟩
theorem notIn_bl {as : List D} {d : D} (h : gNotIn as = some d) : ∃ k, d = .bl k := by
  match as, h with
  | [a, b], h =>
    simp only [gNotIn, Option.bind_eq_some_iff, Option.map_eq_some_iff] at h
    obtain ⟨_, _, _, _, _, _, rfl⟩ := h
    exact ⟨_, rfl⟩
/-! ### x *= e -/
def gIMul : List D → Option D := gInt2 fun i j => if CMul i j then some (.int (i * j)) else none
theorem s_imul : OpS K cl (rw2 (rI CMul fun i j => .int (i * j))) gIMul := s_int2 fun _ _ _ _ => dint
theorem iop_mulA : OpR X (inplaceOp .Mult) (rI CMul fun i j => .int (i * j)) := iop_mul
def gIAdd : List D → Option D := gInt2 fun i j => some (.int (i + j))
theorem s_iadd : OpS K cl (rw2 (rI0 fun i j => .int (i + j))) gIAdd := s_int20 fun _ _ _ _ => dint
theorem iop_addA : OpR X (inplaceOp .Add) (rI0 fun i j => .int (i + j)) := iop_add
end
end Tw
noncomputable section
namespace Tw
open PySem PySem.Spec PyProof.Rows L2
/-! ### == and != by an own __eq__ -/
theorem ns_some_of {K : PySem.W.Frag} {h : Heap} {N : Addr} {mg : Str → Option Value} {n : Str} {v : Value} (X : K.In h) (G : h.Ns N mg) (e : PySem.W.nsIn K N n = some (some v)) : mg n = some v := by
  obtain ⟨o, es, ep, ho, hd, _, hf⟩ := G
  unfold PySem.W.nsIn at e
  split at e
  · rename_i c d es' n' sl q
    have z := X _ _ q
    rw [ho] at z
    cases z
    cases hd
    split at e
    · rename_i en he
      cases e
      rw [← hf]
      unfold nsFind findBy
      rw [← Array.find?_toList, he]
      rfl
    · split at e <;> cases e
  · cases e
structure EqF (K : PySem.W.Frag) (C f : Addr) : Prop where
  e1 : PySem.W.findIn K (.ref C) "__eq__" = some (some (.ref f))
  fn : PySem.W.isFn K (.ref f) = true
  tf : ∃ of, K.lookup f = some of ∧ of.cls = .type "function"
  ne : ∃ nm q N bs sn sub col dd k0 k1 k2 k3 k5, K.lookup C = some (excClassObj nm q C N bs [.type "object"] true sn sub false col dd k0 k1 k2 k3 k5 "object.__new__") ∧ PySem.W.nsOkIn K N = true ∧ PySem.W.nsIn K N "__eq__" = some (some (.ref f)) ∧ PySem.W.nsIn K N "__ne__" = some none
def rEqO (K : PySem.W.Frag) (C : Addr) (neg : Bool) (sp : Sp) : R2 := fun x y H Q => ∃ a b dx dy fs gs, x = .ref a ∧ y = .ref b ∧ H a = some (.ins C dx fs) ∧ H b = some (.ins C dy gs) ∧ sp [x, y] H (fun v H' => ∃ k, v = .bl k ∧ Q (.bl (if neg then !k else k)) H') E0
section
variable {X : Cx} {cl : Nat → Addr} {W : WX} {a b : Expr} {pos : Pos} {fa fb : Ev}
theorem run_eqO {k : Nat} {f : Addr} {fd : FuncData} {ps : List Str} {sp : Sp} {pins : List (Addr × Obj)} {s : Shared} {σ : S} {H : Hp} {p q : Addr} {R : VK} {A : Around} (F : FnOk X.prog X.w X.K X.mg X.base (L2.CX X.prog X.w) k f fd ps sp) (hb : Binds X.K fd ps []) (hr : Room k A) (hf : A.frames = X.A.frames) (I : Inv X pins σ H s) (h : sp [.ref p, .ref q] H R E0) :
    wpAny (model X.prog X.w) A (call (.ref f) [.ref p, .ref q]) (EP X pins σ R) X.xe s := by
  have e0 : Env0 X.prog X.w X.K X.mg X.base A X.stack s H := by
    have e := I.env0
    exact ⟨by rw [hf]; exact e.frames, e.mod, e.bs, e.bsz, e.funs, e.frf, e.hok, e.bare⟩
  have hl := F.len _ _ _ _ h
  have hb2 := hb s [.ref p, .ref q] I.kIn (by simpa using hl)
  rw [List.append_nil] at hb2
  have r2 : Vals [V.ref p, V.ref q] [Value.ref p, Value.ref q] := .cons rfl (.cons rfl .nil)
  refine wpAny_call (codeAny_mono (F.run A X.stack s H ⟨[.ref p, .ref q], []⟩ [.ref p, .ref q] [.ref p, .ref q] R E0 hr e0 hb2 r2 h) fun r s' hq => ?_)
  cases r with
  | error e => exact passL pins σ H s e s' I hq
  | ok fl =>
    cases fl with
    | ret u => exact I.after hq
    | next => exact False.elim hq
    | brk => exact False.elim hq
    | cont => exact False.elim hq
theorem op_eqO {C f : Addr} {k m : Nat} {fd : FuncData} {ps : List Str} {sp : Sp} (E : EqF X.K C f) (F : FnOk X.prog X.w X.K X.mg X.base (L2.CX X.prog X.w) k f fd ps sp) (hb : Binds X.K fd ps []) (hr : Room m X.A) (hk : k ≤ m) : OpR X (compareOp .Eq) (rEqO X.K C false sp) := by
  intro pins s σ H x y v u Q I rx ry h
  obtain ⟨p, q, dx, dy, fs, gs, rfl, rfl, ha, hbb, hsp⟩ := h
  cases rx
  cases ry
  show wpAny (model X.prog X.w) X.A (richCompare .Eq (.ref p) (.ref q)) (EP X pins σ Q) X.xe s
  obtain ⟨mA, J, _⟩ := ins_get I.hok ha
  obtain ⟨mB, J', _⟩ := ins_get I.hok hbb
  obtain ⟨od, J, _⟩ := J.look
  obtain ⟨od', J', _⟩ := J'.look
  obtain ⟨m', hF⟩ := I.fr
  refine PySem.W.cmp_K (op := .Eq) (tb := .ref C) hr.units0 hF I.ok.mod.kin J J'.type (by simp [PySem.W.notFirst]) E.e1 E.fn ?_
  refine thn (run_eqO F hb (hr.mono hk) rfl I hsp) fun w s' ⟨z, H', I', rz, kk, ez, q⟩ => ?_
  subst ez
  cases rz
  exact ⟨.bl kk, H', I', rfl, q⟩
theorem op_neO {C f : Addr} {k m : Nat} {fd : FuncData} {ps : List Str} {sp : Sp} (E : EqF X.K C f) (F : FnOk X.prog X.w X.K X.mg X.base (L2.CX X.prog X.w) k f fd ps sp) (hb : Binds X.K fd ps []) (hr : Room m X.A) (hk : k + 1 ≤ m) : OpR X (compareOp .NotEq) (rEqO X.K C true sp) := by
  intro pins s σ H x y v u Q I rx ry h
  obtain ⟨p, q, dx, dy, fs, gs, rfl, rfl, ha, hbb, hsp⟩ := h
  cases rx
  cases ry
  obtain ⟨nm, qn, N, bs, sn, sub, col, dd, k0, k1, k2, k3, k5, hC, hN, h1, h2⟩ := E.ne
  obtain ⟨of, hof, hoc⟩ := E.tf
  have hx : ObjOk X.prog X.w H s.heap p (.ins C dx fs) := I.hok p _ ha
  have hy : ObjOk X.prog X.w H s.heap q (.ins C dy gs) := I.hok q _ hbb
  obtain ⟨_, _, _, hpx, _⟩ := hx
  obtain ⟨_, _, _, hpy, _⟩ := hy
  have G := Heap.Ns.of_isNs (PySem.W.isNs_of_in I.kIn hN)
  have Y : s.heap.OwnEqNoNe p C f "object" [.type "object"] := ⟨_, of, nm, qn, N, bs, true, sn, sub, false, col, dd, k0, k1, k2, k3, k5, "object.__new__", _, _, hpx, rfl, I.kIn _ _ hC, G, ns_some_of I.kIn G h1, I.kIn _ _ hof, hoc, PySem.F.mro_object, PySem.F.cmp_object.eq.lookup, PySem.W.ns_none_of I.kIn G h2⟩
  obtain ⟨hh, g, d, t, os⟩ := s
  refine PySem.compareOp_ne_ownEq PySem.F.cmp_object Y hpy rfl (by have := hr.units; omega) ?_
  refine thn (run_eqO F hb (hr.mono hk).in1 rfl I hsp) fun w s' ⟨z, H', I', rz, kk, ez, q⟩ => ?_
  subst ez
  cases rz
  exact ⟨kk, rfl, .bl (!kk), H', I', rfl, q⟩
def fCmpO (neg : Bool) (n : Nat) (h : List D → Rf) (fa fb : Ev) : Ev := fun env => (fa env).bind fun x env1 => (fb env1).bind fun y env2 => match D.tag x, D.tag y, h [x, y] with
  | some (.cl i), some (.cl j), .ret (.bl k) [] => if i = n ∧ j = n then .ok (.bl (if neg then !k else k)) env2 else .stuck
  | _, _, _ => .stuck
theorem tag_cl {K : PySem.W.Frag} {M H} {d : D} {i : Nat} {v : V} {f : List Addr} (h : Dat K cl M H d v f) (e : D.tag d = some (.cl i)) : ∃ a dx fs, v = .ref a ∧ H a = some (.ins (cl i) dx fs) := by
  cases d with
  | obj m c ns ds =>
    cases e
    obtain ⟨a, dx, vs, g, rfl, t, _⟩ := h
    exact ⟨a, dx, _, rfl, t⟩
  | _ => simp [D.tag] at e
theorem rd_cmpO {K : PySem.W.Frag} {neg : Bool} {n : Nat} {h : List D → Rf} {σ : S} {H : Hp} {Q : VK} (q : tE K cl W (fCmpO neg n h fa fb) σ H Q) : tOp (rEqO K (cl n) neg (spD K cl 2 [] h)) (tE K cl W fa) (tE K cl W fb) σ H Q := by
  obtain ⟨τ, κ, env, r, l, q⟩ := q
  refine tE_bind r l q fun x env1 v H1 h1 r1 => tE_bind1 (A := [some x]) (Y := [some v]) rfl r1 l h1 fun y env2 w H2 h2 r2 => ?_
  have r3 : Rel K cl H2 (List.map some [x, y] ++ (κ ++ env2)) (List.map some [v, w] ++ (τ ++ σ)) := Rel.swap3 (A := [some y]) (X := [some w]) (B := [some x]) (Y := [some v]) r2 rfl rfl
  obtain ⟨M, f, hh⟩ := r3.heads rfl
  obtain ⟨f1, f2, _, d1, d2⟩ := dats2 hh
  cases e1 : D.tag x with
  | none => simp only [e1] at h2; exact h2.elim
  | some t1 =>
    cases t1 with
    | ty _ => simp only [e1] at h2; exact h2.elim
    | cl i =>
      cases e2 : D.tag y with
      | none => simp only [e1, e2] at h2; exact h2.elim
      | some t2 =>
        cases t2 with
        | ty _ => simp only [e1, e2] at h2; exact h2.elim
        | cl j =>
          cases e3 : h [x, y] with
          | stuck => simp only [e1, e2, e3] at h2; exact h2.elim
          | exc _ _ _ _ => simp only [e1, e2, e3] at h2; exact h2.elim
          | ret d ios =>
            cases d with
            | bl k =>
              cases ios with
              | cons _ _ => simp only [e1, e2, e3] at h2; exact h2.elim
              | nil =>
                simp only [e1, e2, e3] at h2
                by_cases c : i = n ∧ j = n
                · rw [if_pos c] at h2
                  obtain ⟨rfl, rfl⟩ := c
                  obtain ⟨p, dx, fs, rfl, t1⟩ := tag_cl d1 e1
                  obtain ⟨q', dy, gs, rfl, t2⟩ := tag_cl d2 e2
                  refine ⟨p, q', dx, dy, fs, gs, rfl, rfl, t1, t2, rfl, τ ++ σ, κ ++ env2, [x, y], rfl, ?_, r3, ?_⟩
                  · have z := r3.len
                    simp only [List.length_append, List.length_map, List.length_cons, List.length_nil] at z ⊢
                    omega
                  · rw [e3]
                    intro v H3 us eu r4
                    obtain ⟨M, f, hv⟩ := Rel.head r4
                    cases us with
                    | cons _ _ => simp at eu
                    | nil => exact ⟨k, hv.1, h2 _ _ ((Rel.pop r4).push fun M => dbl)⟩
                · rw [if_neg c] at h2; exact h2.elim
            | _ => simp only [e1, e2, e3] at h2; exact h2.elim
/-- a method of a class -/
def FnM (P : Program) (w : World) (K : PySem.W.Frag) (mg : Str → Option Value) (base : Heap) (cl : Nat → Addr) (f : Addr) (k n : Nat) (io : List Nat) (h : List D → Rf) : Prop :=
  ∃ fd ps, Binds K fd ps [] ∧ FnOk P w K mg base (L2.CX P w) k f fd ps (spD K cl n io h)
theorem j_eqO {n k m : Nat} {h : List D → Rf} (hE : ∃ f, EqF X.K (cl n) f ∧ FnM X.prog X.w X.K X.mg X.base cl f k 2 [] h) (hr : Room m X.A) (hk : k ≤ m) (ha : PE X a (tE X.K cl W fa)) (hb : PE X b (tE X.K cl W fb)) : PE X (.Compare a [.Eq] [b] pos) (tE X.K cl W (fCmpO false n h fa fb)) := by
  obtain ⟨f, E, fd, ps, bd, F⟩ := hE
  exact PE.imp (pe_cmpR (op_eqO E F bd hr hk) ha hb (nomark _)) fun σ H Q q => rd_cmpO q
theorem j_neO {n k m : Nat} {h : List D → Rf} (hE : ∃ f, EqF X.K (cl n) f ∧ FnM X.prog X.w X.K X.mg X.base cl f k 2 [] h) (hr : Room m X.A) (hk : k + 1 ≤ m) (ha : PE X a (tE X.K cl W fa)) (hb : PE X b (tE X.K cl W fb)) : PE X (.Compare a [.NotEq] [b] pos) (tE X.K cl W (fCmpO true n h fa fb)) := by
  obtain ⟨f, E, fd, ps, bd, F⟩ := hE
  exact PE.imp (pe_cmpR (op_neO E F bd hr hk) ha hb (nomark _)) fun σ H Q q => rd_cmpO q
theorem cmpO_bl {neg : Bool} {n : Nat} {h : List D → Rf} {env env' : Tw.Env} {d : D} (e : fCmpO neg n h fa fb env = .ok d env') : ∃ k, d = .bl k := by
  unfold fCmpO at e
  cases e1 : fa env with
  | stuck => rw [e1] at e; cases e
  | exc _ _ _ _ => rw [e1] at e; cases e
  | ok x env1 =>
    rw [e1, Rs.bind_ok] at e
    cases e2 : fb env1 with
    | stuck => rw [e2] at e; cases e
    | exc _ _ _ _ => rw [e2] at e; cases e
    | ok y env2 =>
      rw [e2, Rs.bind_ok] at e
      split at e
      · split at e
        · cases e; exact ⟨_, rfl⟩
        · cases e
      · cases e
theorem t_of {e : Expr} {f : Ev} {t : TE} (hp : PT X e (tTest t)) (hr : ∀ σ H Q, tE X.K cl W f σ H Q → t σ H Q) (hbl : ∀ env env' d, f env = .ok d env' → ∃ k, d = .bl k) : PT X e (tT X.K cl W (bE f)) := PT.imp hp fun σ H Q ⟨τ, κ, env, r, l, q⟩ => by
  refine hr _ _ _ ⟨τ, κ, env, r, l, ?_⟩
  unfold bE at q
  cases e1 : f env with
  | ok d env1 =>
    rw [e1] at q
    obtain ⟨k, rfl⟩ := hbl _ _ _ e1
    intro v H' r2
    obtain ⟨M, f', hd⟩ := r2.head
    exact ⟨k, hd.1, q H' r2.pop⟩
  | exc _ _ _ _ => rw [e1] at q; exact q
  | stuck => rw [e1] at q; exact q
theorem t_eqO {n k m : Nat} {h : List D → Rf} (hE : ∃ f, EqF X.K (cl n) f ∧ FnM X.prog X.w X.K X.mg X.base cl f k 2 [] h) (hr : Room m X.A) (hk : k ≤ m) (ha : PE X a (tE X.K cl W fa)) (hb : PE X b (tE X.K cl W fb)) : PT X (.Compare a [.Eq] [b] pos) (tT X.K cl W (bE (fCmpO false n h fa fb))) := by
  obtain ⟨f, E, fd, ps, bd, F⟩ := hE
  exact t_of (pt_cmpR (op_eqO E F bd hr hk) ha hb (nomark _)) (fun σ H Q q => rd_cmpO q) fun _ _ _ z => cmpO_bl z
theorem t_neO {n k m : Nat} {h : List D → Rf} (hE : ∃ f, EqF X.K (cl n) f ∧ FnM X.prog X.w X.K X.mg X.base cl f k 2 [] h) (hr : Room m X.A) (hk : k + 1 ≤ m) (ha : PE X a (tE X.K cl W fa)) (hb : PE X b (tE X.K cl W fb)) : PT X (.Compare a [.NotEq] [b] pos) (tT X.K cl W (bE (fCmpO true n h fa fb))) := by
  obtain ⟨f, E, fd, ps, bd, F⟩ := hE
  exact t_of (pt_cmpR (op_neO E F bd hr hk) ha hb (nomark _)) (fun σ H Q q => rd_cmpO q) fun _ _ _ z => cmpO_bl z
end
section
variable {P : Program} {w : World} {K : PySem.W.Frag} {mg : Str → Option Value} {base : Heap} {cl : Nat → Addr}
/-- as def_ok, for a method -/
theorem meth_ok {x qual : Str} {st : Stmt} {f : Addr} {fd : FuncData} {N ps : List Str} {k : Nat} {io : List Nat} {g : Sv} (F : Fun K x qual st f fd) (Sc : FnScope N ps (defScope st)) (hb : Binds K fd ps []) (hnd : io.Nodup) (hio : ∀ i ∈ io, i < ps.length) (hps : ps.length ≤ N.length)
    (hbody : ∀ (cdv : Value) (A : Around) (outer : List PySem.Env) (s : Shared) (H : Hp) (E : XK), Room k (A.deeper (envOfC qual (defScope st) s.heap.objs.size f cdv)) →
      Takes (cxOf (L2.CX P w) P w K mg base N qual (defScope st) f cdv A outer s H E) (fun cls dd _ H' => E cls dd H') → PassesOwn (model P w) (A.deeper (envOfC qual (defScope st) s.heap.objs.size f cdv)) (envOfC qual (defScope st) s.heap.objs.size f cdv) (cxOf (L2.CX P w) P w K mg base N qual (defScope st) f cdv A outer s H E).xe →
      PSs (cxOf (L2.CX P w) P w K mg base N qual (defScope st) f cdv A outer s H E) (defBody st) (tS K cl (fun cls dd _ H' => E cls dd H') io g)) :
    FnM P w K mg base cl f (k + 1) ps.length io (runB N.length io g) := by
  have key := def_okF (cl := cl) (mg := mg) (base := base) (P := P) (w := w) F Sc hnd hio hps hbody
  exact ⟨fd, ps, hb, key⟩
end
end Tw
noncomputable section
namespace Tw
open PySem PySem.Spec PyProof.Rows L2
/-! ### what is told of the text -/
def Tg.same : Tg → Tg → Bool
  | .ty a, .ty b => decide (a = b)
  | .cl a, .cl b => decide (a = b)
  | _, _ => false
theorem Tg.same_eq {a b : Tg} (h : Tg.same a b = true) : a = b := by
  cases a <;> cases b <;> simp [Tg.same] at h <;> simp [h]
def isaBy (l : List (Tg × Tg × Bool)) (t u : Tg) : Option Bool := (l.find? fun z => Tg.same z.1 t && Tg.same z.2.1 u).map (·.2.2)
theorem isaBy_mem {l : List (Tg × Tg × Bool)} {t u : Tg} {b : Bool} (h : isaBy l t u = some b) : (t, u, b) ∈ l := by
  unfold isaBy at h
  rw [Option.map_eq_some_iff] at h
  obtain ⟨z, h1, rfl⟩ := h
  have h2 := List.find?_some h1
  have h3 := List.mem_of_find?_eq_some h1
  rw [Bool.and_eq_true] at h2
  rw [← Tg.same_eq h2.1, ← Tg.same_eq h2.2]
  exact h3
theorem isaOk_of {K : PySem.W.Frag} {cl : Nat → Addr} {l : List (Tg × Tg × Bool)} (h : ∀ z ∈ l, PySem.W.kitOne K (tgV cl z.1) (tgV cl z.2.1) = some z.2.2) (h2 : ∀ c u b, (Tg.cl c, u, b) ∈ l → ClsF K (cl c)) : IsaOk K cl (isaBy l) :=
  ⟨fun t u b e => h _ (isaBy_mem e), fun c u b e => h2 c u b (isaBy_mem e)⟩
/-- where the own classes lie -/
def clOf (K : PySem.W.Frag) (ns : List Str) (i : Nat) : Addr := match ns[i]? with
  | some x => match PySem.W.nsIn K mainGlobals x with
    | some (some (.ref a)) => a
    | _ => 0
  | none => 0
theorem clOf_eq {K : PySem.W.Frag} {ns : List Str} {i : Nat} {x : Str} {a : Addr} (e : ns[i]? = some x) (h : PySem.W.nsIn K mainGlobals x = some (some (.ref a))) : clOf K ns i = a := by
  unfold clOf
  rw [e]
  simp only [h]
/-- a def of the top -/
def IsFn (K : PySem.W.Frag) (mg : Str → Option Value) (x qual : Str) (st : Stmt) (ps : List Str) : Prop := ∃ f fd, mg x = some (.ref f) ∧ Fun K x qual st f fd ∧ Binds K fd ps []
/-- a method -/
def IsM (K : PySem.W.Frag) (f : Addr) (x qual : Str) (st : Stmt) (ps : List Str) : Prop := ∃ fd, Fun K x qual st f fd ∧ Binds K fd ps []
/-- what the law's script is -/
theorem scr_rel {K : PySem.W.Frag} {cl : Nat → Addr} {H : Hp} {a : Addr} {ns : List Int} (h : SqL K H a (ns.map V.int)) : Rel K cl H [some (.scr ns)] [some (.ref a)] :=
  ⟨[], .nil, .ref a, [], [], [], rfl, rfl, ⟨rfl, a, rfl, h.elim (fun z => .inl ⟨z, by simp⟩) .inr⟩, rfl, rfl⟩
theorem law_sp {K : PySem.W.Frag} {cl : Nat → Addr} {h : List D → Rf} {H : Hp} {a : Addr} {ns : List Int} (e : h [.scr ns] = .ret (.bl true) []) (hS : SqL K H a (ns.map V.int)) : spD K cl 1 [] h [.ref a] H (fun v _ => v = .bl true) fun _ _ _ => False := by
  refine ⟨rfl, [], [], [.scr ns], rfl, rfl, scr_rel hS, ?_⟩
  rw [e]
  intro v H' us _ r
  obtain ⟨M, f, hd⟩ := Rel.head r
  exact hd.1
end Tw
noncomputable section
namespace Tw
open PySem PySem.Spec PyProof.Rows L2
/-! ### reckoning with what a text computes: each word at an environment -/
def varR (i : Nat) (env : Tw.Env) : Option (Option D) → Rs D
  | some (some d) => .ok (D.frz d) (env.set i (some (D.frz d)))
  | _ => .stuck
theorem e_var (i : Nat) (env : Tw.Env) : fVar i env = varR i env env[i]? := by unfold fVar varR; split <;> simp_all
theorem e_varR (i : Nat) (env : Tw.Env) (d : D) : varR i env (some (some d)) = .ok (D.frz d) (env.set i (some (D.frz d))) := (rfl)
def moveR (i : Nat) (env : Tw.Env) : Option (Option D) → Rs D
  | some (some d) => .ok d (env.set i none)
  | _ => .stuck
theorem e_move (i : Nat) (env : Tw.Env) : fMove i env = moveR i env env[i]? := by unfold fMove moveR; split <;> simp_all
theorem e_moveR (i : Nat) (env : Tw.Env) (d : D) : moveR i env (some (some d)) = .ok d (env.set i none) := (rfl)
theorem e_K (d : D) (env : Tw.Env) : fK d env = .ok d env := (rfl)
theorem e_nil (env : Tw.Env) : evs [] env = .ok [] env := (rfl)
def k_val2 (d : D) : List D → Tw.Env → Rs (List D) := fun ds env2 => .ok (d :: ds) env2
theorem e_kval2 (d : D) (ds : List D) (env2 : Tw.Env) : k_val2 d ds env2 = .ok (d :: ds) env2 := (rfl)
def k_val (os : List Opd) : D → Tw.Env → Rs (List D) := fun d env1 => (evs os env1).bind (k_val2 d)
theorem e_kval (os : List Opd) (d : D) (env1 : Tw.Env) : k_val os d env1 = (evs os env1).bind (k_val2 d) := (rfl)
theorem e_val (f : Ev) (os : List Opd) (env : Tw.Env) : evs (.val f :: os) env = (f env).bind (k_val os) := (rfl)
def slotR (os : List Opd) (env : Tw.Env) : Option (Option D) → Rs (List D)
  | some (some _) => evs os env
  | _ => .stuck
theorem e_slot (i : Nat) (os : List Opd) (env : Tw.Env) : evs (.slot i :: os) env = slotR os env env[i]? := by
  unfold evs slotR
  split <;> simp_all
theorem e_slotR (os : List Opd) (env : Tw.Env) (d : D) : slotR os env (some (some d)) = evs os env := (rfl)
theorem e_gnil (env : Tw.Env) : gat [] [] env = some ([], env) := (rfl)
def gvR (d : D) : Option (List D × Tw.Env) → Option (List D × Tw.Env)
  | some p => some (d :: p.1, p.2)
  | none => none
theorem e_gval (f : Ev) (os : List Opd) (d : D) (ds : List D) (env : Tw.Env) : gat (.val f :: os) (d :: ds) env = gvR d (gat os ds env) := by
  show Option.map _ _ = _
  cases gat os ds env <;> rfl
theorem e_gvR (d : D) (p : List D × Tw.Env) : gvR d (some p) = some (d :: p.1, p.2) := (rfl)
def gsR (i : Nat) (os : List Opd) (ds : List D) (env : Tw.Env) : Option (Option D) → Option (List D × Tw.Env)
  | some (some d) => gvR d (gat os ds (env.set i none))
  | _ => none
theorem e_gslot (i : Nat) (os : List Opd) (ds : List D) (env : Tw.Env) : gat (.slot i :: os) ds env = gsR i os ds env env[i]? := by
  show (match env[i]? with | some (some d) => (gat os ds (env.set i none)).map fun p => (d :: p.1, p.2) | _ => none) = gsR i os ds env env[i]?
  cases env[i]? with
  | none => rfl
  | some o => cases o with
    | none => rfl
    | some d =>
      show Option.map _ _ = gvR d (gat os ds (env.set i none))
      cases gat os ds (env.set i none) <;> rfl
theorem e_gsR (i : Nat) (os : List Opd) (ds : List D) (env : Tw.Env) (d : D) : gsR i os ds env (some (some d)) = gvR d (gat os ds (env.set i none)) := (rfl)
def gR (env : Tw.Env) : Option D → Rs D
  | some d => .ok d env
  | none => .stuck
theorem e_gR (env : Tw.Env) (d : D) : gR env (some d) = .ok d env := (rfl)
def gpR (g : List D → Option D) (env : Tw.Env) : Option (List D × Tw.Env) → Rs D
  | some p => gR env (g p.1)
  | none => .stuck
theorem e_gpR (g : List D → Option D) (env : Tw.Env) (p : List D × Tw.Env) : gpR g env (some p) = gR env (g p.1) := (rfl)
def k_N (g : List D → Option D) (os : List Opd) : List D → Tw.Env → Rs D := fun ds env1 => gpR g env1 (gat os ds env1)
theorem e_kN (g : List D → Option D) (os : List Opd) (ds : List D) (env1 : Tw.Env) : k_N g os ds env1 = gpR g env1 (gat os ds env1) := (rfl)
theorem e_N (g : List D → Option D) (os : List Opd) (env : Tw.Env) : fN g os env = (evs os env).bind (k_N g os) := by
  unfold fN
  refine congrArg _ (funext fun ds => funext fun env1 => ?_)
  show _ = gpR g env1 (gat os ds env1)
  cases gat os ds env1 with
  | none => rfl
  | some p => show (match g p.1 with | some d => Rs.ok d env1 | none => .stuck) = gR env1 (g p.1); cases g p.1 <;> rfl
theorem e_vals0 : vals [] = [] := (rfl)
theorem e_vals1 (f : Ev) (fs : List Ev) : vals (f :: fs) = .val f :: vals fs := (rfl)
def k_tup  : List D → Tw.Env → Rs D := fun ds env1 => .ok (.tup ds) env1
theorem e_ktup  (ds : List D) (env1 : Tw.Env) : k_tup  ds env1 = .ok (.tup ds) env1 := (rfl)
theorem e_tup (fs : List Ev) (env : Tw.Env) : fTup fs env = (evs (vals fs) env).bind k_tup := (rfl)
def k_lst  : List D → Tw.Env → Rs D := fun ds env1 => .ok (.lst true ds) env1
theorem e_klst  (ds : List D) (env1 : Tw.Env) : k_lst  ds env1 = .ok (.lst true ds) env1 := (rfl)
theorem e_lst (fs : List Ev) (env : Tw.Env) : fLst fs env = (evs (vals fs) env).bind k_lst := (rfl)
def andR (g : Ev) (d : D) (env : Tw.Env) : Option Bool → Rs D
  | some true => g env
  | some false => .ok d env
  | none => .stuck
def k_and (g : Ev) : D → Tw.Env → Rs D := fun d env1 => andR g d env1 (D.tru d)
theorem e_kand (g : Ev) (d : D) (env1 : Tw.Env) : k_and g d env1 = andR g d env1 (D.tru d) := (rfl)
theorem e_and (f g : Ev) (env : Tw.Env) : fAnd f g env = (f env).bind (k_and g) := (rfl)
theorem e_andT (g : Ev) (d : D) (env : Tw.Env) : andR g d env (some true) = g env := (rfl)
theorem e_andF (g : Ev) (d : D) (env : Tw.Env) : andR g d env (some false) = .ok d env := (rfl)
def orR (g : Ev) (d : D) (env : Tw.Env) : Option Bool → Rs D
  | some false => g env
  | some true => .ok d env
  | none => .stuck
def k_or (g : Ev) : D → Tw.Env → Rs D := fun d env1 => orR g d env1 (D.tru d)
theorem e_kor (g : Ev) (d : D) (env1 : Tw.Env) : k_or g d env1 = orR g d env1 (D.tru d) := (rfl)
theorem e_or (f g : Ev) (env : Tw.Env) : fOr f g env = (f env).bind (k_or g) := (rfl)
theorem e_orT (g : Ev) (d : D) (env : Tw.Env) : orR g d env (some true) = .ok d env := (rfl)
theorem e_orF (g : Ev) (d : D) (env : Tw.Env) : orR g d env (some false) = g env := (rfl)
def notR (env : Tw.Env) : Option Bool → Rs D
  | some k => .ok (.bl (!k)) env
  | none => .stuck
def k_not  : D → Tw.Env → Rs D := fun d env1 => notR env1 (D.tru d)
theorem e_knot  (d : D) (env1 : Tw.Env) : k_not  d env1 = notR env1 (D.tru d) := (rfl)
theorem e_not (f : Ev) (env : Tw.Env) : fNot f env = (f env).bind k_not := (rfl)
theorem e_notR (env : Tw.Env) (k : Bool) : notR env (some k) = .ok (.bl (!k)) env := (rfl)
def bR (env : Tw.Env) : Option Bool → Rs Bool
  | some k => .ok k env
  | none => .stuck
def k_bE  : D → Tw.Env → Rs Bool := fun d env1 => bR env1 (D.tru d)
theorem e_kbE  (d : D) (env1 : Tw.Env) : k_bE  d env1 = bR env1 (D.tru d) := (rfl)
theorem e_bE (f : Ev) (env : Tw.Env) : bE f env = (f env).bind k_bE := (rfl)
theorem e_bR (env : Tw.Env) (k : Bool) : bR env (some k) = .ok k env := (rfl)
def k_bAnd (g : EvB) : Bool → Tw.Env → Rs Bool := fun k env1 => if k = true then g env1 else .ok false env1
theorem e_kbAnd (g : EvB) (k : Bool) (env1 : Tw.Env) : k_bAnd g k env1 = if k = true then g env1 else .ok false env1 := (rfl)
theorem e_bAnd (f g : EvB) (env : Tw.Env) : bAnd f g env = (f env).bind (k_bAnd g) := (rfl)
def k_bOr (g : EvB) : Bool → Tw.Env → Rs Bool := fun k env1 => if k = true then .ok true env1 else g env1
theorem e_kbOr (g : EvB) (k : Bool) (env1 : Tw.Env) : k_bOr g k env1 = if k = true then .ok true env1 else g env1 := (rfl)
theorem e_bOr (f g : EvB) (env : Tw.Env) : bOr f g env = (f env).bind (k_bOr g) := (rfl)
def k_bNot  : Bool → Tw.Env → Rs Bool := fun k env1 => .ok (!k) env1
theorem e_kbNot  (k : Bool) (env1 : Tw.Env) : k_bNot  k env1 = .ok (!k) env1 := (rfl)
theorem e_bNot (f : EvB) (env : Tw.Env) : bNot f env = (f env).bind k_bNot := (rfl)
theorem e_bTrue (env : Tw.Env) : bTrue env = .ok true env := (rfl)
def k_if (f g : Ev) : Bool → Tw.Env → Rs D := fun k env1 => if k = true then f env1 else g env1
theorem e_kif (f g : Ev) (k : Bool) (env1 : Tw.Env) : k_if f g k env1 = if k = true then f env1 else g env1 := (rfl)
theorem e_if (t : EvB) (f g : Ev) (env : Tw.Env) : fIf t f g env = (t env).bind (k_if f g) := (rfl)
def chR2 (env : Tw.Env) : Option D → Rs D
  | some d => .ok d env
  | none => .stuck
theorem e_chR2 (env : Tw.Env) (d : D) : chR2 env (some d) = .ok d env := (rfl)
def chR (g' : List D → Option D) (fc : Ev) (y : D) (env : Tw.Env) : Option D → Rs D
  | some (.bl true) => (fc env).bind fun z env3 => chR2 env3 (g' [y, z])
  | some (.bl false) => .ok (.bl false) env
  | _ => .stuck
def k_chRT (g' : List D → Option D) (y : D) : D → Tw.Env → Rs D := fun z env3 => chR2 env3 (g' [y, z])
theorem e_kchRT (g' : List D → Option D) (y z : D) (env3 : Tw.Env) : k_chRT g' y z env3 = chR2 env3 (g' [y, z]) := (rfl)
theorem e_chRT (g' : List D → Option D) (fc : Ev) (y : D) (env : Tw.Env) : chR g' fc y env (some (.bl true)) = (fc env).bind (k_chRT g' y) := (rfl)
theorem e_chRF (g' : List D → Option D) (fc : Ev) (y : D) (env : Tw.Env) : chR g' fc y env (some (.bl false)) = .ok (.bl false) env := (rfl)
def k_chain2 (g g' : List D → Option D) (fc : Ev) (x : D) : D → Tw.Env → Rs D := fun y env2 => chR g' fc y env2 (g [x, y])
theorem e_kchain2 (g g' : List D → Option D) (fc : Ev) (x y : D) (env2 : Tw.Env) : k_chain2 g g' fc x y env2 = chR g' fc y env2 (g [x, y]) := (rfl)
def k_chain (g g' : List D → Option D) (fb fc : Ev) : D → Tw.Env → Rs D := fun x env1 => (fb env1).bind (k_chain2 g g' fc x)
theorem e_kchain (g g' : List D → Option D) (fb fc : Ev) (x : D) (env1 : Tw.Env) : k_chain g g' fb fc x env1 = (fb env1).bind (k_chain2 g g' fc x) := (rfl)
theorem e_chain (g g' : List D → Option D) (fa fb fc : Ev) (env : Tw.Env) : fChain g g' fa fb fc env = (fa env).bind (k_chain g g' fb fc) := by
  unfold fChain
  refine congrArg _ (funext fun x => funext fun env1 => ?_)
  show Rs.bind (fb env1) _ = Rs.bind (fb env1) _
  refine congrArg _ (funext fun y => funext fun env2 => ?_)
  show _ = chR g' fc y env2 (g [x, y])
  cases g [x, y] with
  | none => rfl
  | some d => cases d with
    | bl b => cases b with
      | true =>
        show Rs.bind (fc env2) _ = Rs.bind (fc env2) _
        refine congrArg _ (funext fun z => funext fun env3 => ?_)
        show _ = chR2 env3 (g' [y, z])
        cases g' [y, z] <;> rfl
      | false => rfl
    | _ => rfl
theorem e_part0 (env : Tw.Env) : fPart none env = .ok none env := (rfl)
def partR (env : Tw.Env) : Option Int → Rs (Option Int)
  | some i => .ok (some i) env
  | none => .stuck
def k_part  : D → Tw.Env → Rs (Option Int) := fun d env1 => partR env1 (D.asI d)
theorem e_kpart  (d : D) (env1 : Tw.Env) : k_part  d env1 = partR env1 (D.asI d) := (rfl)
theorem e_part (f : Ev) (env : Tw.Env) : fPart (some f) env = (f env).bind k_part := (rfl)
theorem e_partR (env : Tw.Env) (i : Int) : partR env (some i) = .ok (some i) env := (rfl)
def k_sl3 (d : D) (l : Option Int) : Option Int → Tw.Env → Rs D := fun h env3 => gR env3 (gSl d l h)
theorem e_ksl3 (d : D) (l h : Option Int) (env3 : Tw.Env) : k_sl3 d l h env3 = gR env3 (gSl d l h) := (rfl)
def k_sl2 (d : D) (hi : Option Ev) : Option Int → Tw.Env → Rs D := fun l env2 => (fPart hi env2).bind (k_sl3 d l)
theorem e_ksl2 (d : D) (hi : Option Ev) (l : Option Int) (env2 : Tw.Env) : k_sl2 d hi l env2 = (fPart hi env2).bind (k_sl3 d l) := (rfl)
def k_sl (lo hi : Option Ev) : D → Tw.Env → Rs D := fun d env1 => (fPart lo env1).bind (k_sl2 d hi)
theorem e_ksl (lo hi : Option Ev) (d : D) (env1 : Tw.Env) : k_sl lo hi d env1 = (fPart lo env1).bind (k_sl2 d hi) := (rfl)
theorem e_sl (fa : Ev) (lo hi : Option Ev) (env : Tw.Env) : fSl fa lo hi env = (fa env).bind (k_sl lo hi) := by
  unfold fSl
  refine congrArg _ (funext fun d => funext fun env1 => ?_)
  show Rs.bind _ _ = Rs.bind _ _
  refine congrArg _ (funext fun l => funext fun env2 => ?_)
  show Rs.bind _ _ = Rs.bind _ _
  refine congrArg _ (funext fun h => funext fun env3 => ?_)
  show _ = gR env3 (gSl d l h)
  cases gSl d l h <;> rfl
def k_rev  : D → Tw.Env → Rs D := fun d env1 => gR env1 (gRev d)
theorem e_krev  (d : D) (env1 : Tw.Env) : k_rev  d env1 = gR env1 (gRev d) := (rfl)
theorem e_rev (f : Ev) (env : Tw.Env) : fRev f env = (f env).bind k_rev := by
  unfold fRev
  refine congrArg _ (funext fun d => funext fun env1 => ?_)
  show _ = gR env1 (gRev d)
  cases gRev d <;> rfl
/-! calls -/
def ok1 (d : D) : Option Tw.Env → Rs D
  | some env => .ok d env
  | none => .stuck
def ex1 (c : Nat) (ns : List Str) (es : List D) : Option Tw.Env → Rs D
  | some env => .exc c ns es env
  | none => .stuck
def ioR (os : List Opd) (io : List Nat) (env : Tw.Env) : Rf → Rs D
  | .ret d ios => ok1 d (putIo os io ios env)
  | .exc c ns es ios => ex1 c ns es (putIo os io ios env)
  | .stuck => .stuck
def callR (io : List Nat) (h : List D → Rf) (os : List Opd) : Option (List D × Tw.Env) → Rs D
  | some p => ioR os io p.2 (h p.1)
  | none => .stuck
theorem e_callR (io : List Nat) (h : List D → Rf) (os : List Opd) (p : List D × Tw.Env) : callR io h os (some p) = ioR os io p.2 (h p.1) := (rfl)
def k_call (io : List Nat) (h : List D → Rf) (os : List Opd) : List D → Tw.Env → Rs D := fun ds env1 => callR io h os (gat os ds env1)
theorem e_kcall (io : List Nat) (h : List D → Rf) (os : List Opd) (ds : List D) (env1 : Tw.Env) : k_call io h os ds env1 = callR io h os (gat os ds env1) := (rfl)
theorem e_call (io : List Nat) (h : List D → Rf) (os : List Opd) (env : Tw.Env) : fCall io h os env = (evs os env).bind (k_call io h os) := by
  unfold fCall
  refine congrArg _ (funext fun ds => funext fun env1 => ?_)
  show _ = callR io h os (gat os ds env1)
  cases gat os ds env1 with
  | none => rfl
  | some p =>
    show (match h p.1 with | .ret d ios => _ | .exc c ns es ios => _ | .stuck => _) = ioR os io p.2 (h p.1)
    cases h p.1 with
    | ret d ios => show (match putIo os io ios p.2 with | some e => _ | none => _) = ok1 d (putIo os io ios p.2); cases putIo os io ios p.2 <;> rfl
    | exc c ns es ios => show (match putIo os io ios p.2 with | some e => _ | none => _) = ex1 c ns es (putIo os io ios p.2); cases putIo os io ios p.2 <;> rfl
    | stuck => rfl
theorem e_io0 (os : List Opd) (env : Tw.Env) (d : D) : ioR os [] env (.ret d []) = .ok d env := (rfl)
def io1R (i : D) (d : D) (env : Tw.Env) : Option Opd → Rs D
  | some (.slot j) => .ok d (env.set j (some i))
  | _ => .stuck
theorem e_io1 (os : List Opd) (p : Nat) (env : Tw.Env) (d x : D) : ioR os [p] env (.ret d [x]) = io1R x d env os[p]? := by
  show ok1 d (match os[p]? with | some (.slot i) => _ | _ => none) = io1R x d env os[p]?
  cases os[p]? with
  | none => rfl
  | some o => cases o <;> rfl
theorem e_io1R (x d : D) (env : Tw.Env) (j : Nat) : io1R x d env (some (.slot j)) = .ok d (env.set j (some x)) := (rfl)
/-! statements -/
def seqR (h : Sv) : Out → Out
  | .next env1 => h env1
  | o => o
theorem e_seq (g h : Sv) (env : Tw.Env) : sSeq g h env = seqR h (g env) := by unfold sSeq seqR; cases g env <;> rfl
theorem e_seqN (h : Sv) (env : Tw.Env) : seqR h (.next env) = h env := (rfl)
theorem e_seqR (h : Sv) (d : D) (env : Tw.Env) : seqR h (.ret d env) = .ret d env := (rfl)
theorem e_seqB (h : Sv) (env : Tw.Env) : seqR h (.brk env) = .brk env := (rfl)
theorem e_seqC (h : Sv) (env : Tw.Env) : seqR h (.cont env) = .cont env := (rfl)
theorem e_sNil (env : Tw.Env) : sNil env = .next env := (rfl)
theorem e_sBrk (env : Tw.Env) : sBrk env = .brk env := (rfl)
theorem e_sCont (env : Tw.Env) : sCont env = .cont env := (rfl)
def k_sRet  : D → Tw.Env → Out := fun d env1 => .ret d env1
theorem e_ksRet  (d : D) (env1 : Tw.Env) : k_sRet  d env1 = .ret d env1 := (rfl)
theorem e_sRet (f : Ev) (env : Tw.Env) : sRet f env = sBind (f env) k_sRet := (rfl)
def k_sExpr  : D → Tw.Env → Out := fun _ env1 => .next env1
theorem e_ksExpr (d : D) (env1 : Tw.Env) : k_sExpr d env1 = .next env1 := (rfl)
theorem e_sExpr (f : Ev) (env : Tw.Env) : sExpr f env = sBind (f env) k_sExpr := (rfl)
def k_sIf (g h : Sv) : Bool → Tw.Env → Out := fun k env1 => if k = true then g env1 else h env1
theorem e_ksIf (g h : Sv) (k : Bool) (env1 : Tw.Env) : k_sIf g h k env1 = if k = true then g env1 else h env1 := (rfl)
theorem e_sIf (t : EvB) (g h : Sv) (env : Tw.Env) : sIf t g h env = sBind (t env) (k_sIf g h) := (rfl)
def nxR : Option Tw.Env → Out
  | some env => .next env
  | none => .stuck
theorem e_nxR (env : Tw.Env) : nxR (some env) = .next env := (rfl)
def k_sAsg (bd : Bd) : D → Tw.Env → Out := fun d env1 => nxR (bd d env1)
theorem e_ksAsg (bd : Bd) (d : D) (env1 : Tw.Env) : k_sAsg bd d env1 = nxR (bd d env1) := (rfl)
theorem e_sAsg (bd : Bd) (f : Ev) (env : Tw.Env) : sAsg bd f env = sBind (f env) (k_sAsg bd) := by
  unfold sAsg
  refine congrArg _ (funext fun d => funext fun env1 => ?_)
  show _ = nxR (bd d env1)
  cases bd d env1 <;> rfl
theorem e_bNm (i : Nat) (d : D) (env : Tw.Env) : bNm i d env = if i < env.length then some (env.set i (some d)) else none := (rfl)
def k_sPar2 (i j : Nat) (x : D) : D → Tw.Env → Out := fun y env2 => if i < env2.length ∧ j < env2.length then .next ((env2.set i (some x)).set j (some y)) else .stuck
theorem e_ksPar2 (i j : Nat) (x y : D) (env2 : Tw.Env) : k_sPar2 i j x y env2 = if i < env2.length ∧ j < env2.length then .next ((env2.set i (some x)).set j (some y)) else .stuck := (rfl)
def k_sPar (i j : Nat) (g : Ev) : D → Tw.Env → Out := fun x env1 => sBind (g env1) (k_sPar2 i j x)
theorem e_ksPar (i j : Nat) (g : Ev) (x : D) (env1 : Tw.Env) : k_sPar i j g x env1 = sBind (g env1) (k_sPar2 i j x) := (rfl)
theorem e_sPar (i j : Nat) (f g : Ev) (env : Tw.Env) : sPar i j f g env = sBind (f env) (k_sPar i j g) := (rfl)
def k_sFor (bd : Bd) (body : Sv) : List D → Tw.Env → Out := fun items env1 => forGo bd body items env1
theorem e_ksFor (bd : Bd) (body : Sv) (items : List D) (env1 : Tw.Env) : k_sFor bd body items env1 = forGo bd body items env1 := (rfl)
theorem e_sFor (fi : Tw.Env → Rs (List D)) (bd : Bd) (body : Sv) (env : Tw.Env) : sFor fi bd body env = sBind (fi env) (k_sFor bd body) := (rfl)
def augR (i : Nat) (env : Tw.Env) : Option D → Out
  | some z => if i < env.length then .next (env.set i (some z)) else .stuck
  | none => .stuck
theorem e_augR (i : Nat) (env : Tw.Env) (z : D) : augR i env (some z) = if i < env.length then .next (env.set i (some z)) else .stuck := (rfl)
def k_sAug2 (i : Nat) (g : List D → Option D) (u : D) : D → Tw.Env → Out := fun y env2 => augR i env2 (g [u, y])
theorem e_ksAug2 (i : Nat) (g : List D → Option D) (u y : D) (env2 : Tw.Env) : k_sAug2 i g u y env2 = augR i env2 (g [u, y]) := (rfl)
def k_sAug (i : Nat) (g : List D → Option D) (f : Ev) : D → Tw.Env → Out := fun u env1 => sBind (f env1) (k_sAug2 i g u)
theorem e_ksAug (i : Nat) (g : List D → Option D) (f : Ev) (u : D) (env1 : Tw.Env) : k_sAug i g f u env1 = sBind (f env1) (k_sAug2 i g u) := (rfl)
theorem e_sAug (i : Nat) (g : List D → Option D) (f : Ev) (env : Tw.Env) : sAug i g f env = sBind (fVar i env) (k_sAug i g f) := by
  unfold sAug
  refine congrArg _ (funext fun u => funext fun env1 => ?_)
  show sBind _ _ = sBind _ _
  refine congrArg _ (funext fun y => funext fun env2 => ?_)
  show _ = augR i env2 (g [u, y])
  cases g [u, y] <;> rfl
def ownR : Option (Option D) → Option (List D)
  | some (some (.lst true xs)) => some xs
  | _ => none
theorem e_own (env : Tw.Env) (i : Nat) : ownAt env i = ownR env[i]? := by
  unfold ownAt ownR
  cases env[i]? with
  | none => rfl
  | some o => cases o with
    | none => rfl
    | some d => cases d with
      | lst m xs => cases m <;> rfl
      | _ => rfl
theorem e_ownR (xs : List D) : ownR (some (some (.lst true xs))) = some xs := (rfl)
def stR2 (i : Nat) (env : Tw.Env) (xs : List D) (d : D) : Option Nat → Out
  | some j => .next (env.set i (some (.lst true (xs.set j d))))
  | none => .stuck
theorem e_stR2 (i : Nat) (env : Tw.Env) (xs : List D) (d : D) (j : Nat) : stR2 i env xs d (some j) = .next (env.set i (some (.lst true (xs.set j d)))) := (rfl)
def stR3 (i : Nat) (env : Tw.Env) (d : D) (k : Option Int) : Option (List D) → Out
  | some ds => match k with
    | some z => if D.oks ds && D.ok d then stR2 i env ds d (ixN ds.length z) else .stuck
    | none => .stuck
  | none => .stuck
theorem e_stR3 (i : Nat) (env : Tw.Env) (d : D) (z : Int) (ds : List D) : stR3 i env d (some z) (some ds) = if D.oks ds && D.ok d then stR2 i env ds d (ixN ds.length z) else .stuck := (rfl)
def k_stR (i : Nat) (d : D) : D → Tw.Env → Out := fun k env2 => stR3 i env2 d (D.asI k) (ownAt env2 i)
theorem e_kstR (i : Nat) (d k : D) (env2 : Tw.Env) : k_stR i d k env2 = stR3 i env2 d (D.asI k) (ownAt env2 i) := (rfl)
def stR (i : Nat) (fi : Ev) (d : D) (env : Tw.Env) : Option (List D) → Out
  | some _ => sBind (fi env) (k_stR i d)
  | none => .stuck
theorem e_stR (i : Nat) (fi : Ev) (d : D) (env : Tw.Env) (xs : List D) : stR i fi d env (some xs) = sBind (fi env) (k_stR i d) := (rfl)
def k_sStore (i : Nat) (fi : Ev) : D → Tw.Env → Out := fun d env1 => stR i fi d env1 (ownAt env1 i)
theorem e_ksStore (i : Nat) (fi : Ev) (d : D) (env1 : Tw.Env) : k_sStore i fi d env1 = stR i fi d env1 (ownAt env1 i) := (rfl)
theorem e_sStore (i : Nat) (fi f : Ev) (env : Tw.Env) : sStore i fi f env = sBind (f env) (k_sStore i fi) := by
  unfold sStore
  refine congrArg _ (funext fun d => funext fun env1 => ?_)
  show _ = stR i fi d env1 (ownAt env1 i)
  cases ownAt env1 i with
  | none => rfl
  | some _ =>
    show sBind _ _ = sBind _ _
    refine congrArg _ (funext fun k => funext fun env2 => ?_)
    show _ = stR3 i env2 d (D.asI k) (ownAt env2 i)
    cases D.asI k with
    | none => cases ownAt env2 i <;> rfl
    | some z =>
      simp only [Option.bind_some]
      cases ownAt env2 i with
      | none => rfl
      | some ds =>
        simp only [Option.bind_some, stR3]
        by_cases c : (D.oks ds && D.ok d) = true
        · simp only [c, if_true]
          cases ixN ds.length z <;> rfl
        · simp only [c, Bool.false_eq_true, if_false]
def m1R (i : Nat) (env : Tw.Env) : Option (D × List D) → Rs D
  | some q => .ok q.1 (env.set i (some (.lst true q.2)))
  | none => .stuck
theorem e_m1R (i : Nat) (env : Tw.Env) (q : D × List D) : m1R i env (some q) = .ok q.1 (env.set i (some (.lst true q.2))) := (rfl)
def m1S (i : Nat) (gm : List D → D → Option (D × List D)) (y : D) (env : Tw.Env) : Option (List D) → Rs D
  | some ds => m1R i env (gm ds y)
  | none => .stuck
theorem e_m1S (i : Nat) (gm : List D → D → Option (D × List D)) (y : D) (env : Tw.Env) (ds : List D) : m1S i gm y env (some ds) = m1R i env (gm ds y) := (rfl)
def k_m1T (i : Nat) (gm : List D → D → Option (D × List D)) : D → Tw.Env → Rs D := fun y env1 => m1S i gm y env1 (ownAt env1 i)
theorem e_km1T (i : Nat) (gm : List D → D → Option (D × List D)) (y : D) (env1 : Tw.Env) : k_m1T i gm y env1 = m1S i gm y env1 (ownAt env1 i) := (rfl)
def m1T (i : Nat) (gm : List D → D → Option (D × List D)) (f : Ev) (env : Tw.Env) : Option (List D) → Rs D
  | some _ => (f env).bind (k_m1T i gm)
  | none => .stuck
theorem e_m1T (i : Nat) (gm : List D → D → Option (D × List D)) (f : Ev) (env : Tw.Env) (ds : List D) : m1T i gm f env (some ds) = (f env).bind (k_m1T i gm) := (rfl)
theorem e_mt1 (i : Nat) (gm : List D → D → Option (D × List D)) (f : Ev) (env : Tw.Env) : fMt1 i gm f env = m1T i gm f env (ownAt env i) := by
  unfold fMt1 m1T
  cases ownAt env i with
  | none => rfl
  | some _ =>
    show Rs.bind _ _ = Rs.bind _ _
    refine congrArg _ (funext fun y => funext fun env1 => ?_)
    show _ = m1S i gm y env1 (ownAt env1 i)
    cases ownAt env1 i with
    | none => rfl
    | some ds => show _ = m1R i env1 (gm ds y); simp only [Option.bind_some]; cases gm ds y <;> rfl
def m0S (i : Nat) (gm : List D → Option (D × List D)) (env : Tw.Env) : Option (List D) → Rs D
  | some ds => m1R i env (gm ds)
  | none => .stuck
theorem e_m0S (i : Nat) (gm : List D → Option (D × List D)) (env : Tw.Env) (ds : List D) : m0S i gm env (some ds) = m1R i env (gm ds) := (rfl)
theorem e_mt0 (i : Nat) (gm : List D → Option (D × List D)) (env : Tw.Env) : fMt0 i gm env = m0S i gm env (ownAt env i) := by
  unfold fMt0 m0S
  cases ownAt env i with
  | none => rfl
  | some ds => show _ = m1R i env (gm ds); simp only [Option.bind_some]; cases gm ds <;> rfl
/-! whole defs -/
def rtN (d : D) : Option (List D) → Rf
  | some ios => .ret d ios
  | none => .stuck
theorem e_rtN (d : D) (ios : List D) : rtN d (some ios) = .ret d ios := (rfl)
def rtE (c : Nat) (ns : List Str) (es : List D) : Option (List D) → Rf
  | some ios => .exc c ns es ios
  | none => .stuck
def rtR (io : List Nat) : Out → Rf
  | .next env => rtN .non (ioOf io env)
  | .ret d env => rtN d (ioOf io env)
  | .exc c ns es env => rtE c ns es (ioOf io env)
  | _ => .stuck
theorem e_run (n : Nat) (io : List Nat) (g : Sv) (ds : List D) : runB n io g ds = rtR io (g (ds.map some ++ List.replicate (n - ds.length) none)) := by
  unfold runB
  generalize g (ds.map some ++ List.replicate (n - ds.length) none) = o
  cases o with
  | next env => show (match ioOf io env with | some ios => _ | none => _) = rtN .non (ioOf io env); cases ioOf io env <;> rfl
  | ret d env => show (match ioOf io env with | some ios => _ | none => _) = rtN d (ioOf io env); cases ioOf io env <;> rfl
  | exc c ns es env => show (match ioOf io env with | some ios => _ | none => _) = rtE c ns es (ioOf io env); cases ioOf io env <;> rfl
  | _ => rfl
theorem e_rtR (io : List Nat) (d : D) (env : Tw.Env) : rtR io (.ret d env) = rtN d (ioOf io env) := (rfl)
theorem e_rtX (io : List Nat) (env : Tw.Env) : rtR io (.next env) = rtN .non (ioOf io env) := (rfl)
theorem e_io_nil (env : Tw.Env) : ioOf [] env = some [] := (rfl)
def ioR1 : Option (Option D) → Option (List D)
  | some (some d) => some [d]
  | _ => none
theorem e_io_one (i : Nat) (env : Tw.Env) : ioOf [i] env = ioR1 env[i]? := by
  unfold ioOf ioR1
  simp only [List.mapM_cons, List.mapM_nil]
  cases env[i]? with
  | none => rfl
  | some o => cases o <;> rfl
theorem e_ioR1 (d : D) : ioR1 (some (some d)) = some [d] := (rfl)
def coR2 (neg : Bool) (n i j : Nat) (env : Tw.Env) : Rf → Rs D
  | .ret (.bl k) [] => if i = n ∧ j = n then .ok (.bl (if neg then !k else k)) env else .stuck
  | _ => .stuck
theorem e_coR2 (neg : Bool) (n i j : Nat) (env : Tw.Env) (k : Bool) : coR2 neg n i j env (.ret (.bl k) []) = if i = n ∧ j = n then .ok (.bl (if neg then !k else k)) env else .stuck := (rfl)
/-! walks -/
def itR (env : Tw.Env) : Option (List D) → Rs (List D)
  | some xs => .ok xs env
  | none => .stuck
theorem e_itR (env : Tw.Env) (xs : List D) : itR env (some xs) = .ok xs env := (rfl)
def k_iSeq  : D → Tw.Env → Rs (List D) := fun d env1 => itR env1 (D.items d)
theorem e_kiSeq  (d : D) (env1 : Tw.Env) : k_iSeq  d env1 = itR env1 (D.items d) := (rfl)
theorem e_iSeq (f : Ev) (env : Tw.Env) : iSeq f env = (f env).bind k_iSeq := by
  unfold iSeq
  refine congrArg _ (funext fun d => funext fun env1 => ?_)
  show _ = itR env1 (D.items d)
  cases D.items d <;> rfl
def rgR (env : Tw.Env) : Option (Int × Nat) → Rs (List D)
  | some q => .ok (rngD q.1 q.2) env
  | none => .stuck
theorem e_rgR (env : Tw.Env) (q : Int × Nat) : rgR env (some q) = .ok (rngD q.1 q.2) env := (rfl)
def k_iRng  : List D → Tw.Env → Rs (List D) := fun ds env1 => rgR env1 ((D.ints ds).bind rngOf)
theorem e_kiRng  (ds : List D) (env1 : Tw.Env) : k_iRng  ds env1 = rgR env1 ((D.ints ds).bind rngOf) := (rfl)
theorem e_iRng (os : List Ev) (env : Tw.Env) : iRng os env = (evs (vals os) env).bind k_iRng := by
  unfold iRng
  refine congrArg _ (funext fun d => funext fun env1 => ?_)
  show _ = rgR env1 ((D.ints d).bind rngOf)
  cases (D.ints d).bind rngOf <;> rfl
def zpR (env : Tw.Env) : Option (Bool × List D × List D) → Rs (List D)
  | some q => .ok (zipD q.2.1 q.2.2) env
  | none => .stuck
theorem e_zpR (env : Tw.Env) (q : Bool × List D × List D) : zpR env (some q) = .ok (zipD q.2.1 q.2.2) env := (rfl)
def k_iZip  : List D → Tw.Env → Rs (List D) := fun ds env1 => zpR env1 (zipOf ds)
theorem e_kiZip  (ds : List D) (env1 : Tw.Env) : k_iZip  ds env1 = zpR env1 (zipOf ds) := (rfl)
theorem e_iZip (os : List Ev) (env : Tw.Env) : iZip os env = (evs (vals os) env).bind k_iZip := by
  unfold iZip
  refine congrArg _ (funext fun d => funext fun env1 => ?_)
  show _ = zpR env1 (zipOf d)
  cases zipOf d <;> rfl
def k_cp3 : List D → Tw.Env → Rs D := fun ds env2 => .ok (.lst true ds) env2
theorem e_kcp3 (ds : List D) (env2 : Tw.Env) : k_cp3 ds env2 = .ok (.lst true ds) env2 := (rfl)
def k_comp (vs : List Nat) (b : Bd) (t : EvB) (f : Ev) : List D → Tw.Env → Rs D := fun items env1 => if lenOk items.length then (compGo vs b t f items [] (wipeE env1 vs)).bind k_cp3 else .stuck
theorem e_kcomp (vs : List Nat) (b : Bd) (t : EvB) (f : Ev) (items : List D) (env1 : Tw.Env) : k_comp vs b t f items env1 = if lenOk items.length then (compGo vs b t f items [] (wipeE env1 vs)).bind k_cp3 else .stuck := (rfl)
theorem e_comp (vs : List Nat) (fi : Tw.Env → Rs (List D)) (b : Bd) (t : EvB) (f : Ev) (env : Tw.Env) : fComp vs fi b t f env = (fi env).bind (k_comp vs b t f) := (rfl)
def k_comp2 (vs vs1 : List Nat) (b : Bd) (t : EvB) (fi1 : Tw.Env → Rs (List D)) (b1 : Bd) (t1 : EvB) (f : Ev) : List D → Tw.Env → Rs D := fun items env1 => (comp2Go vs vs1 b t fi1 b1 t1 f items [] (wipeE env1 vs)).bind k_cp3
theorem e_kcomp2 (vs vs1 : List Nat) (b : Bd) (t : EvB) (fi1 : Tw.Env → Rs (List D)) (b1 : Bd) (t1 : EvB) (f : Ev) (items : List D) (env1 : Tw.Env) : k_comp2 vs vs1 b t fi1 b1 t1 f items env1 = (comp2Go vs vs1 b t fi1 b1 t1 f items [] (wipeE env1 vs)).bind k_cp3 := (rfl)
theorem e_comp2 (vs vs1 : List Nat) (fi : Tw.Env → Rs (List D)) (b : Bd) (t : EvB) (fi1 : Tw.Env → Rs (List D)) (b1 : Bd) (t1 : EvB) (f : Ev) (env : Tw.Env) : fComp2 vs vs1 fi b t fi1 b1 t1 f env = (fi env).bind (k_comp2 vs vs1 b t fi1 b1 t1 f) := (rfl)
/-- comparison by an own __eq__ -/
def coR (neg : Bool) (n : Nat) (env : Tw.Env) (r : Rf) : Option Tg → Option Tg → Rs D
  | some (.cl i), some (.cl j) => coR2 neg n i j env r
  | _, _ => .stuck
theorem e_coR (neg : Bool) (n : Nat) (env : Tw.Env) (r : Rf) (i j : Nat) : coR neg n env r (some (.cl i)) (some (.cl j)) = coR2 neg n i j env r := (rfl)
def k_co2 (neg : Bool) (n : Nat) (h : List D → Rf) (x : D) : D → Tw.Env → Rs D := fun y env2 => coR neg n env2 (h [x, y]) (D.tag x) (D.tag y)
theorem e_kco2 (neg : Bool) (n : Nat) (h : List D → Rf) (x y : D) (env2 : Tw.Env) : k_co2 neg n h x y env2 = coR neg n env2 (h [x, y]) (D.tag x) (D.tag y) := (rfl)
def k_co (neg : Bool) (n : Nat) (h : List D → Rf) (fb : Ev) : D → Tw.Env → Rs D := fun x env1 => (fb env1).bind (k_co2 neg n h x)
theorem e_kco (neg : Bool) (n : Nat) (h : List D → Rf) (fb : Ev) (x : D) (env1 : Tw.Env) : k_co neg n h fb x env1 = (fb env1).bind (k_co2 neg n h x) := (rfl)
theorem e_co (neg : Bool) (n : Nat) (h : List D → Rf) (fa fb : Ev) (env : Tw.Env) : fCmpO neg n h fa fb env = (fa env).bind (k_co neg n h fb) := by
  unfold fCmpO
  refine congrArg _ (funext fun x => funext fun env1 => ?_)
  show Rs.bind _ _ = Rs.bind _ _
  refine congrArg _ (funext fun y => funext fun env2 => ?_)
  show _ = coR neg n env2 (h [x, y]) (D.tag x) (D.tag y)
  cases D.tag x with
  | none => rfl
  | some t => cases t with
    | ty _ => rfl
    | cl i => cases D.tag y with
      | none => rfl
      | some u => cases u with
        | ty _ => rfl
        | cl j =>
          show _ = coR2 neg n i j env2 (h [x, y])
          cases h [x, y] with
          | ret d ios => cases d with
            | bl k => cases ios <;> rfl
            | _ => rfl
          | _ => rfl
theorem e_wipe0 (env : Tw.Env) : wipeE env [] = env := (rfl)
theorem e_wipe1 (env : Tw.Env) (v : Nat) (vs : List Nat) : wipeE env (v :: vs) = (wipeE env vs).set v none := (rfl)
theorem e_bTp (r : List D → Tw.Env → Option Tw.Env) (ds : List D) (env : Tw.Env) : bTp r (.tup ds) env = r ds env := (rfl)
theorem e_bTp2 (r : List D → Tw.Env → Option Tw.Env) (ds : List D) (env : Tw.Env) : bTp r (.pr ds) env = r ds env := (rfl)
theorem e_bNil (env : Tw.Env) : bNil [] env = some env := (rfl)
theorem e_bCons (b : Bd) (r : List D → Tw.Env → Option Tw.Env) (d : D) (ds : List D) (env : Tw.Env) : bCons b r (d :: ds) env = (b d env).bind fun env1 => r ds env1 := (rfl)
/-! objects -/
def mkR (env : Tw.Env) : Rf → Rs D
  | .ret .non [z] => .ok z env
  | .exc c ns es _ => .exc c ns es env
  | _ => .stuck
theorem e_mkR (env : Tw.Env) (z : D) : mkR env (.ret .non [z]) = .ok z env := (rfl)
def k_make (n : Nat) (h : List D → Rf) : List D → Tw.Env → Rs D := fun ds env1 => mkR env1 (h (.obj true n [] [] :: ds))
theorem e_kmake (n : Nat) (h : List D → Rf) (ds : List D) (env1 : Tw.Env) : k_make n h ds env1 = mkR env1 (h (.obj true n [] [] :: ds)) := (rfl)
theorem e_make (n : Nat) (h : List D → Rf) (fs : List Ev) (env : Tw.Env) : fMake n h fs env = (evs (vals fs) env).bind (k_make n h) := by
  unfold fMake
  refine congrArg _ (funext fun ds => funext fun env1 => ?_)
  show _ = mkR env1 (h (.obj true n [] [] :: ds))
  cases h (.obj true n [] [] :: ds) with
  | ret d ios => cases d <;> (match ios with | [] => rfl | [_] => rfl | _ :: _ :: _ => rfl)
  | _ => rfl
def fsR (i : Nat) (own : Nat → Bool) (f : Str) (d : D) (env : Tw.Env) : Option (Nat × List Str × List D) → Out
  | some q => if own q.1 && decide (q.2.1.length = q.2.2.length) && decide (q.2.1.length < 1000) && oldOk f q.2.1 q.2.2 then .next (env.set i (some (.obj true q.1 (putN f q.2.1) (putD f d q.2.1 q.2.2)))) else .stuck
  | none => .stuck
def k_fset (i : Nat) (own : Nat → Bool) (f : Str) : D → Tw.Env → Out := fun d env1 => fsR i own f d env1 (ownOAt env1 i)
theorem e_kfset (i : Nat) (own : Nat → Bool) (f : Str) (d : D) (env1 : Tw.Env) : k_fset i own f d env1 = fsR i own f d env1 (ownOAt env1 i) := (rfl)
theorem e_fset (i : Nat) (own : Nat → Bool) (f : Str) (fe : Ev) (env : Tw.Env) : sFSet i own f fe env = sBind (fe env) (k_fset i own f) := by
  unfold sFSet
  refine congrArg _ (funext fun d => funext fun env1 => ?_)
  show _ = fsR i own f d env1 (ownOAt env1 i)
  cases ownOAt env1 i <;> rfl
theorem e_fsR (i : Nat) (own : Nat → Bool) (f : Str) (d : D) (env : Tw.Env) (q : Nat × List Str × List D) : fsR i own f d env (some q) = if own q.1 && decide (q.2.1.length = q.2.2.length) && decide (q.2.1.length < 1000) && oldOk f q.2.1 q.2.2 then .next (env.set i (some (.obj true q.1 (putN f q.2.1) (putD f d q.2.1 q.2.2)))) else .stuck := (rfl)
def ooR : Option (Option D) → Option (Nat × List Str × List D)
  | some (some (.obj true c ns ds)) => some (c, ns, ds)
  | _ => none
theorem e_oo (env : Tw.Env) (i : Nat) : ownOAt env i = ooR env[i]? := by
  unfold ownOAt ooR
  cases env[i]? with
  | none => rfl
  | some o => cases o with
    | none => rfl
    | some d => cases d with
      | obj m c ns xs => cases m <;> rfl
      | _ => rfl
theorem e_ooR (c : Nat) (ns : List Str) (ds : List D) : ooR (some (some (.obj true c ns ds))) = some (c, ns, ds) := (rfl)
/-! values -/
theorem e_i2 (f : Int → Int → Option D) (i j : Int) : gInt2 f [.int i, .int j] = f i j := (rfl)
theorem e_i1 (f : Int → D) (i : Int) : gInt1 f [.int i] = some (f i) := (rfl)
theorem e_bok {α β : Type} (a : α) (e : Tw.Env) (k : α → Tw.Env → Rs β) : Rs.bind (.ok a e) k = k a e := (rfl)
theorem e_sbok {α : Type} (a : α) (e : Tw.Env) (k : α → Tw.Env → Out) : sBind (.ok a e) k = k a e := (rfl)
theorem tru_non : D.tru .non = some false := (rfl)
theorem tru_bl (b : Bool) : D.tru (.bl b) = some b := (rfl)
theorem tru_int (i : Int) : D.tru (.int i) = some (i != 0) := (rfl)
theorem tru_tup (xs : List D) : D.tru (.tup xs) = some (!xs.isEmpty) := (rfl)
theorem tru_lst (m : Bool) (xs : List D) : D.tru (.lst m xs) = some (!xs.isEmpty) := (rfl)
theorem asI_int (i : Int) : D.asI (.int i) = some i := (rfl)
theorem ints_nil : D.ints [] = some [] := (rfl)
theorem ints_cons (d : D) (ds : List D) : D.ints (d :: ds) = (D.asI d).bind fun i => (D.ints ds).map (i :: ·) := (rfl)
theorem items_lst (m : Bool) (xs : List D) : D.items (.lst m xs) = if D.oks xs then some xs else none := (rfl)
theorem items_str (x : Str) : D.items (.str x) = some (signs x) := (rfl)
theorem items_tup (xs : List D) : D.items (.tup xs) = if D.oks xs then some xs else none := (rfl)
theorem seqK_lst (m : Bool) (xs : List D) : D.seqK (.lst m xs) = if D.oks xs then some (false, xs) else none := (rfl)
theorem seqK_tup (xs : List D) : D.seqK (.tup xs) = if D.oks xs then some (true, xs) else none := (rfl)
theorem isN_int (i : Int) : gIsN [.int i, .non] = some (.bl false) := (rfl)
theorem isN_non : gIsN [.non, .non] = some (.bl true) := (rfl)
theorem isN_tup (xs : List D) : gIsN [.tup xs, .non] = some (.bl false) := (rfl)
theorem notN_int (i : Int) : gNotN [.int i, .non] = some (.bl true) := (rfl)
theorem notN_non : gNotN [.non, .non] = some (.bl false) := (rfl)
theorem notN_tup (xs : List D) : gNotN [.tup xs, .non] = some (.bl true) := (rfl)
theorem mul_int (i j : Int) : gMul [.int i, .int j] = if CMul i j then some (.int (i * j)) else none := (rfl)
theorem add_int (i j : Int) : gAdd [.int i, .int j] = some (.int (i + j)) := (rfl)
theorem sub_int (i j : Int) : Tw.gSub [.int i, .int j] = some (.int (i - j)) := (rfl)
theorem fdiv_int (i j : Int) : gFdiv [.int i, .int j] = if CDivN i j then some (.int (i.fdiv j)) else none := (rfl)
theorem mod_int (i j : Int) : gMod [.int i, .int j] = if j ≠ 0 then some (.int (i.fmod j)) else none := (rfl)
theorem pow_int (i j : Int) : gPow [.int i, .int j] = if CPow i j then some (.int (i ^ j.toNat)) else none := (rfl)
theorem lt_str (i j : Str) : gLt [.str i, .str j] = some (.bl (sLt i j)) := (rfl)
theorem le_str (i j : Str) : gLe [.str i, .str j] = some (.bl (!sLt j i)) := (rfl)
theorem lt_int (i j : Int) : gLt [.int i, .int j] = some (.bl (decide (i < j))) := (rfl)
theorem le_int (i j : Int) : gLe [.int i, .int j] = some (.bl (decide (i ≤ j))) := (rfl)
theorem gt_int (i j : Int) : gGt [.int i, .int j] = some (.bl (decide (j < i))) := (rfl)
theorem ge_int (i j : Int) : gGe [.int i, .int j] = some (.bl (decide (j ≤ i))) := (rfl)
theorem neg_int (i : Int) : gNeg [.int i] = some (.int (-i)) := (rfl)
theorem imul_int (i j : Int) : gIMul [.int i, .int j] = if CMul i j then some (.int (i * j)) else none := (rfl)
theorem iadd_int (i j : Int) : gIAdd [.int i, .int j] = some (.int (i + j)) := (rfl)
theorem len_lst (m : Bool) (xs : List D) : gLen [.lst m xs] = some (.int xs.length) := (rfl)
theorem len_tup (xs : List D) : gLen [.tup xs] = some (.int xs.length) := (rfl)
theorem ix_lst (m : Bool) (xs : List D) (i : Int) : gIx [.lst m xs, .int i] = (atI xs i).bind fun d => if D.oks xs then some d else none := (rfl)
theorem ix_tup (xs : List D) (i : Int) : gIx [.tup xs, .int i] = (atI xs i).bind fun d => if D.oks xs then some d else none := (rfl)
theorem tuple_lst (m : Bool) (xs : List D) : gTuple [.lst m xs] = if D.oks xs then some (.tup xs) else none := (rfl)
theorem tuple_tup (xs : List D) : gTuple [.tup xs] = if D.oks xs then some (.tup xs) else none := (rfl)
theorem list_lst (m : Bool) (xs : List D) : gList [.lst m xs] = if D.oks xs then some (.lst true xs) else none := (rfl)
theorem list_scr (ns : List Int) : gList [.scr ns] = some (.lst true (ns.map .int)) := (rfl)
theorem list_tup (xs : List D) : gList [.tup xs] = if D.oks xs then some (.lst true xs) else none := (rfl)
theorem abs_int (i : Int) : gAbs [.int i] = some (.int (if i < 0 then -i else i)) := (rfl)
theorem intC_int (i : Int) : gIntC [.int i] = some (.int i) := (rfl)
theorem intC_bl (k : Bool) : gIntC [.bl k] = some (.int (if k then 1 else 0)) := (rfl)
theorem all_lst (m : Bool) (xs : List D) : gAll [.lst m xs] = (D.bools xs).map fun bs => .bl (bs.all id) := (rfl)
theorem any_lst (m : Bool) (xs : List D) : gAny [.lst m xs] = (D.bools xs).map fun bs => .bl (bs.any id) := (rfl)
theorem isi_2 (isa : Tg → Tg → Option Bool) (a b : D) : gIsi isa [a, b] = (D.tag a).bind fun t => (D.asT b).bind fun u => (isa t u).map .bl := (rfl)
theorem tag_non : D.tag .non = some (.ty "NoneType") := (rfl)
theorem tag_bl (b : Bool) : D.tag (.bl b) = some (.ty "bool") := (rfl)
theorem tag_int (i : Int) : D.tag (.int i) = some (.ty "int") := (rfl)
theorem tag_str (x : Str) : D.tag (.str x) = some (.ty "str") := (rfl)
theorem tag_tup (xs : List D) : D.tag (.tup xs) = some (.ty "tuple") := (rfl)
theorem tag_lst (m : Bool) (xs : List D) : D.tag (.lst m xs) = some (.ty "list") := (rfl)
theorem tag_obj (m : Bool) (c : Nat) (ns : List Str) (ds : List D) : D.tag (.obj m c ns ds) = some (.cl c) := (rfl)
theorem asT_ty (n : String) : D.asT (.ty n) = some (.ty n) := (rfl)
theorem asT_cl (c : Nat) : D.asT (.cl c) = some (.cl c) := (rfl)
theorem frz_int (i : Int) : D.frz (.int i) = .int i := (rfl)
theorem frz_bl (b : Bool) : D.frz (.bl b) = .bl b := (rfl)
theorem frz_non : D.frz .non = .non := (rfl)
theorem frz_ty (n : String) : D.frz (.ty n) = .ty n := (rfl)
theorem frz_cl (n : Nat) : D.frz (.cl n) = .cl n := (rfl)
theorem frz_scr (ns : List Int) : D.frz (.scr ns) = .scr ns := (rfl)
theorem frz_tup (xs : List D) : D.frz (.tup xs) = .tup (D.frzs xs) := (rfl)
theorem frz_lst (m : Bool) (xs : List D) : D.frz (.lst m xs) = .lst false (D.frzs xs) := (rfl)
theorem frz_obj (m : Bool) (c : Nat) (ns : List Str) (xs : List D) : D.frz (.obj m c ns xs) = .obj false c ns (D.frzs xs) := (rfl)
theorem frzs_nil : D.frzs [] = [] := (rfl)
theorem frzs_cons (d : D) (ds : List D) : D.frzs (d :: ds) = D.frz d :: D.frzs ds := (rfl)
theorem ok_int (i : Int) : D.ok (.int i) = true := (rfl)
theorem ok_bl (b : Bool) : D.ok (.bl b) = true := (rfl)
theorem ok_non : D.ok .non = true := (rfl)
theorem ok_tup (xs : List D) : D.ok (.tup xs) = D.oks xs := (rfl)
theorem ok_lst (xs : List D) : D.ok (.lst false xs) = D.oks xs := by simp [D.ok]
theorem ok_obj (c : Nat) (ns : List Str) (xs : List D) : D.ok (.obj false c ns xs) = D.oks xs := by simp [D.ok]
theorem doks_nil : D.oks [] = true := (rfl)
theorem doks_cons (d : D) (ds : List D) : D.oks (d :: ds) = (D.ok d && D.oks ds) := (rfl)
theorem sl_scr (ns : List Int) (lo hi : Option Int) : gSl (.scr ns) lo hi = some (.lst true ((cutD ns lo hi).map .int)) := (rfl)
theorem sl_lst (m : Bool) (xs : List D) (lo hi : Option Int) : gSl (.lst m xs) lo hi = if D.oks xs then some (.lst true (cutD xs lo hi)) else none := (rfl)
theorem sl_tup (xs : List D) (lo hi : Option Int) : gSl (.tup xs) lo hi = if D.oks xs then some (.tup (cutD xs lo hi)) else none := (rfl)
theorem rev_lst (m : Bool) (xs : List D) : gRev (.lst m xs) = if D.oks xs then some (.lst true xs.reverse) else none := (rfl)
theorem rev_tup (xs : List D) : gRev (.tup xs) = if D.oks xs then some (.tup xs.reverse) else none := (rfl)
theorem eq_2 (a b : D) : gEq [a, b] = (D.py a).bind fun p => (D.py b).bind fun q => if SeqAt.shaped p && SeqAt.shaped q then some (.bl (PyData.eqv p q)) else none := (rfl)
theorem ne_2 (a b : D) : gNe [a, b] = (D.py a).bind fun p => (D.py b).bind fun q => if SeqAt.shaped p && SeqAt.shaped q then some (.bl (!PyData.eqv p q)) else none := (rfl)
theorem eq_int (i j : Int) : gEq [.int i, .int j] = some (.bl (decide (i = j))) := by
  show (if (SeqAt.shaped (.int i) && SeqAt.shaped (.int j)) = true then some (D.bl (PyData.eqv (.int i) (.int j))) else none) = _
  have h : ∀ i, SeqAt.shaped (PyData.int i) = true := fun i => rfl
  rw [h, h, Bool.and_self, if_pos rfl]
  rfl
theorem ne_int (i j : Int) : gNe [.int i, .int j] = some (.bl (!decide (i = j))) := by
  show (if (SeqAt.shaped (.int i) && SeqAt.shaped (.int j)) = true then some (D.bl (!PyData.eqv (.int i) (.int j))) else none) = _
  have h : ∀ i, SeqAt.shaped (PyData.int i) = true := fun i => rfl
  rw [h, h, Bool.and_self, if_pos rfl]
  rfl
/-- a tuple of whole numbers -/
def tII (ns : List Int) : D := .tup (ns.map .int)
theorem oks_int (ns : List Int) : D.oks (ns.map .int) = true := by
  rw [D.oks_iff]; intro d h; obtain ⟨i, _, rfl⟩ := List.mem_map.mp h; rfl
theorem frzs_int (ns : List Int) : D.frzs (ns.map .int) = ns.map .int := D.frzs_ok (oks_int ns)
theorem ok_tI (ns : List Int) : D.ok (D.tup (ns.map .int)) = true := oks_int ns
theorem frz_tI (ns : List Int) : D.frz (.tup (ns.map .int)) = .tup (ns.map .int) := D.frz_ok (ok_tI ns)
theorem oks_tI (ls : List (List Int)) : D.oks (ls.map fun ns => .tup (ns.map .int)) = true := by
  rw [D.oks_iff]; intro d h; obtain ⟨i, _, rfl⟩ := List.mem_map.mp h; exact ok_tI i
end Tw
noncomputable section
namespace Tw
open PySem PySem.Spec PyProof.Rows L2
/-! ### loops and comprehensions, reckoned -/
def fgS (bd : Bd) (body : Sv) (ds : List D) : Out → Out
  | .next env2 => forGo bd body ds env2
  | .cont env2 => forGo bd body ds env2
  | .brk env2 => .next env2
  | o => o
theorem e_fgN (bd : Bd) (body : Sv) (ds : List D) (env : Tw.Env) : fgS bd body ds (.next env) = forGo bd body ds env := (rfl)
theorem e_fgC (bd : Bd) (body : Sv) (ds : List D) (env : Tw.Env) : fgS bd body ds (.cont env) = forGo bd body ds env := (rfl)
theorem e_fgB (bd : Bd) (body : Sv) (ds : List D) (env : Tw.Env) : fgS bd body ds (.brk env) = .next env := (rfl)
theorem e_fgRt (bd : Bd) (body : Sv) (ds : List D) (d : D) (env : Tw.Env) : fgS bd body ds (.ret d env) = .ret d env := (rfl)
def fgR (bd : Bd) (body : Sv) (ds : List D) : Option Tw.Env → Out
  | some env1 => fgS bd body ds (body env1)
  | none => .stuck
theorem e_fgR (bd : Bd) (body : Sv) (ds : List D) (env : Tw.Env) : fgR bd body ds (some env) = fgS bd body ds (body env) := (rfl)
theorem e_for0 (bd : Bd) (body : Sv) (env : Tw.Env) : forGo bd body [] env = .next env := (rfl)
theorem e_for1 (bd : Bd) (body : Sv) (d : D) (ds : List D) (env : Tw.Env) : forGo bd body (d :: ds) env = fgR bd body ds (bd d env) := by
  show (match bd d env with | none => _ | some env1 => _) = _
  cases bd d env with
  | none => rfl
  | some env1 =>
    show (match body env1 with | .next env2 => _ | .cont env2 => _ | .brk env2 => _ | o => o) = fgS bd body ds (body env1)
    cases body env1 <;> rfl
theorem for_ind {α : Type} {bd : Bd} {body : Sv} {g : α → D} (I : Nat → Tw.Env → Prop) : ∀ (xs : List α) (n : Nat) (env : Tw.Env), I n env →
    (∀ i x env, xs[i]? = some x → I (n + i) env → ∃ env2, I (n + i + 1) env2 ∧ ∀ ds, forGo bd body (g x :: ds) env = forGo bd body ds env2) → ∃ env', I (n + xs.length) env' ∧ forGo bd body (xs.map g) env = .next env'
  | [], n, env, h0, _ => ⟨env, h0, rfl⟩
  | x :: xs, n, env, h0, h => by
    obtain ⟨env2, h1, e⟩ := h 0 x env rfl h0
    obtain ⟨env', h2, e2⟩ := for_ind I xs (n + 1) env2 h1 fun i y env3 hi hI => by
      obtain ⟨env4, h5, e5⟩ := h (i + 1) y env3 hi (by rw [show n + (i + 1) = n + 1 + i by omega]; exact hI)
      exact ⟨env4, by rw [show n + 1 + i + 1 = n + (i + 1) + 1 by omega]; exact h5, e5⟩
    refine ⟨env', by rw [List.length_cons, show n + (xs.length + 1) = n + 1 + xs.length by omega]; exact h2, ?_⟩
    rw [List.map_cons, e, e2]
/-- a loop whose each turn takes a state on -/
theorem for_fold {α β : Type} {bd : Bd} {body : Sv} {g : α → D} (E : β → Tw.Env → Prop) (step : β → α → β) (xs : List α) (b : β) (env : Tw.Env) (h0 : E b env)
    (h : ∀ x ∈ xs, ∀ b env, E b env → ∃ env2, E (step b x) env2 ∧ ∀ ds, forGo bd body (g x :: ds) env = forGo bd body ds env2) : ∃ env', E (xs.foldl step b) env' ∧ forGo bd body (xs.map g) env = .next env' := by
  induction xs generalizing b env with
  | nil => exact ⟨env, h0, rfl⟩
  | cons x xs ih =>
    obtain ⟨env2, h1, e⟩ := h x List.mem_cons_self b env h0
    obtain ⟨env', h2, e2⟩ := ih _ env2 h1 fun y hy => h y (List.mem_cons_of_mem _ hy)
    exact ⟨env', h2, by rw [List.map_cons, e, e2]⟩
/-- a loop that keeps a promise -/
theorem for_keep {α : Type} {bd : Bd} {body : Sv} {g : α → D} (E : Tw.Env → Prop) (xs : List α) (env : Tw.Env) (h0 : E env)
    (h : ∀ x ∈ xs, ∀ env, E env → ∃ env2, E env2 ∧ ∀ ds, forGo bd body (g x :: ds) env = forGo bd body ds env2) : ∃ env', E env' ∧ forGo bd body (xs.map g) env = .next env' := by
  obtain ⟨env', h1, h2⟩ := for_fold (β := Unit) (fun _ => E) (fun _ _ => ()) xs () env h0 fun x hx _ e he => h x hx e he
  exact ⟨env', h1, h2⟩
def cgF (vs : List Nat) (b : Bd) (t : EvB) (f : Ev) (ds acc : List D) : D → Tw.Env → Rs (List D) := fun y env3 => compGo vs b t f ds (acc ++ [y]) (wipeE env3 vs)
theorem e_cgF (vs : List Nat) (b : Bd) (t : EvB) (f : Ev) (ds acc : List D) (y : D) (env3 : Tw.Env) : cgF vs b t f ds acc y env3 = compGo vs b t f ds (acc ++ [y]) (wipeE env3 vs) := (rfl)
def cgT (vs : List Nat) (b : Bd) (t : EvB) (f : Ev) (ds acc : List D) : Bool → Tw.Env → Rs (List D) := fun k env2 => if k = true then (f env2).ne.bind (cgF vs b t f ds acc) else compGo vs b t f ds acc (wipeE env2 vs)
theorem e_cgT (vs : List Nat) (b : Bd) (t : EvB) (f : Ev) (ds acc : List D) (k : Bool) (env2 : Tw.Env) : cgT vs b t f ds acc k env2 = if k = true then (f env2).ne.bind (cgF vs b t f ds acc) else compGo vs b t f ds acc (wipeE env2 vs) := (rfl)
def cgR (vs : List Nat) (b : Bd) (t : EvB) (f : Ev) (ds acc : List D) : Option Tw.Env → Rs (List D)
  | some env1 => (t env1).ne.bind (cgT vs b t f ds acc)
  | none => .stuck
theorem e_cgR (vs : List Nat) (b : Bd) (t : EvB) (f : Ev) (ds acc : List D) (env1 : Tw.Env) : cgR vs b t f ds acc (some env1) = (t env1).ne.bind (cgT vs b t f ds acc) := (rfl)
theorem e_neo {α : Type} (a : α) (env : Tw.Env) : (Rs.ok a env).ne = .ok a env := (rfl)
theorem e_cg0 (vs : List Nat) (b : Bd) (t : EvB) (f : Ev) (acc : List D) (env : Tw.Env) : compGo vs b t f [] acc env = .ok acc env := (rfl)
theorem e_cg1 (vs : List Nat) (b : Bd) (t : EvB) (f : Ev) (d : D) (ds acc : List D) (env : Tw.Env) : compGo vs b t f (d :: ds) acc env = cgR vs b t f ds acc (b d env) := by
  show (match b d env with | none => _ | some env1 => _) = _
  cases b d env <;> rfl
theorem comp_map {α : Type} {vs : List Nat} {b : Bd} {t : EvB} {f : Ev} {g : α → D} {env : Tw.Env} (y : α → List D) : ∀ (xs : List α) (acc : List D), (∀ x ∈ xs, ∀ ds acc, compGo vs b t f (g x :: ds) acc env = compGo vs b t f ds (acc ++ y x) env) → compGo vs b t f (xs.map g) acc env = .ok (acc ++ xs.flatMap y) env
  | [], acc, _ => by simp [compGo]
  | x :: xs, acc, h => by
    rw [List.map_cons, h x List.mem_cons_self, comp_map y xs _ fun z hz => h z (List.mem_cons_of_mem _ hz), List.flatMap_cons, List.append_assoc]
theorem comp_map1 {α : Type} {vs : List Nat} {b : Bd} {t : EvB} {f : Ev} {g : α → D} {env : Tw.Env} (y : α → D) (xs : List α) (h : ∀ x ∈ xs, ∀ ds acc, compGo vs b t f (g x :: ds) acc env = compGo vs b t f ds (acc ++ [y x]) env) : compGo vs b t f (xs.map g) [] env = .ok (xs.map y) env := by
  rw [comp_map (fun x => [y x]) xs [] h, List.nil_append]
  congr 1
  induction xs with
  | nil => rfl
  | cons x xs ih => rw [List.flatMap_cons, ih fun z hz => h z (List.mem_cons_of_mem _ hz)]; rfl
def c2A (vs vs1 : List Nat) (b : Bd) (t : EvB) (fi1 : Tw.Env → Rs (List D)) (b1 : Bd) (t1 : EvB) (f : Ev) (ds : List D) : List D → Tw.Env → Rs (List D) := fun acc2 env4 => comp2Go vs vs1 b t fi1 b1 t1 f ds acc2 (wipeE env4 vs)
theorem e_c2A (vs vs1 : List Nat) (b : Bd) (t : EvB) (fi1 : Tw.Env → Rs (List D)) (b1 : Bd) (t1 : EvB) (f : Ev) (ds acc2 : List D) (env4 : Tw.Env) : c2A vs vs1 b t fi1 b1 t1 f ds acc2 env4 = comp2Go vs vs1 b t fi1 b1 t1 f ds acc2 (wipeE env4 vs) := (rfl)
def c2I (vs vs1 : List Nat) (b : Bd) (t : EvB) (fi1 : Tw.Env → Rs (List D)) (b1 : Bd) (t1 : EvB) (f : Ev) (ds acc : List D) : List D → Tw.Env → Rs (List D) := fun items1 env3 => if lenOk (acc.length + items1.length) then (compGo vs1 b1 t1 f items1 acc (wipeE env3 vs1)).bind (c2A vs vs1 b t fi1 b1 t1 f ds) else .stuck
theorem e_c2I (vs vs1 : List Nat) (b : Bd) (t : EvB) (fi1 : Tw.Env → Rs (List D)) (b1 : Bd) (t1 : EvB) (f : Ev) (ds acc items1 : List D) (env3 : Tw.Env) : c2I vs vs1 b t fi1 b1 t1 f ds acc items1 env3 = if lenOk (acc.length + items1.length) then (compGo vs1 b1 t1 f items1 acc (wipeE env3 vs1)).bind (c2A vs vs1 b t fi1 b1 t1 f ds) else .stuck := (rfl)
def c2T (vs vs1 : List Nat) (b : Bd) (t : EvB) (fi1 : Tw.Env → Rs (List D)) (b1 : Bd) (t1 : EvB) (f : Ev) (ds acc : List D) : Bool → Tw.Env → Rs (List D) := fun k env2 => if k = true then (fi1 env2).ne.bind (c2I vs vs1 b t fi1 b1 t1 f ds acc) else comp2Go vs vs1 b t fi1 b1 t1 f ds acc (wipeE env2 vs)
theorem e_c2T (vs vs1 : List Nat) (b : Bd) (t : EvB) (fi1 : Tw.Env → Rs (List D)) (b1 : Bd) (t1 : EvB) (f : Ev) (ds acc : List D) (k : Bool) (env2 : Tw.Env) : c2T vs vs1 b t fi1 b1 t1 f ds acc k env2 = if k = true then (fi1 env2).ne.bind (c2I vs vs1 b t fi1 b1 t1 f ds acc) else comp2Go vs vs1 b t fi1 b1 t1 f ds acc (wipeE env2 vs) := (rfl)
def c2R (vs vs1 : List Nat) (b : Bd) (t : EvB) (fi1 : Tw.Env → Rs (List D)) (b1 : Bd) (t1 : EvB) (f : Ev) (ds acc : List D) : Option Tw.Env → Rs (List D)
  | some env1 => (t env1).ne.bind (c2T vs vs1 b t fi1 b1 t1 f ds acc)
  | none => .stuck
theorem e_c2R (vs vs1 : List Nat) (b : Bd) (t : EvB) (fi1 : Tw.Env → Rs (List D)) (b1 : Bd) (t1 : EvB) (f : Ev) (ds acc : List D) (env1 : Tw.Env) : c2R vs vs1 b t fi1 b1 t1 f ds acc (some env1) = (t env1).ne.bind (c2T vs vs1 b t fi1 b1 t1 f ds acc) := (rfl)
theorem e_c20 (vs vs1 : List Nat) (b : Bd) (t : EvB) (fi1 : Tw.Env → Rs (List D)) (b1 : Bd) (t1 : EvB) (f : Ev) (acc : List D) (env : Tw.Env) : comp2Go vs vs1 b t fi1 b1 t1 f [] acc env = .ok acc env := (rfl)
theorem e_c21 (vs vs1 : List Nat) (b : Bd) (t : EvB) (fi1 : Tw.Env → Rs (List D)) (b1 : Bd) (t1 : EvB) (f : Ev) (d : D) (ds acc : List D) (env : Tw.Env) : comp2Go vs vs1 b t fi1 b1 t1 f (d :: ds) acc env = c2R vs vs1 b t fi1 b1 t1 f ds acc (b d env) := by
  show (match b d env with | none => _ | some env1 => _) = _
  cases b d env <;> rfl
theorem comp2_map {α : Type} {vs vs1 : List Nat} {b : Bd} {t : EvB} {fi1 : Tw.Env → Rs (List D)} {b1 : Bd} {t1 : EvB} {f : Ev} {g : α → D} {env : Tw.Env} (L : Nat) (y : α → List D) : ∀ (xs : List α) (acc : List D), acc.length + (xs.flatMap y).length ≤ L →
    (∀ x ∈ xs, ∀ ds acc, acc.length + (y x).length ≤ L → comp2Go vs vs1 b t fi1 b1 t1 f (g x :: ds) acc env = comp2Go vs vs1 b t fi1 b1 t1 f ds (acc ++ y x) env) → comp2Go vs vs1 b t fi1 b1 t1 f (xs.map g) acc env = .ok (acc ++ xs.flatMap y) env
  | [], acc, _, _ => by simp [comp2Go]
  | x :: xs, acc, hl, h => by
    rw [List.flatMap_cons, List.length_append] at hl
    rw [List.map_cons, h x List.mem_cons_self _ _ (by omega), comp2_map L y xs _ (by rw [List.length_append]; omega) fun z hz => h z (List.mem_cons_of_mem _ hz), List.flatMap_cons, List.append_assoc]
theorem lenOk_of {n : Nat} (h : n ≤ 16777216) : lenOk n = true := by
  unfold lenOk
  rw [sizeLine_eq]
  exact decide_eq_true h
/-! reckoning -/
theorem cm_lit (i j : Int) (h : -(2 ^ 64) < j ∧ j < 2 ^ 64) : CMul i j := .inr h
theorem cm_left (i j : Int) (h : -(2 ^ 64) < i ∧ i < 2 ^ 64) : CMul i j := .inl h
theorem cm_fm1 (a j : Int) : CMul (a.fmod 2147483647) j := .inl (by
  have h1 := Int.fmod_nonneg_of_pos a (show (0 : Int) < 2147483647 by decide)
  have h2 := Int.fmod_lt_of_pos a (show (0 : Int) < 2147483647 by decide)
  omega)
theorem cd_lit (i j : Int) (h : j ≠ 0 ∧ j.natAbs < 1073741824) : CDivN i j := h
theorem ints_map (ns : List Int) : D.ints (ns.map .int) = some ns := by
  induction ns with
  | nil => rfl
  | cons n ns ih => rw [List.map_cons, Tw.ints_cons, ih]; rfl
theorem atI_map {ns : List Int} {i : Int} (h0 : 0 ≤ i) (h1 : i < ns.length) : atI (ns.map D.int) i = some (.int (ns.getD i.toNat 0)) := by
  have hl : i.toNat < ns.length := by omega
  unfold atI ixN
  rw [List.length_map, if_pos h0, if_pos h1, Option.bind_some, List.getElem?_map, List.getElem?_eq_getElem hl, List.getD_eq_getElem?_getD, List.getElem?_eq_getElem hl]
  rfl
theorem at5_0 (a b c d e : D) : atI [a, b, c, d, e] 0 = some a := (rfl)
theorem at5_1 (a b c d e : D) : atI [a, b, c, d, e] 1 = some b := (rfl)
theorem at5_2 (a b c d e : D) : atI [a, b, c, d, e] 2 = some c := (rfl)
theorem at5_3 (a b c d e : D) : atI [a, b, c, d, e] 3 = some d := (rfl)
theorem at5_4 (a b c d e : D) : atI [a, b, c, d, e] 4 = some e := (rfl)
theorem ix5_1 : ixN 5 1 = some 1 := (rfl)
theorem ix5_2 : ixN 5 2 = some 2 := (rfl)
theorem ix5_3 : ixN 5 3 = some 3 := (rfl)
theorem ix5_4 : ixN 5 4 = some 4 := (rfl)
end Tw
noncomputable section
namespace Tw
open PySem PySem.Spec PyProof.Rows L2
/-! ### what is compared -/
theorem lay_all : ∀ {ps : List PyData}, (∀ p ∈ ps, p.canLay0 = true) → PyData.canLayAll0 ps = true
  | [], _ => by simp [PyData.canLayAll0]
  | p :: ps, h => by
    rw [PyData.canLayAll0, h p List.mem_cons_self, lay_all fun q hq => h q (List.mem_cons_of_mem _ hq)]
    rfl
theorem depth_all {n : Nat} : ∀ {ps : List PyData}, (∀ p ∈ ps, p.depth ≤ n) → PyData.depthAll ps ≤ n
  | [], _ => by simp [PyData.depthAll]
  | p :: ps, h => by
    rw [PyData.depthAll]
    exact Nat.max_le.mpr ⟨h p List.mem_cons_self, depth_all fun q hq => h q (List.mem_cons_of_mem _ hq)⟩
/-- data of depth n at most, all its leaves whole numbers -/
def Num : Nat → D → Prop
  | 0, d => ∃ i, d = .int i
  | n + 1, d => (∃ i, d = .int i) ∨ (∃ xs, d = .tup xs ∧ ∀ x ∈ xs, Num n x) ∨ ∃ m xs, d = .lst m xs ∧ ∀ x ∈ xs, Num n x
theorem num_py : ∀ {n : Nat} {d : D}, Num n d → ∃ p, D.py d = some p ∧ p.canLay0 = true ∧ p.depth ≤ n + 1
  | 0, d, h => by obtain ⟨i, rfl⟩ := h; exact ⟨.int i, rfl, rfl, by simp [PyData.depth]⟩
  | n + 1, d, h => by
    have key : ∀ xs : List D, (∀ x ∈ xs, Num n x) → ∃ ps, D.pys xs = some ps ∧ (∀ p ∈ ps, p.canLay0 = true) ∧ ∀ p ∈ ps, p.depth ≤ n + 1 := by
      intro xs
      induction xs with
      | nil => intro _; exact ⟨[], rfl, by simp, by simp⟩
      | cons x xs ih =>
        intro hx
        obtain ⟨p, e, c, dp⟩ := num_py (hx x List.mem_cons_self)
        obtain ⟨ps, e2, c2, d2⟩ := ih fun y hy => hx y (List.mem_cons_of_mem _ hy)
        refine ⟨p :: ps, by rw [D.pys, e, e2]; rfl, fun q hq => ?_, fun q hq => ?_⟩
        · rcases List.mem_cons.mp hq with rfl | hq
          · exact c
          · exact c2 q hq
        · rcases List.mem_cons.mp hq with rfl | hq
          · exact dp
          · exact d2 q hq
    rcases h with ⟨i, rfl⟩ | ⟨xs, rfl, hx⟩ | ⟨m, xs, rfl, hx⟩
    · exact ⟨.int i, rfl, rfl, by simp [PyData.depth]⟩
    · obtain ⟨ps, e, c, dp⟩ := key xs hx
      refine ⟨.tuple ps, by rw [D.py, e]; rfl, by rw [PyData.canLay0]; exact lay_all c, ?_⟩
      rw [PyData.depth]
      have := depth_all dp
      omega
    · obtain ⟨ps, e, c, dp⟩ := key xs hx
      refine ⟨.list ps, by rw [D.py, e]; rfl, by rw [PyData.canLay0]; exact lay_all c, ?_⟩
      rw [PyData.depth]
      have := depth_all dp
      omega
theorem eq_same {n : Nat} {a b : D} (h : Num n a) (hn : n ≤ 60) (e : D.py b = D.py a) : gEq [a, b] = some (.bl true) ∧ gNe [a, b] = some (.bl false) := by
  obtain ⟨p, e1, c, dp⟩ := num_py h
  have sh : SeqAt.shaped p = true := by
    unfold SeqAt.shaped
    rw [c, Bool.true_and]
    exact decide_eq_true (by omega)
  have r := SeqAt.eqv_refl p c
  constructor
  · rw [Tw.eq_2, e, e1, Option.bind_some, Option.bind_some, sh, Bool.and_self, if_pos rfl, r]
  · rw [Tw.ne_2, e, e1, Option.bind_some, Option.bind_some, sh, Bool.and_self, if_pos rfl, r]; rfl
theorem num_int (n : Nat) (i : Int) : Num n (.int i) := by
  cases n
  · exact ⟨i, rfl⟩
  · exact .inl ⟨i, rfl⟩
theorem num_tup {n : Nat} {xs : List D} (h : ∀ x ∈ xs, Num n x) : Num (n + 1) (.tup xs) := .inr (.inl ⟨xs, rfl, h⟩)
theorem num_lst {n : Nat} {m : Bool} {xs : List D} (h : ∀ x ∈ xs, Num n x) : Num (n + 1) (.lst m xs) := .inr (.inr ⟨m, xs, rfl, h⟩)
theorem num_ints {n : Nat} (ns : List Int) : ∀ x ∈ ns.map D.int, Num n x := fun x hx => by obtain ⟨i, _, rfl⟩ := List.mem_map.mp hx; exact num_int n i
/-- rows of whole numbers -/
def rows (ls : List (List Int)) : List D := ls.map fun ns => .tup (ns.map .int)
theorem rows_len (ls : List (List Int)) : (rows ls).length = ls.length := List.length_map _
theorem oks_rows (ls : List (List Int)) : D.oks (rows ls) = true := oks_tI ls
theorem frzs_rows (ls : List (List Int)) : D.frzs (rows ls) = rows ls := D.frzs_ok (oks_rows ls)
theorem num_rows {n : Nat} (ls : List (List Int)) : ∀ x ∈ rows ls, Num (n + 1) x := fun x hx => by obtain ⟨ns, _, rfl⟩ := List.mem_map.mp hx; exact num_tup (num_ints ns)
theorem py_lst (m m' : Bool) (xs : List D) : D.py (.lst m xs) = D.py (.lst m' xs) := (rfl)
theorem rows_app (a b : List (List Int)) : rows (a ++ b) = rows a ++ rows b := List.map_append
theorem add_tup (xs ys : List D) : gAdd [.tup xs, .tup ys] = if D.oks xs && D.oks ys && lenOk (xs.length + ys.length) then some (.tup (xs ++ ys)) else none := (rfl)
theorem add_lst (m m' : Bool) (xs ys : List D) : gAdd [.lst m xs, .lst m' ys] = if D.oks xs && D.oks ys && lenOk (xs.length + ys.length) then some (.lst true (xs ++ ys)) else none := (rfl)
theorem rng_map (lo : Int) (n : Nat) : rngD lo n = ((List.range n).map fun i : Nat => lo + (i : Int)).map .int := by rw [List.map_map]; rfl
theorem rngOf_1 {j : Int} (h : -(2 ^ 62) ≤ j ∧ j < 2 ^ 62) : rngOf [j] = some (0, j.toNat) := if_pos (rngOk_iff.mpr h)
theorem rngD_0 (n : Nat) : rngD 0 n = (List.range n).map fun i : Nat => .int (i : Int) := by
  unfold rngD
  exact List.map_congr_left fun i _ => by rw [Int.zero_add]
theorem bools_mapP {α : Type} (p : α → Bool) : ∀ xs : List α, D.bools (xs.map fun x => .bl (p x)) = some (xs.map p)
  | [] => rfl
  | x :: xs => by rw [List.map_cons, D.bools, bools_mapP p xs]; rfl
end Tw
noncomputable section
namespace Tw
open PySem PySem.Spec PyProof.Rows L2
/-! ### a comprehension over a list that stays the def's own -/
section
variable {cl : Nat → Addr} {W : WX}
theorem iter_lstM {K : PySem.W.Frag} {m : Bool} {a : Addr} {ds : List D} (o : D.oks ds = true) : IterD K cl (Itl K a) [some (.lst m ds)] [some (.ref a)] ds := by
  have key : ∀ (H : Hp) (κ : Tw.Env) (τ : S), Rel K cl H ([some (.lst m ds)] ++ κ) ([some (.ref a)] ++ τ) → ∃ vs f g, (f ++ g).Nodup ∧ Dats K cl (· ∈ f ++ g) H [.lst m ds] [.ref a] f ∧ Slots K cl (· ∈ f ++ g) H κ τ g ∧ H a = some (.lst vs) ∧ Dats K cl (· ∈ f ++ g) H ds vs [] := fun H κ τ r => by
    obtain ⟨f, g, n, hh, hr⟩ := Rel.split (as := [.lst m ds]) (vs := [.ref a]) r rfl
    obtain ⟨a', vs, g1, e1, t1, d1, _⟩ := dats1 hh
    cases e1
    exact ⟨vs, f, g, n, hh, hr, t1, oks_nil d1 o⟩
  refine ⟨fun i d e H κ τ r => ?_, fun i hi H κ τ r => ?_⟩
  · obtain ⟨vs, f, g, n, hh, hr, t, hd⟩ := key H κ τ r
    obtain ⟨v, e1, hv⟩ := dats_get hd e
    refine ⟨⟨vs, v, .of t, e1⟩, fun x H' y => ?_⟩
    obtain ⟨rfl, y⟩ := y
    have e2 := y vs (.of t)
    rw [e1] at e2
    cases e2
    exact derive n hh hr hv
  · obtain ⟨vs, f, g, n, hh, hr, t, hd⟩ := key H κ τ r
    exact ⟨vs, .of t, by rw [dats_length hd]; exact hi⟩
def fCompB (vs : List Nat) (i : Nat) (b : Bd) (t : EvB) (f : Ev) : Ev := fun env => match ownAt env i with
  | some items => if D.oks items && lenOk items.length then (compGo vs b t f items [] (wipeE (env.set i none) vs)).bind fun ds env2 => .ok (.lst true ds) (env2.set i (some (.lst true items))) else .stuck
  | none => .stuck
/-- the reading of a comprehension over a list that the def still owns -/
theorem rd_compB {K : PySem.W.Frag} {ix : Nat} {vs ts : List Nat} {b : Bd} {t : EvB} {f : Ev} {g : TG} {tt : TT} {te : TE} (hts : ∀ i ∈ ts, i ∈ vs) {σ : S} {H : Hp} {Q : VK} (h : tE K cl W (fCompB vs ix b t f) σ H Q)
    (hg : ∀ v σ H Q, tG K cl ts b v σ H Q → g v σ H Q) (ht : ∀ σ H Q, tT K cl (fun _ _ _ _ => False) t σ H Q → tt σ H Q) (he : ∀ σ H Q, tE K cl (fun _ _ _ _ => False) f σ H Q → te σ H Q) : tLc (iList K (tVar ix)) g tt te vs σ H Q := by
  obtain ⟨τ, κ, env, r, l, q⟩ := h
  unfold fCompB at q
  cases e1 : ownAt env ix with
  | none => rw [e1] at q; exact q.elim
  | some items =>
    rw [e1] at q
    simp only at q
    obtain ⟨v0, e0, r0⟩ := slot_out (A := []) (Y := []) r rfl l (ownAt_eq e1)
    obtain ⟨a0, us0, rfl, t0, _⟩ := own_head r0
    refine ⟨.ref a0, e0, a0, rfl, ⟨us0, .of t0⟩, ?_⟩
    generalize env.set ix none = env1 at q r0
    split at q
    · rename_i hlen
      rw [Bool.and_eq_true] at hlen
      obtain ⟨ho, hlen⟩ := hlen
      have it : IterD K cl (Itl K a0) [some (.lst true items)] [some (.ref a0)] items := iter_lstM ho
      have r1 : Rel K cl H ([some (.lst true items)] ++ (κ ++ env1)) ([some (.ref a0)] ++ (τ ++ σ)) := r0
      obtain ⟨κx, eκ⟩ : ∃ κx : Tw.Env, κx = [some (D.lst true items)] := ⟨_, rfl⟩
      obtain ⟨τx, eτ⟩ : ∃ τx : S, τx = [some (V.ref a0)] := ⟨_, rfl⟩
      rw [← eκ, ← eτ] at it r1
      have lx : τx.length = κx.length := by rw [eκ, eτ]; rfl
      intro p hD
      have hlen := of_decide_eq_true hlen
      let Inv : Nat → Nat → Hp → Prop := fun i m H => i ≤ items.length ∧ m = items.length - i ∧ ∃ (env' : Tw.Env) (acc : List D), acc.length ≤ i ∧ (∀ v ∈ vs, env'.set v none = env') ∧ Rel K cl H (some (.lst true acc) :: (κx ++ (κ ++ env'))) (some (.ref p) :: (τx ++ (τ ++ wipe σ vs))) ∧
        ((compGo vs b t f (items.drop i) acc env').bind fun ds env2 => Rs.ok (Tw.D.lst true ds) (env2.set ix (some (.lst true items)))).P (fun d env' => ∀ v H', Rel K cl H' (some d :: (κ ++ env')) (some v :: (τ ++ σ)) → Q v H') (WP K cl W κ τ σ)
      refine ⟨Inv, ⟨items.length, Nat.zero_le _, rfl, wipeE env1 vs, [], Nat.zero_le _, fun v hv => wipeE_set hv, ?_, q⟩, ?_⟩
      · have r2 : Rel K cl H (κx ++ (κ ++ wipeE env1 vs)) (τx ++ (τ ++ wipe σ vs)) := by
          have z := rel_wipe (κ := κx ++ κ) (τ := τx ++ τ) (env := env1) (σ := σ) (by rw [List.append_assoc, List.append_assoc]; exact r1) (by simp [lx, l]) vs
          rwa [List.append_assoc, List.append_assoc] at z
        exact Rel.packL (as := []) (vs := []) r2 rfl hD
      · rintro i m H ⟨hi, rfl, env', acc, ha, hv, r2, q2⟩
        by_cases hlt : i < items.length
        · right
          have hd : items[i]? = some items[i] := List.getElem?_eq_getElem hlt
          have r3 : Rel K cl H (κx ++ (some (.lst true acc) :: (κ ++ env'))) (τx ++ (some (.ref p) :: (τ ++ wipe σ vs))) := Rel.swap3 (A := [some (.lst true acc)]) (X := [some (.ref p)]) r2 rfl lx
          obtain ⟨go, yl⟩ := it.go i items[i] hd H _ _ r3
          have r4' : ∀ x H', (Itl K a0).yld i H x H' → Rel K cl H' (some items[i] :: (some (.lst true acc) :: (κx ++ (κ ++ env')))) (some x :: (some (.ref p) :: (τx ++ (τ ++ wipe σ vs)))) := fun x H' y => by
            have z := yl x H' y
            have z2 := Rel.swap3 (A := some items[i] :: κx) (X := some x :: τx) (B := [some (.lst true acc)]) (Y := [some (.ref p)]) (C := κ ++ env') (Z := τ ++ wipe σ vs) z (by simp [lx]) rfl
            exact Rel.swap3 (A := [some (.lst true acc)]) (X := [some (.ref p)]) (B := [some items[i]]) (Y := [some x]) z2 rfl rfl
          rw [List.drop_eq_getElem_cons hlt] at q2
          unfold compGo at q2
          refine ⟨go, fun H' => ∃ m', m' < items.length - i ∧ Inv (i + 1) m' H', fun H' z => z, fun x H' y => hg _ _ _ _ ?_⟩
          have r4 := r4' x H' y
          cases e2 : b items[i] env' with
          | none => rw [e2] at q2; exact q2.elim
          | some env2 =>
            rw [e2] at q2
            simp only at q2
            refine ⟨some (.ref p) :: (τx ++ τ), some (.lst true acc) :: (κx ++ κ), env', items[i], by simpa [List.append_assoc] using r4, by simp [lx, l], env2, e2, fun σ2 H2 o2 r5 => ?_⟩
            have ew : wipe σ2 vs = wipe σ vs := by
              have z : wipe σ2 vs = wipe (wipe σ vs) vs := wipe_off o2.1 fun j hj => o2.2 j fun z => hj (hts j z)
              rw [z]
              exact wipe_off (wipe_length _ _) fun j hj => wipe_out hj
            refine ⟨ew, ht _ _ _ ?_⟩
            have back : ∀ {ρ : S} {env3 : Tw.Env} {H3 : Hp} {a : List D}, wipe ρ vs = wipe σ vs → Rel K cl H3 (some (.lst true a) :: (κx ++ (κ ++ env3))) (some (.ref p) :: (τx ++ (τ ++ ρ))) → Rel K cl H3 (some (.lst true a) :: (κx ++ (κ ++ wipeE env3 vs))) (some (.ref p) :: (τx ++ (τ ++ wipe σ vs))) := fun {ρ env3 H3 a} e z => by
              have z2 := rel_wipe (κ := some (.lst true a) :: (κx ++ κ)) (τ := some (.ref p) :: (τx ++ τ)) (env := env3) (σ := ρ) (by simpa [List.append_assoc] using z) (by simp [lx, l]) vs
              rw [e] at z2
              simpa [List.append_assoc] using z2
            refine ⟨some (.ref p) :: (τx ++ τ), some (.lst true acc) :: (κx ++ κ), env2, r5, by simp [lx, l], ?_⟩
            cases e3 : t env2 with
            | ok k env3 =>
              rw [e3] at q2
              simp only [Rs.ne, Rs.bind_ok] at q2
              intro H3 r6
              have r6' : Rel K cl H3 (some (.lst true acc) :: (κx ++ (κ ++ env3))) (some (.ref p) :: (τx ++ (τ ++ σ2))) := by simpa [List.append_assoc] using r6
              cases k with
              | true =>
                rw [if_pos rfl] at q2 ⊢
                refine he _ _ _ ⟨some (.ref p) :: (τx ++ τ), some (.lst true acc) :: (κx ++ κ), env3, r6, by simp [lx, l], ?_⟩
                cases e4 : f env3 with
                | ok y env4 =>
                  rw [e4] at q2
                  simp only [Rs.ne, Rs.bind_ok] at q2
                  intro v H4 r7
                  obtain ⟨us, t1, lu, r8⟩ := Rel.append (d := y) (acc := acc) (y := v) (p := p) (κ := κx ++ (κ ++ env4)) (τ := τx ++ (τ ++ σ2)) (by simpa [List.append_assoc] using r7)
                  exact ⟨us, t1, by omega, items.length - (i + 1), by omega, hlt, rfl, wipeE env4 vs, acc ++ [y], by simp; omega, fun v hv => wipeE_set hv, back ew r8, q2⟩
                | exc _ _ _ _ => rw [e4] at q2; exact q2.elim
                | stuck => rw [e4] at q2; exact q2.elim
              | false =>
                rw [if_neg Bool.false_ne_true] at q2 ⊢
                exact ⟨items.length - (i + 1), by omega, hlt, rfl, wipeE env3 vs, acc, by omega, fun v hv => wipeE_set hv, back ew r6', q2⟩
            | exc _ _ _ _ => rw [e3] at q2; exact q2.elim
            | stuck => rw [e3] at q2; exact q2.elim
        · left
          have e : i = items.length := by omega
          subst e
          have r3 : Rel K cl H (κx ++ (some (.lst true acc) :: (κ ++ env'))) (τx ++ (some (.ref p) :: (τ ++ wipe σ vs))) := Rel.swap3 (A := [some (.lst true acc)]) (X := [some (.ref p)]) r2 rfl lx
          refine ⟨it.stop _ (Nat.le_refl _) H _ _ r3, ?_⟩
          rw [List.drop_length] at q2
          have r4 := rel_unwipe (κ := κx ++ (some (.lst true acc) :: κ)) (τ := τx ++ (some (.ref p) :: τ)) (env := env') (σ := σ) (by simp [l, lx]) hv (by simpa [List.append_assoc] using r3)
          rw [eκ, eτ] at r4
          exact q2 _ _ (slot_in (A := [some (.lst true acc)]) (Y := [some (.ref p)]) (d := .lst true items) (v := .ref a0) r4 rfl l e0)
    · exact q.elim
variable {X : Cx}
theorem j_compB {i : Nat} {elt tg iter : Expr} {ifs : List Expr} {scope : Scope} {pos : Pos} {own : List (Str × Nat)} {bd : Bd} {ts : List Nat} {t : EvB} {f : Ev} (hc : X.calm = true) (hN : X.N.Nodup) (hi : PE X iter (tVar i)) (ok : BlkOk X.N X.env.scope scope own)
    (hg : ∀ (s : Shared) (H : Hp) (C : Addr) (cls : List (Str × Addr)) (fp : List Addr), PG (X.blk s H scope (compEnvC scope cls C X.env) fp) tg (tG X.K cl ts bd)) (ht : ∀ (s : Shared) (H : Hp) (C : Addr) (cls : List (Str × Addr)) (fp : List Addr), PTs (X.blk s H scope (compEnvC scope cls C X.env) fp) ifs (tT X.K cl (fun _ _ _ _ => False) t))
    (he : ∀ (s : Shared) (H : Hp) (C : Addr) (cls : List (Str × Addr)) (fp : List Addr), PE (X.blk s H scope (compEnvC scope cls C X.env) fp) elt (tE X.K cl (fun _ _ _ _ => False) f)) (hts : ∀ i ∈ ts, i ∈ own.map (·.2)) (hs : ∀ x, foldedSetIterable iter X.env x = pure x := by intro _; rfl) :
    PE X (.ListComp elt [⟨tg, iter, ifs, 0⟩] scope pos) (tE X.K cl W (fCompB (own.map (·.2)) i bd t f)) :=
  PE.imp (pe_lc hc hN (pi_list hi) ok hg ht he hs) fun σ H Q h => rd_compB hts h (fun _ _ _ _ z => z) (fun _ _ _ z => z) fun _ _ _ z => z
end
def k_cpB (i : Nat) (items : List D) : List D → Tw.Env → Rs D := fun ds env2 => .ok (.lst true ds) (env2.set i (some (.lst true items)))
theorem e_kcpB (i : Nat) (items ds : List D) (env2 : Tw.Env) : k_cpB i items ds env2 = .ok (.lst true ds) (env2.set i (some (.lst true items))) := (rfl)
def cpB (vs : List Nat) (i : Nat) (b : Bd) (t : EvB) (f : Ev) (env : Tw.Env) : Option (List D) → Rs D
  | some items => if D.oks items && lenOk items.length then (compGo vs b t f items [] (wipeE (env.set i none) vs)).bind (k_cpB i items) else .stuck
  | none => .stuck
theorem e_cpB (vs : List Nat) (i : Nat) (b : Bd) (t : EvB) (f : Ev) (env : Tw.Env) (items : List D) : cpB vs i b t f env (some items) = if D.oks items && lenOk items.length then (compGo vs b t f items [] (wipeE (env.set i none) vs)).bind (k_cpB i items) else .stuck := (rfl)
theorem e_compB (vs : List Nat) (i : Nat) (b : Bd) (t : EvB) (f : Ev) (env : Tw.Env) : fCompB vs i b t f env = cpB vs i b t f env (ownAt env i) := by
  unfold fCompB cpB
  cases ownAt env i <;> rfl
end Tw
noncomputable section
namespace Tw
open PySem PySem.Spec PyProof.Rows L2
/-! ### list(range(n)), tuple(range(n)), sorted of whole numbers, min and max of two -/
section
variable {X : Cx} {cl : Nat → Addr} {W : WX} {a : Expr} {pos p p2 q2 : Pos} {fa : Ev}
def rgN (d : D) : Option (List Int) := (D.asI d).bind fun n => if rngOk n && lenOk n.toNat then some ((List.range n.toNat).map fun i : Nat => (i : Int)) else none
def fLRg (tp : Bool) (f : Ev) : Ev := fun env => (f env).bind fun d env1 => match rgN d with
  | some ns => .ok (if tp then .tup (ns.map .int) else .lst true (ns.map .int)) env1
  | none => .stuck
theorem rgV_0 (n : Int) : rgV 0 n = ((List.range n.toNat).map fun i : Nat => (i : Int)).map V.int := by
  unfold rgV
  rw [Int.sub_zero, List.map_map]
  exact List.map_congr_left fun i _ => by show V.int (0 + (i : Int)) = V.int i; rw [Int.zero_add]
theorem rg_rel {K : PySem.W.Frag} {H : Hp} {d : D} {v : V} {κ : Tw.Env} {τ : S} {q : Addr} (ns : List Int) (r : Rel K cl H (some d :: κ) (some v :: τ)) (hq : H q = none) :
    Rel K cl (upd H q (.lst (ns.map V.int))) (some (.lst true (ns.map .int)) :: κ) (some (.ref q) :: τ) ∧ ∀ its, Rel K cl (upd H q (tupH its (ns.map V.int))) (some (.tup (ns.map .int)) :: κ) (some (.ref q) :: τ) := by
  obtain ⟨f, g, n, hh, hr⟩ := Rel.split (as := [d]) (vs := [v]) r rfl
  constructor
  · have z := newL n hh hr hq (ints_dats ns)
    exact (Rel.swap3 (A := [some (.lst true (ns.map .int))]) (X := [some (.ref q)]) (B := [some d]) (Y := [some v]) z rfl rfl).pop
  · intro its
    have z := newT (its := its) n hh hr hq (ints_dats ns)
    exact (Rel.swap3 (A := [some (.tup (ns.map .int))]) (X := [some (.ref q)]) (B := [some d]) (Y := [some v]) z rfl rfl).pop
theorem rgN_ok {d : D} {ns : List Int} {K : PySem.W.Frag} {H : Hp} {v : V} {κ : Tw.Env} {τ : S} (e : rgN d = some ns) (r : Rel K cl H (some d :: κ) (some v :: τ)) : ∃ n : Int, v = .int n ∧ RgOk 0 n ∧ rgV 0 n = ns.map V.int := by
  unfold rgN at e
  obtain ⟨n, e1, e2⟩ := Option.bind_eq_some_iff.mp e
  split at e2
  · rename_i c
    rw [Bool.and_eq_true] at c
    cases e2
    obtain ⟨M, f, hd⟩ := r.head
    have b := rngOk_iff.mp c.1
    have l := of_decide_eq_true c.2
    rw [sizeLine_eq] at l
    exact ⟨n, dat_asI hd e1, ⟨by omega, by omega, b.1, b.2, by rw [Int.sub_zero]; omega⟩, rgV_0 n⟩
  · cases e2
theorem j_listRg (hc : X.calm = true) (hm : X.mg "list" = none) (hm2 : X.mg "range" = none) (ha : PE X a (tE X.K cl W fa)) (hg : Gl X "list" := by rfl) (hg2 : Gl X "range" := by rfl) (na : starEach [a] X.env = (false, eval a X.env) :: starEach [] X.env := by rfl)
    (nb : starEach [.Call (.Name "range" p2) [a] [] q2] X.env = (false, eval (.Call (.Name "range" p2) [a] [] q2) X.env) :: starEach [] X.env := by rfl) : PE X (.Call (.Name "list" p) [.Call (.Name "range" p2) [a] [] q2] [] pos) (tE X.K cl W (fLRg false fa)) :=
  PE.imp (pe_listRg hc hg hm (prg_1 hg2 hm2 ha na) nb) fun σ H Q ⟨τ, κ, env, r, l, q⟩ => tE_bind r l q fun d env1 v H1 h1 r1 => by
    cases e : rgN d with
    | none => rw [e] at h1; exact h1.elim
    | some ns =>
      rw [e] at h1
      obtain ⟨n, ev, ok, es⟩ := rgN_ok e r1
      exact ⟨n, ev, ok, fun q hq => by rw [es]; exact h1 _ _ (rg_rel ns r1 hq).1⟩
def tTupRgF (te : S → Hp → (Int → Int → Hp → Prop) → Prop) : TE := fun σ H Q => te σ H fun a b H1 => RgOk a b ∧ ∀ q its, H1 q = none → Q (.ref q) (upd H1 q (tupH its (rgV a b)))
theorem pe_tupRgF {te : S → Hp → (Int → Int → Hp → Prop) → Prop} {e : Expr} (hc : X.calm = true) (hg : Gl X "tuple") (hm : X.mg "tuple" = none) (he : PRg X e te) (na : starEach [e] X.env = (false, eval e X.env) :: starEach [] X.env := by rfl) : PE X (.Call (.Name "tuple" p) [e] [] pos) (tTupRgF te) := by
  refine ⟨fun pins s σ H Q I h => ?_⟩
  refine Call_ (ld_blt I hg hm boot_tuple (PyProof.Rows.callWith_type1 (args_cons (thn (he pins s σ H _ I h) fun x s1 ⟨r, a, b, t, u, v, H1, ex, hr, I1, ok, q⟩ => args_nil ?_) na) na))
  subst ex
  obtain ⟨b1, b2, b3, b4, b5⟩ := ok
  refine call_tuple_range (n := (b - a).toNat) (I1.ok.hd hc) hr (small_one b1 b2 b3 b4) (rangeSize_nat a b) b5 fun h' tk acc hk hi => ?_
  have I2 : Inv X pins σ H1 { s1 with heap := h', toks := tk } := I1.kept hk
  have I3 := laidT (t' := tk) I2 (vals_rg hi) (by rw [rgV_length, sizeLine_eq]; omega)
  refine ⟨.ref h'.objs.size, upd H1 h'.objs.size (tupH acc.toList (rgV a b)), ?_, rfl, q _ _ (I2.hok.fresh (Nat.le_refl _))⟩
  unfold tupO at I3
  rw [Array.toArray_toList] at I3
  exact I3
theorem j_tupRg (hc : X.calm = true) (hm : X.mg "tuple" = none) (hm2 : X.mg "range" = none) (ha : PE X a (tE X.K cl W fa)) (hg : Gl X "tuple" := by rfl) (hg2 : Gl X "range" := by rfl) (na : starEach [a] X.env = (false, eval a X.env) :: starEach [] X.env := by rfl)
    (nb : starEach [.Call (.Name "range" p2) [a] [] q2] X.env = (false, eval (.Call (.Name "range" p2) [a] [] q2) X.env) :: starEach [] X.env := by rfl) : PE X (.Call (.Name "tuple" p) [.Call (.Name "range" p2) [a] [] q2] [] pos) (tE X.K cl W (fLRg true fa)) :=
  PE.imp (pe_tupRgF hc hg hm (prg_1 hg2 hm2 ha na) nb) fun σ H Q ⟨τ, κ, env, r, l, q⟩ => tE_bind r l q fun d env1 v H1 h1 r1 => by
    cases e : rgN d with
    | none => rw [e] at h1; exact h1.elim
    | some ns =>
      rw [e] at h1
      obtain ⟨n, ev, ok, es⟩ := rgN_ok e r1
      exact ⟨n, ev, ok, fun q its hq => by rw [es]; exact h1 _ _ ((rg_rel ns r1 hq).2 its)⟩
def lrR (tp : Bool) (env : Tw.Env) : Option (List Int) → Rs D
  | some ns => .ok (if tp then .tup (ns.map .int) else .lst true (ns.map .int)) env
  | none => .stuck
theorem e_lrR (tp : Bool) (env : Tw.Env) (ns : List Int) : lrR tp env (some ns) = .ok (if tp then .tup (ns.map .int) else .lst true (ns.map .int)) env := (rfl)
def k_lrg (tp : Bool) : D → Tw.Env → Rs D := fun d env1 => lrR tp env1 (rgN d)
theorem e_klrg (tp : Bool) (d : D) (env1 : Tw.Env) : k_lrg tp d env1 = lrR tp env1 (rgN d) := (rfl)
theorem e_lrg (tp : Bool) (f : Ev) (env : Tw.Env) : fLRg tp f env = (f env).bind (k_lrg tp) := by
  unfold fLRg
  refine congrArg _ (funext fun d => funext fun env1 => ?_)
  show _ = lrR tp env1 (rgN d)
  cases rgN d <;> rfl
/-! sorted -/
def gSorted : List D → Option D
  | [.lst _ xs] => (D.ints xs).map fun ns => .lst true ((ns.mergeSort fun a b => decide (a ≤ b)).map .int)
  | _ => none
theorem ints_of : ∀ {xs : List D} {ns : List Int}, D.ints xs = some ns → xs = ns.map .int
  | [], ns, e => by cases e; rfl
  | d :: ds, ns, e => by
    rw [Tw.ints_cons] at e
    obtain ⟨i, e1, e2⟩ := Option.bind_eq_some_iff.mp e
    obtain ⟨is, e3, rfl⟩ := Option.map_eq_some_iff.mp e2
    cases d with
    | int j => cases e1; rw [ints_of e3]; rfl
    | _ => cases e1
theorem sort_eq {ns ns' : List Int} (p : ns'.Perm ns) (s : ns'.Pairwise (· ≤ ·)) : ns' = ns.mergeSort fun a b => decide (a ≤ b) := by
  have h1 := List.mergeSort_perm ns fun a b => decide (a ≤ b)
  have h2 := List.pairwise_mergeSort (le := fun a b : Int => decide (a ≤ b)) (fun a b c h h' => by simp at h h' ⊢; omega) (fun a b => by simp; omega) ns
  refine List.Perm.eq_of_pairwise (le := (· ≤ ·)) (fun a b _ _ h h' => by omega) s (h2.imp fun h => of_decide_eq_true h) (p.trans h1.symm)
theorem s_sorted {K : PySem.W.Frag} : OpS K cl (rSortedI K) gSorted := by
  intro as d vs H κ τ Q h l r q
  match as, h with
  | [.lst m us], h =>
    obtain ⟨x, rfl⟩ := one_of rfl l
    simp only [gSorted, Option.map_eq_some_iff] at h
    obtain ⟨ns, e, rfl⟩ := h
    obtain ⟨f, g, n, hh, hr⟩ := r.split l
    obtain ⟨a, xs, g1, e1, t1, d1, _⟩ := dats1 hh
    subst e1
    rw [ints_of e] at d1
    rw [dats_ints d1] at t1
    exact ⟨a, ns, rfl, .of t1, fun ns' p hp hs hn => q _ _ (by rw [sort_eq hp hs]; exact newL n hh hr hn (ints_dats _))⟩
theorem sorted_lst (m : Bool) (xs : List D) : gSorted [.lst m xs] = (D.ints xs).map fun ns => .lst true ((ns.mergeSort fun a b => decide (a ≤ b)).map .int) := (rfl)
/-! min, max -/
def gMin2 : List D → Option D := gInt2 fun i j => some (.int (if j < i then j else i))
def gMax2 : List D → Option D := gInt2 fun i j => some (.int (if j > i then j else i))
theorem s_min2 {K : PySem.W.Frag} : OpS K cl (fun xs H Q => ∃ i j, xs = [.int i, .int j] ∧ Q (.int (if j < i then j else i)) H) gMin2 := fun as d vs H κ τ Q h l r q => by
  have z := (s_int20 (K := K) (cl := cl) (g := fun i j => V.int (if j < i then j else i)) fun _ _ _ _ => dint) as d vs H κ τ Q h l r q
  match vs, z with
  | [x, y], ⟨i, j, e1, e2, z⟩ => exact ⟨i, j, by rw [e1, e2], z⟩
theorem s_max2 {K : PySem.W.Frag} : OpS K cl (fun xs H Q => ∃ i j, xs = [.int i, .int j] ∧ Q (.int (if j > i then j else i)) H) gMax2 := fun as d vs H κ τ Q h l r q => by
  have z := (s_int20 (K := K) (cl := cl) (g := fun i j => V.int (if j > i then j else i)) fun _ _ _ _ => dint) as d vs H κ τ Q h l r q
  match vs, z with
  | [x, y], ⟨i, j, e1, e2, z⟩ => exact ⟨i, j, by rw [e1, e2], z⟩
theorem min_int (i j : Int) : gMin2 [.int i, .int j] = some (.int (if j < i then j else i)) := (rfl)
theorem max_int (i j : Int) : gMax2 [.int i, .int j] = some (.int (if j > i then j else i)) := (rfl)
end
end Tw
noncomputable section
namespace Tw
open PySem PySem.Spec PySem.Calls PyProof.Rows L2
/-! ### enumerate of a tuple -/
theorem meets_enumT {v : Value} {o : Obj} {H : Heap → Prop} (B : Begins v o H) :
    Meets (Builtin.«enumerate.__new__» ⟨[.type "enumerate", v], []⟩) (fun _ R s => H s.heap ∧
      R (.ok (.ret (.ref (s.heap.push o).objs.size))) { s with heap := (s.heap.push o).push { cls := .type "enumerate", data := .fields #[.none, .bool false, .ref s.heap.objs.size, rawInt 0, .none, .none] } }) :=
  .of_wp fun prog w A R s h => by
    obtain ⟨hp, g, d, tk, os⟩ := s; obtain ⟨h1, h⟩ := h
    have hsub := sub_enumerate
    have q1 : ∀ {A' : Around} {E : Value → Shared → Prop} {Q : Value → Shared → Prop}, Q (.ref hp.objs.size) ⟨hp.push o, g, d, tk, os⟩ → wpAny (model prog w) A' (pyIter v) Q E ⟨hp, g, d, tk, os⟩ :=
      fun q => B.iter prog w _ _ ⟨hp, g, d, tk, os⟩ _ h1 q
    wp_walk using q1
    refine wpAny_stack_any fun st => wpAny_pure ?_
    split
    · rename_i c _ _ _ _ _
      cases (c == Value.type "enumerate")
      · wp_walk using q1
        exact ⟨_, rfl, h⟩
      · wp_walk using q1
        exact ⟨_, rfl, h⟩
    · wp_walk using q1
      exact ⟨_, rfl, h⟩
theorem enum_beginsT {prog : Program} {w : World} {A : Around} {E : Value → Shared → Prop} {s : Shared} {v : Value} {o : Obj} {H : Heap → Prop} {Q : Value → Shared → Prop} (B : Begins v o H) (h1 : H s.heap)
    (h : ∀ h', IsEnum h' (s.heap.objs.size + 1) s.heap.objs.size 0 .none → h'.get? s.heap.objs.size = some o → h'.objs.size = s.heap.objs.size + 2 →
      (∀ b o, s.heap.get? b = some o → h'.get? b = some o) → Q (.ref (s.heap.objs.size + 1)) { s with heap := h' }) :
    wpAny (model prog w) A (call (.type "enumerate") [v]) Q E s := by
  refine callType_new F.called_enumerate (by decide) (F.typeCall_enumerate_1 _) (F.newCall_enumerate_1 _) (fun obj => F.args_object_init_2 obj _) F.entry_enumerate_new
    (meets_enumT B) ⟨h1, ?_⟩
  have hz : (s.heap.push o).objs.size = s.heap.objs.size + 1 := Heap.size_push ..
  show _ ∧ _
  rw [hz]
  have he : IsEnum ((s.heap.push o).push { cls := .type "enumerate", data := .fields #[.none, .bool false, .ref s.heap.objs.size, rawInt 0, .none, .none] }) (s.heap.objs.size + 1) s.heap.objs.size 0 .none := by
    have := Heap.get?_push_size (s.heap.push o) (o := { cls := .type "enumerate", data := .fields #[.none, .bool false, .ref s.heap.objs.size, rawInt 0, .none, .none] }) rfl
    rw [hz] at this; exact this
  refine ⟨⟨_, he, rfl⟩, h _ he (Heap.get?_push_of_some _ (Heap.get?_push_size _ B.free)) (by rw [Heap.size_push, hz]) fun b o x => Heap.get?_push_of_some _ (Heap.get?_push_of_some _ x)⟩
theorem wpAny_pyNext_enum_endT {prog : Program} {w : World} {A : Around} {E : Value → Shared → Prop} {s : Shared} {e it l : Addr} {i : Nat} {items : Array Value} {old : Value} {Q : Option Value → Shared → Prop} (hh : A.handled = none)
    (he : IsEnum s.heap e it i old) (hit : s.heap.IsTupleIter it l i) (hl : s.heap.IsTuple l items) (hx : items[i]? = none)
    (hQ : ∀ h', Heap.ExtBut it s.heap h' → Q none { s with heap := h' }) : wpAny (model prog w) A (pyNext (.ref e)) Q E s := by
  have hT : s.TypeIs (.ref e) "enumerate" := ⟨_, he, rfl⟩
  unfold pyNext
  refine wpAny_bind (wpAny_attempt (wpAny_callSpecial?_slot (name := Str.ofString "__next__") hT F.slot_enumerate_next
    (wpAny_call_entry F.slot_enumerate_next hT F.entry_enumerate_next ?_ (F.args_enumerate_next_1 _))))
  show wpAny _ _ (field (.ref e) 2 >>= _) _ _ _
  refine wpAny_bind (wpAny_field he rfl (x := .ref it) rfl ?_)
  refine wpAny_bind (wpAny_nextOf_tuple_end hh hit hl hx fun h' x he' hx' => ?_)
  obtain ⟨o, ho, hc⟩ := hx'
  refine wpAny_bind (wpAny_isInstance (T := "StopIteration") (b := true) ⟨o, ho, hc⟩ isSubtype_stop ?_)
  exact wpAny_pure (hQ _ he')
def IteT (K : PySem.W.Frag) (a : Addr) : It :=
  ⟨fun i H => ∃ (xs : List V) (x : V), SqT K H a xs ∧ xs[i]? = some x, fun i H v H' => ∃ T x, v = .ref T ∧ H T = none ∧ H' = upd H T (.tup [.int (i : Nat), x]) ∧ ∀ xs, SqT K H a xs → xs[i]? = some x, fun i H => ∃ xs : List V, SqT K H a xs ∧ xs.length ≤ i⟩
theorem turn_enumT {P : Program} {w : World} {K : PySem.W.Frag} {elts : List Expr} {kk : Nat} {tpos : Pos} (a e it : Addr) :
    Turn P w K (.Tuple elts kk tpos) (IteT K a) [e, it] e (fun i h => (∃ old, IsEnum h e it ((i : Nat) : Int) old) ∧ h.IsTupleIter it a i ∧ e ≠ it ∧ a ≠ it ∧ a ≠ e) where
  mem := by simp
  obj := fun i h st b hb => by
    obtain ⟨⟨old, he⟩, ⟨o, ho, hc, hd⟩, _⟩ := st
    have e' : b = e ∨ b = it := by simpa using hb
    rcases e' with z | z
    · rw [z]; exact ⟨_, he, fun v q => nomatch q⟩
    · rw [z]; exact ⟨o, ho, fun v q => by rw [hd] at q; cases q⟩
  keep := fun i h h' st k => let ⟨⟨old, he⟩, hi, hne⟩ := st; ⟨⟨old, k e (by simp) _ he⟩, hi.at fun o q => k it (by simp) o q, hne⟩
  item := by
    intro X hP hw hK hc i pins s σ H E I hf st hg
    subst hP hw hK
    obtain ⟨⟨old, he⟩, hit, hne, nai, nae⟩ := st
    obtain ⟨xs, x, hq, hx⟩ := hg
    obtain ⟨its, rv, p, hz⟩ := I.tuple hq
    obtain ⟨u, hu, ru⟩ := rv.get hx
    have hel : e < s.heap.objs.size := Heap.lt_size he
    have hil : it < s.heap.objs.size := by obtain ⟨_, q, _⟩ := hit; exact Heap.lt_size q
    have D := Draws.tuple (prog := X.prog) (w := X.w) (A := X.A.in1) (I.ok.hd hc) it a nai its.toArray
    have hlt : i < its.toArray.size := by
      have := (List.getElem?_eq_some_iff.mp hu).1
      simpa using this
    refine wpAny_pyNext_enum_itemD D he ⟨hit, p⟩ hlt hne (by simp; exact ⟨hne, fun z => nae z.symm⟩) fun x' h' tk px ho st' hT hsz hk => ?_
    have ex : x' = u := by
      have e2 : its.toArray[i]? = some x' := px
      rw [show its.toArray[i]? = some u by simpa using hu] at e2
      exact (Option.some.inj e2).symm
    subst ex
    obtain ⟨hit', _⟩ := st'
    refine ⟨_, rfl, wpAny_letOwnedTupleGo_enum (s := { s with heap := h', toks := tk + 1 }) ho fun h'' he' sb => ?_⟩
    have hT2 : h''.get? s.heap.objs.size = some { cls := .type "tuple", data := .seq #[.int i tk, x'] } := (sb.2 _ (Nat.ne_of_gt hel)).trans hT
    have new : ObjOk X.prog X.w (upd H s.heap.objs.size (.tup [.int (i : Nat), x])) h'' s.heap.objs.size (.tup [.int (i : Nat), x]) :=
      ⟨by show 2 ≤ sizeLine; decide, [.int i tk, x'], .cons ⟨_, rfl⟩ (.cons ru .nil), ⟨_, hT2, rfl, _, rfl⟩⟩
    have I1 : Inv X pins σ (upd H s.heap.objs.size (.tup [.int (i : Nat), x])) { s with heap := h'', toks := tk + 1 } :=
      I.turnedNew (ch := [e, it]) (fun b ob hb q => (sb.2 b (fun z => hb (by simp [z]))).trans (hk b ob (fun z => hb (by simp [z])) (fun z => hb (by simp [z])) q)) hf (Nat.le_refl _) new
    refine ⟨.ref s.heap.objs.size, _, I1, rfl, ⟨_, x, rfl, I.hok.fresh (Nat.le_refl _), rfl, fun ys hy => by rw [I.tuple_inj hy hq]; exact hx⟩, ⟨⟨x', ?_⟩, hit'.at fun o q => (sb.2 it (Ne.symm hne)).trans q, hne, nai, nae⟩, fun b hb => ?_⟩
    · have e1 : ((i + 1 : Nat) : Int) = (i : Int) + 1 := by omega
      rw [e1]; exact he'
    · have hb' : b < s.heap.objs.size := by
        have e' : b = e ∨ b = it := by simpa using hb
        rcases e' with z | z
        · rw [z]; exact hel
        · rw [z]; exact hil
      rw [upd_ne (Nat.ne_of_lt hb')]
      exact (hf b hb).1
  done := by
    intro X hP hw hK hc i pins s σ H E I hf st hg
    subst hP hw hK
    obtain ⟨⟨old, he⟩, hit, hne, nai, nae⟩ := st
    obtain ⟨xs, hq, hx⟩ := hg
    obtain ⟨its, rv, p, hz⟩ := I.tuple hq
    obtain ⟨f0, f1, f2, f3, f4, f5⟩ := hf it (by simp)
    have hl := rv.length
    exact wpAny_pyNext_enum_endT (I.ok.hd hc) he hit p (by simp; omega) fun h' eb => ⟨rfl, I.turned (t' := s.toks) (fun b o hb q => eb b o hb q) f0 f1 f3 f4 f5⟩
  self := fun A i s Q E st h => let ⟨⟨_, he⟩, _⟩ := st; wpAny_pyIter_enum he h
theorem pi_enumT {X : Cx} {e : Expr} {ta : TA} {p pos tpos : Pos} {elts : List Expr} {kk : Nat} (hg : Gl X "enumerate") (hm : X.mg "enumerate" = none) (ha : PA X [e] ta) (hs : starEach [e] X.env = [(false, eval e X.env)] := by rfl) :
    PI X (.Tuple elts kk tpos) (.Call (.Name "enumerate" p) [e] [] pos) (fun σ H R => ta σ H fun vs H1 => ∃ a xs, vs = [.ref a] ∧ SqT X.K H1 a xs ∧ R (IteT X.K a) H1) := by
  refine ⟨fun pins s σ H R I h => ?_⟩
  refine Call_ (ld_blt I hg hm boot_enumerate (PyProof.Rows.callWith_type1 (thn (ha.run pos pins s σ H _ I h) fun us s1 ⟨vs, H1, I1, r1, q1⟩ => ?_) hs rfl))
  obtain ⟨a, xs, ex, hq, q⟩ := q1
  subst ex
  cases r1 with
  | cons r rr =>
    cases rr
    cases r
    obtain ⟨its, rv, p', hz⟩ := I1.tuple hq
    have al : a < s1.heap.objs.size := by obtain ⟨o, ho, _⟩ := id p'; exact Heap.lt_size ho
    refine enum_beginsT (begins_tuple a its.toArray) p' fun h' he hit hsz hk => wpAny_pyIter_enum he ?_
    have I2 : Inv X pins σ H1 { s1 with heap := h' } := I1.kept (t' := s1.toks) hk
    refine ⟨s1.heap.objs.size + 1, [s1.heap.objs.size + 1, s1.heap.objs.size], _, _, H1, rfl, I2, turn_enumT a (s1.heap.objs.size + 1) s1.heap.objs.size, ⟨⟨.none, he⟩, ⟨_, hit, rfl, rfl⟩, Nat.succ_ne_self _, Nat.ne_of_lt al, Nat.ne_of_lt (Nat.lt_succ_of_lt al)⟩, fun b hb => ?_, q⟩
    have e' : b = s1.heap.objs.size + 1 ∨ b = s1.heap.objs.size := by simpa using hb
    have hle : s1.heap.objs.size ≤ b := by
      rcases e' with z | z
      · rw [z]; exact Nat.le_add_right _ _
      · rw [z]; exact Nat.le_refl _
    exact I1.fpOk hle (I1.hok.fresh hle)
/-! ### enumerate in the data layer -/
def enumD (xs : List D) : List D := xs.mapIdx fun i x => .pr [.int (i : Int), x]
def enumOf : List D → Option (Bool × List D)
  | [x] => D.seqK x
  | _ => none
def iEnum (os : List Ev) : Tw.Env → Rs (List D) := fun env => (evs (vals os) env).bind fun ds env1 => match enumOf ds with
  | some q => .ok (enumD q.2) env1
  | none => .stuck
theorem enumD_get {xs : List D} {i : Nat} {d : D} (h : (enumD xs)[i]? = some d) : ∃ x, xs[i]? = some x ∧ d = .pr [.int (i : Int), x] := by
  unfold enumD at h
  rw [List.getElem?_mapIdx] at h
  obtain ⟨x, e, rfl⟩ := Option.map_eq_some_iff.mp h
  exact ⟨x, e, rfl⟩
section
variable {X : Cx} {cl : Nat → Addr} {W : WX} {a : Expr} {pos p : Pos}
theorem iter_enum {K : PySem.W.Frag} {A : Addr} {x : D} {k : Bool} {xs : List D} (ex : D.seqK x = some (k, xs)) : IterD K cl (if k = true then IteT K A else Ite K A) (List.map some [x]) (List.map some [.ref A]) (enumD xs) := by
  have key : ∀ (H : Hp) (κ : Tw.Env) (τ : S), Rel K cl H (List.map some [x] ++ κ) (List.map some [.ref A] ++ τ) → ∃ f g us, (f ++ g).Nodup ∧ Dats K cl (· ∈ f ++ g) H [x] [.ref A] f ∧ Slots K cl (· ∈ f ++ g) H κ τ g ∧
      (k = false → H A = some (.lst us)) ∧ (k = true → SqT K H A us) ∧ Dats K cl (· ∈ f ++ g) H xs us [] := fun H κ τ r => by
    obtain ⟨f, g, n, hh, hr⟩ := r.split rfl
    have h1 := dats1 hh
    obtain ⟨a, us, e1, l1, t1, d1⟩ := dat_seqK h1 ex
    cases e1
    exact ⟨f, g, us, n, hh, hr, l1, t1, d1⟩
  refine ⟨fun i d e H κ τ r => ?_, fun i hi H κ τ r => ?_⟩
  · obtain ⟨f, g, us, n, hh, hr, l1, t1, d1⟩ := key H κ τ r
    obtain ⟨x1, e1, rfl⟩ := enumD_get e
    obtain ⟨u, e3, hu⟩ := dats_get d1 e1
    have fin : ∀ T, H T = none → Rel K cl (upd H T (.tup [.int (i : Nat), u])) (some (.pr [.int (i : Int), x1]) :: (List.map some [x] ++ κ)) (some (.ref T) :: (List.map some [.ref A] ++ τ)) := fun T nT => newPr n hh hr nT ⟨.int (i : Int), [u], [], [], rfl, rfl, dint, u, [], [], [], rfl, rfl, hu, rfl, rfl⟩
    cases k with
    | false =>
      rw [if_neg Bool.false_ne_true]
      refine ⟨⟨us, u, .of (l1 rfl), e3⟩, fun v H' yl => ?_⟩
      obtain ⟨T, u', rfl, nT, rfl, q1⟩ := yl
      have z1 := q1 us (.of (l1 rfl))
      rw [e3] at z1
      cases z1
      exact fin T nT
    | true =>
      rw [if_pos rfl]
      refine ⟨⟨us, u, t1 rfl, e3⟩, fun v H' yl => ?_⟩
      obtain ⟨T, u', rfl, nT, rfl, q1⟩ := yl
      have z1 := q1 us (t1 rfl)
      rw [e3] at z1
      cases z1
      exact fin T nT
  · obtain ⟨f, g, us, n, hh, hr, l1, t1, d1⟩ := key H κ τ r
    have q : xs.length ≤ i := by unfold enumD at hi; rwa [List.length_mapIdx] at hi
    rw [← dats_length d1] at q
    cases k with
    | false =>
      rw [if_neg Bool.false_ne_true]
      exact ⟨us, .of (l1 rfl), q⟩
    | true =>
      rw [if_pos rfl]
      exact ⟨us, t1 rfl, q⟩
theorem i_enum {tpos : Pos} {elts : List Expr} {kk : Nat} {f : Ev} (hm : X.mg "enumerate" = none) (ha : PA X [a] (tOs X.K cl W (vals [f]))) (hg : Gl X "enumerate" := by rfl) (hs : starEach [a] X.env = [(false, eval a X.env)] := by rfl) :
    PI X (.Tuple elts kk tpos) (.Call (.Name "enumerate" p) [a] [] pos) (tI X.K cl W (iEnum [f])) := PI.imp (PI.or (pi_enum hg hm ha hs) (pi_enumT hg hm ha hs)) fun σ H R ⟨τ, κ, env, r, l, q⟩ => by
  unfold iEnum at q
  cases e1 : evs (vals [f]) env with
  | ok ds env1 =>
    rw [e1, Rs.bind_ok] at q
    cases e2 : enumOf ds with
    | none => rw [e2] at q; exact q.elim
    | some pr =>
      rw [e2] at q
      obtain ⟨k, xs⟩ := pr
      match ds, e2 with
      | [x], ex =>
        cases k with
        | false =>
          left
          refine tA_os (os := vals [f]) ⟨τ, κ, env, r, l, ?_⟩
          rw [e1]
          intro us vs H' l2 r2 fu
          obtain ⟨rfl, l3⟩ := full_vals fu
          match vs, l2, r2 with
          | [u], l2, r2 =>
            obtain ⟨f', g', n, hh, hr⟩ := r2.split rfl
            obtain ⟨A, us, ea, la, ta, d1⟩ := dat_seqK (dats1 hh) ex
            subst ea
            exact ⟨A, us, rfl, .of (la rfl), q (Ite X.K A) _ _ H' rfl (iter_enum (k := false) ex) r2⟩
        | true =>
          right
          refine tA_os (os := vals [f]) ⟨τ, κ, env, r, l, ?_⟩
          rw [e1]
          intro us vs H' l2 r2 fu
          obtain ⟨rfl, l3⟩ := full_vals fu
          match vs, l2, r2 with
          | [u], l2, r2 =>
            obtain ⟨f', g', n, hh, hr⟩ := r2.split rfl
            obtain ⟨A, us, ea, la, ta, d1⟩ := dat_seqK (dats1 hh) ex
            subst ea
            exact ⟨A, us, rfl, ta rfl, q (IteT X.K A) _ _ H' rfl (iter_enum (k := true) ex) r2⟩
  | exc _ _ _ _ =>
    rw [e1] at q
    left
    refine tA_os (os := vals [f]) ⟨τ, κ, env, r, l, ?_⟩
    rw [e1]
    exact q
  | stuck => rw [e1] at q; exact q.elim
end
def enR (env : Tw.Env) : Option (Bool × List D) → Rs (List D)
  | some q => .ok (enumD q.2) env
  | none => .stuck
theorem e_enR (env : Tw.Env) (q : Bool × List D) : enR env (some q) = .ok (enumD q.2) env := (rfl)
def k_iEnum : List D → Tw.Env → Rs (List D) := fun ds env1 => enR env1 (enumOf ds)
theorem e_kiEnum (ds : List D) (env1 : Tw.Env) : k_iEnum ds env1 = enR env1 (enumOf ds) := (rfl)
theorem e_iEnum (os : List Ev) (env : Tw.Env) : iEnum os env = (evs (vals os) env).bind k_iEnum := by
  unfold iEnum
  refine congrArg _ (funext fun d => funext fun env1 => ?_)
  show _ = enR env1 (enumOf d)
  cases enumOf d <;> rfl
theorem enumOf_1 (x : D) : enumOf [x] = D.seqK x := (rfl)
end Tw
noncomputable section
namespace Tw
open PySem PySem.Spec PyProof.Rows L2
/-! ### sorted of a tuple of whole numbers -/
section
variable {prog : Program} {w : World} {A : Around} {E : Value → Shared → Prop} {s : Shared}
theorem collect_tup {l : Addr} {vs : List Value} {Q : List Value → Shared → Prop} (hl : s.heap.IsTuple l vs.toArray)
    (h : Q vs { s with heap := (s.heap.push (seqObj "list" #[] 0)).update s.heap.objs.size (Obj.mapSeq (· ++ vs.toArray)) }) (hsz : vs.length ≤ sizeLine) :
    wpAny (model prog w) A (collect (.ref l)) Q E s := by
  obtain ⟨o, ho, hc, n, hd⟩ := id hl
  unfold collect
  refine wpAny_bind (wpAny_runValue (codeAny_builtin entry_proto_collect' ?_))
  refine wpAny_bind (wpAny_newList (wpAny_pure ⟨Code.quiet_builtin _ (by decide +kernel), codeAny_builtin entry_list_iadd' ?_⟩))
  show wpAny _ _ (Builtin.List.listExtendWith (.ref s.heap.objs.size) (.ref l) (.ref s.heap.objs.size)) _ _ { s with heap := s.heap.push (seqObj "list" #[] 0) }
  unfold Builtin.List.listExtendWith
  have ho' : (s.heap.push (seqObj "list" #[] 0)).get? l = some o := Heap.get?_push_of_some _ ho
  refine wpAny_bind (wpAny_typeOf (T := "tuple") ⟨o, ho', hc⟩ ?_)
  have ht : (Value.type "tuple" == Value.type "tuple") = true := by rfl
  rw [if_pos (by rw [ht]; simp)]
  refine wpAny_bind (listItems_at ho' hd ?_)
  refine wpAny_bind (listItems_at (xs := #[]) (n := 0) (Heap.get?_push_size _ rfl) rfl ?_)
  rw [if_neg (by simp)]
  refine wpAny_bind (listUpdate_at (xs := #[]) (n := 0) (Heap.get?_push_size _ rfl) rfl ?_ (Nat.zero_le _) (by show (#[] ++ vs.toArray).size ≤ sizeLine + 1; simp only [Array.size_append, List.size_toArray, List.length_nil]; omega))
  refine wpAny_pure ?_
  refine wpAny_bind (wpAny_load (get?_update_seq (Heap.get?_push_size _ rfl) _) ?_)
  have e : ((#[] : Array Value) ++ vs.toArray).toList = vs := by simp
  show wpAny (model prog w) A (pure ((#[] : Array Value) ++ vs.toArray).toList) Q E _
  rw [e]
  exact wpAny_pure h
/-- sorted(t) of a tuple at l -/
theorem sorted_tup {l : Addr} {vs : List Value} {ltv : Value → Value → Bool} {Q : Value → Shared → Prop} (O : SrtO.Swo ltv) (hl : s.heap.IsTuple l vs.toArray) (hz : vs.length ≤ sizeLine)
    (hS : 2 ≤ vs.length → ∀ (g : Heap) (a : Addr), SrtO.SortableO prog w A.in1.in1 { s with heap := g } a vs ltv)
    (h : ∀ out : List Value, SrtO.Srtd ltv out → SrtO.Stb ltv out vs → Q (.ref (s.heap.objs.size + 1)) { s with heap := sortedAll s.heap vs out.toArray }) : wpAny (model prog w) A (call (.builtin "sorted") [.ref l]) Q E s := by
  refine Calls.call_function_entry kind_sorted plain_sorted entry_sorted (args_sorted1 _) ?_
  unfold Builtin.«sorted»
  refine wpAny_bind (m := checkCount "sorted" 1 1 _) (wpAny_pure (wpAny_bind (collect_tup hl (wpAny_bind (wpAny_newList ?_ hz)) hz)))
  obtain ⟨g, hg⟩ : ∃ g, g = ((s.heap.push (seqObj "list" #[] 0)).update s.heap.objs.size (Obj.mapSeq (· ++ vs.toArray))) := ⟨_, rfl⟩
  have gz : g.objs.size = s.heap.objs.size + 1 := by rw [hg, Heap.size_update]; exact Heap.size_push ..
  have gL : (g.push (seqObj "list" vs.toArray 0)).get? (s.heap.objs.size + 1) = some (seqObj "list" vs.toArray 0) := by rw [← gz]; exact Heap.get?_push_size _ rfl
  rw [← hg]
  show wpAny _ _ _ _ _ { s with heap := g.push (seqObj "list" vs.toArray 0) }
  rw [gz]
  refine wpAny_bind (wpAny_holding (wpAny_call_entry slot_list_sort ⟨_, gL, rfl⟩ entry_list_sort (SrtO.list_sort_ord O gL hz (fun h2 => hS h2 _ _) fun out hs hb => ⟨_, rfl, ?_⟩) (args_list_sort _)))
  have z := h out hs hb
  unfold sortedAll at z
  rw [← hg] at z
  exact wpAny_pure ⟨_, rfl, z⟩
end
def rSorted2 (K : PySem.W.Frag) : List V → Hp → VK → Prop := fun vs H Q => ∃ (a : Addr) (ns : List Int), vs = [V.ref a] ∧ (SqL K H a (ns.map V.int) ∨ SqT K H a (ns.map V.int)) ∧
  ∀ (ns' : List Int) (p : Addr), ns'.Perm ns → ns'.Pairwise (· ≤ ·) → H p = none → Q (.ref p) (upd H p (.lst (ns'.map V.int)))
section
variable {X : Cx} {cl : Nat → Addr}
theorem cr_sorted2 : CallR X (.builtin "sorted") (rSorted2 X.K) := by
  intro pins s σ H vs us Q I r h
  obtain ⟨a, ns, rfl, hs | hs, q⟩ := h
  · exact cr_sortedI pins s σ H _ us Q I r ⟨a, ns, rfl, hs, q⟩
  · obtain ⟨its, rv, ht, hz⟩ := I.tuple hs
    rw [Vals.ref1 r]
    refine sorted_tup SrtO.swo_int ht (Nat.le_trans (Nat.le_of_eq rv.length.symm) hz) (fun h2 g a' => SrtO.ints_sortable rv.ints h2) fun out h1 h2 => ?_
    obtain ⟨k1, k2, k3⟩ := SrtO.ints_out rv.ints h1 h2
    obtain ⟨ep, he⟩ := sortedAll_at s.heap its out.toArray
    have J : Inv X pins σ (upd H (s.heap.objs.size + 1) (.lst ((out.map SrtO.iv).map V.int))) { s with heap := sortedAll s.heap its out.toArray } :=
      I.laid (t' := s.toks) (fun _ _ => sortedAll_old) (Nat.le_succ _) ⟨by rw [List.length_map] at hz; rw [List.length_map, k2.length_eq]; exact hz, out, ep, vals_of_ints k1, he⟩
    exact ⟨.ref _, _, J, rfl, q _ _ k2 k3 (I.hok.fresh (Nat.le_succ _))⟩
def gSorted2 : List D → Option D
  | [x] => (D.seqK x).bind fun q => (D.ints q.2).map fun ns => .lst true ((ns.mergeSort fun a b => decide (a ≤ b)).map .int)
  | _ => none
theorem sorted_2 (x : D) : gSorted2 [x] = (D.seqK x).bind fun q => (D.ints q.2).map fun ns => .lst true ((ns.mergeSort fun a b => decide (a ≤ b)).map .int) := (rfl)
theorem s_sorted2 {K : PySem.W.Frag} : OpS K cl (rSorted2 K) gSorted2 := by
  intro as d vs H κ τ Q h l r q
  match as, h with
  | [x], h =>
    obtain ⟨v, rfl⟩ := one_of rfl l
    rw [sorted_2] at h
    simp only [Option.bind_eq_some_iff, Option.map_eq_some_iff] at h
    obtain ⟨⟨k, xs⟩, ek, ns, e, rfl⟩ := h
    obtain ⟨f, g, n, hh, hr⟩ := r.split l
    obtain ⟨a, us, e1, la, ta, d1⟩ := dat_seqK (dats1 hh) ek
    subst e1
    simp only at e
    rw [ints_of e] at d1
    rw [dats_ints d1] at la ta
    refine ⟨a, ns, rfl, ?_, fun ns' p hp hs hn => q _ _ (by rw [sort_eq hp hs]; exact newL n hh hr hn (ints_dats _))⟩
    cases k with
    | false => exact .inl (.of (la rfl))
    | true => exact .inr (ta rfl)
end
end Tw
noncomputable section
namespace Tw
open PySem PySem.Spec PyProof.Rows L2
/-! ### a value frozen -/
def fFrz (f : Ev) : Ev := fun env => (f env).bind fun d env1 => .ok (D.frz d) env1
section
variable {X : Cx} {cl : Nat → Addr} {W : WX} {a b c e : Expr} {es : List Expr} {pos apos p pf : Pos} {x : Str} {fa fb fc : Ev} {io : List Nat} {o : Expr} {i : Nat} {K : PySem.W.Frag} {M : Addr → Prop} {H : Hp}
theorem j_frz (h : PE X e (tE X.K cl W fa)) : PE X e (tE X.K cl W (fFrz fa)) := PE.imp h fun σ H Q ⟨τ, κ, env, r, l, q⟩ => by
  refine ⟨τ, κ, env, r, l, ?_⟩
  unfold fFrz at q
  cases e1 : fa env with
  | ok d env1 => rw [e1] at q; exact fun v H1 r1 => q v H1 r1.freeze
  | exc _ _ _ _ => rw [e1] at q; exact q
  | stuck => rw [e1] at q; exact q
/-! ### a thing in an object's field, taken out and put back -/
theorem put_put (f : Str) (d d' : D) : ∀ {ns : List Str} {ds : List D} {d0 : D}, lookD ns ds f = some d0 → putD f d ns (putD f d' ns ds) = putD f d ns ds
  | [], _, _, h => by cases h
  | _ :: _, [], _, h => by cases h
  | n :: ns, e :: ds, d0, h => by
    unfold lookD at h
    show putD f d (n :: ns) (if n = f then d' :: ds else e :: putD f d' ns ds) = if n = f then d :: ds else e :: putD f d ns ds
    by_cases c : n = f
    · rw [if_pos c, if_pos c]
      show (if n = f then d :: ds else _) = _
      rw [if_pos c]
    · rw [if_neg fun z => c z.symm] at h
      rw [if_neg c, if_neg c]
      show (if n = f then _ else e :: putD f d ns (putD f d' ns ds)) = _
      rw [if_neg c, put_put f d d' h]
theorem look_put (f : Str) (d' : D) : ∀ {ns : List Str} {ds : List D} {d : D}, lookD ns ds f = some d → lookD ns (putD f d' ns ds) f = some d'
  | n :: ns, e :: ds, d, h => by
    unfold lookD at h
    by_cases c : f = n
    · have e1 : putD f d' (n :: ns) (e :: ds) = d' :: ds := by
        show (if n = f then d' :: ds else _) = _
        rw [if_pos c.symm]
      rw [e1]
      unfold lookD
      rw [if_pos c]
    · rw [if_neg c] at h
      have e1 : putD f d' (n :: ns) (e :: ds) = e :: putD f d' ns ds := by
        show (if n = f then d' :: ds else e :: putD f d' ns ds) = _
        rw [if_neg fun z => c z.symm]
      rw [e1]
      unfold lookD
      rw [if_neg c]
      exact look_put f d' h
  | [], _, _, h => by cases h
  | _ :: _, [], _, h => by cases h
theorem put_len (f : Str) (d' : D) : ∀ {ns : List Str} {ds : List D} {d : D}, lookD ns ds f = some d → (putD f d' ns ds).length = ds.length
  | n :: ns, e :: ds, d, h => by
    unfold lookD at h
    show (if n = f then d' :: ds else e :: putD f d' ns ds).length = _
    by_cases c : f = n
    · rw [if_pos c.symm]; rfl
    · rw [if_neg c] at h
      rw [if_neg fun z => c z.symm, List.length_cons, List.length_cons, put_len f d' h]
  | [], _, _, h => by cases h
  | _ :: _, [], _, h => by cases h
theorem dats_hole {f : Str} {d : D} : ∀ {ns : List Str} {ds : List D} {vs : List V} {g : List Addr}, Dats K cl M H ds vs g → lookD ns ds f = some d →
    ∃ v k g', (ns.zip vs).lookup f = some v ∧ g.Perm (k ++ g') ∧ Dat K cl M H d v k ∧ ∀ p, v = .ref p → Dats K cl M H (putD f (.at p) ns ds) vs g'
  | n :: ns, e :: ds, vs, g, h, hl => by
    obtain ⟨u, us, f1, f2, rfl, rfl, h1, h2⟩ := h
    unfold lookD at hl
    by_cases c : f = n
    · rw [if_pos c] at hl
      cases hl
      refine ⟨u, f1, f2, by rw [List.zip_cons_cons, c, List.lookup_cons_self], .refl _, h1, fun p ep => ?_⟩
      show Dats K cl M H (if n = f then .at p :: ds else _) _ _
      rw [if_pos c.symm]
      exact ⟨u, us, [], f2, rfl, rfl, ⟨ep, rfl⟩, h2⟩
    · rw [if_neg c] at hl
      obtain ⟨v, k, g', e1, e2, e3, e4⟩ := dats_hole h2 hl
      have c' : (f == n) = false := by simpa using c
      refine ⟨v, k, f1 ++ g', by rw [List.zip_cons_cons, List.lookup_cons, c', e1], ?_, e3, fun p ep => ?_⟩
      · refine (List.Perm.append_left f1 e2).trans ?_
        rw [← List.append_assoc, ← List.append_assoc]
        exact List.Perm.append_right _ List.perm_append_comm
      · show Dats K cl M H (if n = f then _ else e :: putD f (.at p) ns ds) _ _
        rw [if_neg fun z => c z.symm]
        exact ⟨u, us, f1, g', rfl, rfl, h1, e4 p ep⟩
  | [], _, _, _, _, hl => by cases hl
  | _ :: _, [], _, _, _, hl => by cases hl
theorem dats_fill {f : Str} {d : D} {p : Addr} {k : List Addr} (hd : Dat K cl M H d (.ref p) k) : ∀ {ns : List Str} {ds : List D} {vs : List V} {g : List Addr}, Dats K cl M H ds vs g → lookD ns ds f = some (.at p) →
    ∃ g2, g2.Perm (k ++ g) ∧ Dats K cl M H (putD f d ns ds) vs g2
  | n :: ns, e :: ds, vs, g, h, hl => by
    obtain ⟨u, us, f1, f2, rfl, rfl, h1, h2⟩ := h
    unfold lookD at hl
    by_cases c : f = n
    · rw [if_pos c] at hl
      cases hl
      obtain ⟨rfl, rfl⟩ := h1
      refine ⟨k ++ f2, .refl _, ?_⟩
      show Dats K cl M H (if n = f then d :: ds else _) _ _
      rw [if_pos c.symm]
      exact ⟨_, us, k, f2, rfl, rfl, hd, h2⟩
    · rw [if_neg c] at hl
      obtain ⟨g2, e2, e4⟩ := dats_fill hd h2 hl
      refine ⟨f1 ++ g2, ?_, ?_⟩
      · refine (List.Perm.append_left f1 e2).trans ?_
        rw [← List.append_assoc, ← List.append_assoc]
        exact List.Perm.append_right _ List.perm_append_comm
      · show Dats K cl M H (if n = f then _ else e :: putD f d ns ds) _ _
        rw [if_neg fun z => c z.symm]
        exact ⟨u, us, f1, g2, rfl, rfl, h1, e4⟩
  | [], _, _, _, _, hl => by cases hl
  | _ :: _, [], _, _, _, hl => by cases hl
theorem Rel.hole {f : Str} {c : Nat} {ns : List Str} {ds : List D} {d : D} {v : V} {κ : Tw.Env} {τ : S} (r : Rel K cl H (some (.obj true c ns ds) :: κ) (some v :: τ)) (e : lookD ns ds f = some d) (hd : ∀ M v k, Dat K cl M H d v k → ∃ p, v = .ref p) :
    ∃ ad dx vs p, v = .ref ad ∧ H ad = some (.ins (cl c) dx (ns.zip vs)) ∧ (ns.zip vs).lookup f = some (.ref p) ∧ Rel K cl H (some d :: some (.obj true c ns (putD f (.at p) ns ds)) :: κ) (some (.ref p) :: some (.ref ad) :: τ) := by
  obtain ⟨F, n, h⟩ := r
  obtain ⟨v1, xs1, f1, f2, e1, e2, h1, h2⟩ := h
  cases e1
  obtain ⟨ad, dx, vs, g, rfl, t, lv, hds, w⟩ := h1
  obtain ⟨u, k, g', q1, q2, q3, q4⟩ := dats_hole hds e
  obtain ⟨p, rfl⟩ := hd _ _ _ q3
  rcases w with ⟨_, hM, e7⟩ | ⟨z, _⟩
  · refine ⟨ad, dx, vs, p, rfl, t, q1, ?_⟩
    have pm : F.Perm (k ++ ((ad :: g') ++ f2)) := by
      rw [e2, e7]
      rw [← List.append_assoc]
      refine List.Perm.append_right f2 ?_
      exact (q2.cons ad).trans List.perm_middle.symm
    exact Rel.of_perm (f := F) ⟨.ref p, _, k, (ad :: g') ++ f2, rfl, rfl, q3, .ref ad, _, ad :: g', f2, rfl, rfl, ⟨ad, dx, vs, g', rfl, t, lv, q4 p rfl, .inl ⟨rfl, hM, rfl⟩⟩, h2⟩ n pm
  · cases z
theorem Rel.fill {f : Str} {c : Nat} {ns : List Str} {ds : List D} {d : D} {p : Addr} {v : V} {κ : Tw.Env} {τ : S} (r : Rel K cl H (some d :: some (.obj true c ns ds) :: κ) (some (.ref p) :: some v :: τ)) (e : lookD ns ds f = some (.at p)) :
    Rel K cl H (some (.obj true c ns (putD f d ns ds)) :: κ) (some v :: τ) := by
  obtain ⟨F, n, h⟩ := r
  obtain ⟨v1, xs1, k, f2, e1, e2, h1, h2⟩ := h
  cases e1
  obtain ⟨v2, xs2, f3, f4, e3, e4, h3, h4⟩ := h2
  cases e3
  obtain ⟨ad, dx, vs, g, rfl, t, lv, hds, w⟩ := h3
  obtain ⟨g2, q1, q2⟩ := dats_fill h1 hds e
  rcases w with ⟨_, hM, e7⟩ | ⟨z, _⟩
  · have pm : F.Perm ((ad :: g2) ++ f4) := by
      rw [e2, e4, e7, ← List.append_assoc]
      refine List.Perm.append_right f4 ?_
      exact List.perm_middle.trans (q1.symm.cons ad)
    exact Rel.of_perm (f := F) ⟨.ref ad, _, ad :: g2, f4, rfl, rfl, ⟨ad, dx, vs, g2, rfl, t, lv, q2, .inl ⟨rfl, hM, rfl⟩⟩, h4⟩ n pm
  · cases z
/-! ### o.f.m(e): a method of the list in a field -/
def fldO (own : Nat → Bool) (f : Str) : Option (Nat × List Str × List D) → Option ((Nat × List Str × List D) × List D)
  | some q => if own q.1 then ((lookD q.2.1 q.2.2 f).bind D.own).map fun xs => (q, xs) else none
  | none => none
def fMtF1 (i : Nat) (own : Nat → Bool) (f : Str) (gm : List D → D → Option (D × List D)) (fe : Ev) : Ev := fun env => match fldO own f (ownOAt env i) with
  | some z => (fe (env.set i none)).bind fun y env1 => match gm z.2 y with
    | some q => .ok q.1 (env1.set i (some (.obj true z.1.1 z.1.2.1 (putD f (.lst true q.2) z.1.2.1 z.1.2.2))))
    | none => .stuck
  | none => .stuck
def fMtF0 (i : Nat) (own : Nat → Bool) (f : Str) (gm : List D → Option (D × List D)) : Ev := fun env => match fldO own f (ownOAt env i) with
  | some z => match gm z.2 with
    | some q => .ok q.1 (env.set i (some (.obj true z.1.1 z.1.2.1 (putD f (.lst true q.2) z.1.2.1 z.1.2.2))))
    | none => .stuck
  | none => .stuck
theorem fldO_eq {own : Nat → Bool} {f : Str} {env : Tw.Env} {z : (Nat × List Str × List D) × List D} (h : fldO own f (ownOAt env i) = some z) : env[i]? = some (some (.obj true z.1.1 z.1.2.1 z.1.2.2)) ∧ own z.1.1 = true ∧ lookD z.1.2.1 z.1.2.2 f = some (.lst true z.2) := by
  cases e : ownOAt env i with
  | none => rw [e] at h; cases h
  | some q =>
    rw [e] at h
    unfold fldO at h
    simp only at h
    split at h
    · rename_i ow
      obtain ⟨xs, e2, rfl⟩ := Option.map_eq_some_iff.mp h
      obtain ⟨d, e3, e4⟩ := Option.bind_eq_some_iff.mp e2
      exact ⟨ownOAt_eq e, ow, by rw [e3, own_eq e4]⟩
    · cases h
theorem dat_lst_ref {m : Bool} {xs : List D} {v : V} {k : List Addr} (h : Dat K cl M H (.lst m xs) v k) : ∃ p, v = .ref p := by
  obtain ⟨a, _, _, e, _⟩ := h
  exact ⟨a, e⟩
theorem rd_mtF1 {own : Nat → Bool} {f : Str} {r : V → List V → Hp → VK → Prop} {gm : List D → D → Option (D × List D)} (ho : FldOk K cl own f) (hs : Mt1S K cl r gm) {σ : S} {H : Hp} {Q : VK} (h : tE K cl W (fMtF1 i own f gm fa) σ H Q) :
    tBM K "list" r (tFld K (tVar i) f) (tOs K cl W [.val fa]) σ H Q := by
  obtain ⟨τ, κ, env, rl, l, q⟩ := h
  unfold fMtF1 at q
  cases e : fldO own f (ownOAt env i) with
  | none => rw [e] at q; exact q.elim
  | some z =>
    obtain ⟨⟨c, ns, ds⟩, xs⟩ := z
    rw [e] at q
    simp only at q
    obtain ⟨e0, ow, el⟩ := fldO_eq e
    simp only at e0 ow el
    obtain ⟨v, e1, r1⟩ := slot_out (A := []) (Y := []) rl rfl l e0
    obtain ⟨ad, dx, vs, p, rfl, t, lk, r2⟩ := Rel.hole r1 el fun M v k h => dat_lst_ref h
    obtain ⟨p', us, ep, tp, _⟩ := own_head r2
    cases ep
    refine ⟨.ref ad, e1, ad, cl c, dx, _, .ref p, rfl, t, (ho.ok c ow).1.c, (ho.ok c ow).2, lk, .inl ⟨rfl, us, .of tp⟩, ?_⟩
    refine tE_bind1 (A := [some (.lst true xs), some (.obj true c ns (putD f (.at p) ns ds))]) (Y := [some (.ref p), some (.ref ad)]) rfl r2 l q fun y env1 w H1 h1 r3 => ?_
    show r _ _ _ _
    cases e2 : gm xs y with
    | none => rw [e2] at h1; exact h1.elim
    | some z =>
      rw [e2] at h1
      refine hs xs y z p w H1 _ _ Q e2 r3 fun u H2 r4 => h1 u H2 ?_
      have r5 := Rel.swap3 (A := [some z.1]) (X := [some u]) (B := [some (.lst true z.2), some (.obj true c ns (putD f (.at p) ns ds))]) (Y := [some (.ref p), some (.ref ad)]) r4 rfl rfl
      have r6 := Rel.fill (f := f) r5 (look_put f _ el)
      rw [put_put f _ _ el] at r6
      exact slot_in (A := [some z.1]) (Y := [some u]) r6 rfl l e1
theorem rd_mtF0 {own : Nat → Bool} {f : Str} {r : V → List V → Hp → VK → Prop} {gm : List D → Option (D × List D)} (ho : FldOk K cl own f) (hs : Mt0S K cl r gm) {σ : S} {H : Hp} {Q : VK} (h : tE K cl W (fMtF0 i own f gm) σ H Q) :
    tBM0 K "list" r (tFld K (tVar i) f) σ H Q := by
  obtain ⟨τ, κ, env, rl, l, q⟩ := h
  unfold fMtF0 at q
  cases e : fldO own f (ownOAt env i) with
  | none => rw [e] at q; exact q.elim
  | some z =>
    obtain ⟨⟨c, ns, ds⟩, xs⟩ := z
    rw [e] at q
    simp only at q
    obtain ⟨e0, ow, el⟩ := fldO_eq e
    simp only at e0 ow el
    obtain ⟨v, e1, r1⟩ := slot_out (A := []) (Y := []) rl rfl l e0
    obtain ⟨ad, dx, vs, p, rfl, t, lk, r2⟩ := Rel.hole r1 el fun M v k h => dat_lst_ref h
    obtain ⟨p', us, ep, tp, _⟩ := own_head r2
    cases ep
    refine ⟨.ref ad, e1, ad, cl c, dx, _, .ref p, rfl, t, (ho.ok c ow).1.c, (ho.ok c ow).2, lk, .inl ⟨rfl, us, .of tp⟩, ?_⟩
    cases e2 : gm xs with
    | none => rw [e2] at q; exact q.elim
    | some z =>
      rw [e2] at q
      refine hs xs z p H _ _ Q e2 r2 fun u H2 r4 => q u H2 ?_
      have r5 := Rel.swap3 (A := [some z.1]) (X := [some u]) (B := [some (.lst true z.2), some (.obj true c ns (putD f (.at p) ns ds))]) (Y := [some (.ref p), some (.ref ad)]) r4 rfl rfl
      have r6 := Rel.fill (f := f) r5 (look_put f _ el)
      rw [put_put f _ _ el] at r6
      have r7 := slot_in (A := [some z.1]) (Y := [some u]) r6 rfl l e1
      rwa [List.set_set] at r7
theorem jf_append {own : Nat → Bool} {f : Str} (ho : FldOk X.K cl own f) (hv : PE X o (tVar i)) (ha : PA X [e] (tOs X.K cl W [.val fa])) (hb : attributeBase o f X.env (eval o X.env) = eval o X.env := by rfl) (hbase : attributeBase (.Attribute o f pf) "append" X.env (eval (.Attribute o f pf) X.env) = eval (.Attribute o f pf) X.env := by rfl)
    (hfew : ((backTo pos (starEach [e] X.env)).all (fun x => !x.1) && (backToKw pos (keywordEach [] X.env)).all (fun x => x.1.isSome) && decide ([e].length + ([] : List Keyword).length + (if ([] : List Keyword).isEmpty then 0 else 1) < 30)) = true := by rfl)
    (hline : (apos.endLine == pos.line) = true := by rfl) (hs : starEach [e] X.env = (false, eval e X.env) :: starEach [] X.env := by rfl) (hplain : (backTo pos (starEach [] X.env)).any (·.1) = false := by rfl) :
    PE X (.Call (.Attribute (.Attribute o f pf) "append" apos) [e] [] pos) (tE X.K cl W (fMtF1 i own f gAppend fa)) :=
  PE.imp (pe_bm PySem.F.plainAttrs_list PySem.F.slot_list_append PySem.F.type_list_append mt_append (pe_fld hv hb) ha hbase hfew hline hs hplain) fun σ H Q h => rd_mtF1 ho s_append h
theorem jf_extend {own : Nat → Bool} {f : Str} (ho : FldOk X.K cl own f) (hv : PE X o (tVar i)) (ha : PA X [e] (tOs X.K cl W [.val fa])) (hb : attributeBase o f X.env (eval o X.env) = eval o X.env := by rfl) (hbase : attributeBase (.Attribute o f pf) "extend" X.env (eval (.Attribute o f pf) X.env) = eval (.Attribute o f pf) X.env := by rfl)
    (hfew : ((backTo pos (starEach [e] X.env)).all (fun x => !x.1) && (backToKw pos (keywordEach [] X.env)).all (fun x => x.1.isSome) && decide ([e].length + ([] : List Keyword).length + (if ([] : List Keyword).isEmpty then 0 else 1) < 30)) = true := by rfl)
    (hline : (apos.endLine == pos.line) = true := by rfl) (hs : starEach [e] X.env = (false, eval e X.env) :: starEach [] X.env := by rfl) (hplain : (backTo pos (starEach [] X.env)).any (·.1) = false := by rfl) :
    PE X (.Call (.Attribute (.Attribute o f pf) "extend" apos) [e] [] pos) (tE X.K cl W (fMtF1 i own f gExtend fa)) :=
  PE.imp (pe_bm PySem.F.plainAttrs_list PySem.F.slot_list_extend PySem.F.type_list_extend mt_extend (pe_fld hv hb) ha hbase hfew hline hs hplain) fun σ H Q h => rd_mtF1 ho s_extend h
theorem jf_pop {own : Nat → Bool} {f : Str} (ho : FldOk X.K cl own f) (hv : PE X o (tVar i)) (hb : attributeBase o f X.env (eval o X.env) = eval o X.env := by rfl) (hbase : attributeBase (.Attribute o f pf) "pop" X.env (eval (.Attribute o f pf) X.env) = eval (.Attribute o f pf) X.env := by rfl) (hline : (apos.endLine == pos.line) = true := by rfl) :
    PE X (.Call (.Attribute (.Attribute o f pf) "pop" apos) [] [] pos) (tE X.K cl W (fMtF0 i own f gPop)) :=
  PE.imp (pe_bm0 PySem.F.plainAttrs_list PySem.F.slot_list_pop PySem.F.type_list_pop mt_pop (pe_fld hv hb) hbase hline) fun σ H Q h => rd_mtF0 ho s_pop h
end
end Tw
noncomputable section
namespace Tw
open PySem PySem.Spec PyProof.Rows L2
/-! ### o.f op= e -/
def fldV (own : Nat → Bool) (f : Str) : Option (Nat × List Str × List D) → Option (Nat × D)
  | some q => if own q.1 then (lookD q.2.1 q.2.2 f).bind fun d => if D.ok d then some (q.1, d) else none else none
  | none => none
def augF (i : Nat) (c : Nat) (f : Str) (env : Tw.Env) : Option D → Option (Nat × List Str × List D) → Out
  | some z, some q => if decide (q.1 = c) && decide (q.2.1.length = q.2.2.length) && decide (q.2.1.length < 1000) && oldOk f q.2.1 q.2.2 && D.ok z then .next (env.set i (some (.obj true q.1 (putN f q.2.1) (putD f z q.2.1 q.2.2)))) else .stuck
  | _, _ => .stuck
def sFAug (i : Nat) (own : Nat → Bool) (f : Str) (g : List D → Option D) (fe : Ev) : Sv := fun env => match fldV own f (ownOAt env i) with
  | some u => sBind (fe env) fun y env1 => augF i u.1 f env1 (g [u.2, y]) (ownOAt env1 i)
  | none => .stuck
section
variable {X : Cx} {cl : Nat → Addr} {W : WX} {a b c e : Expr} {es : List Expr} {pos apos p pf : Pos} {x : Str} {fa fb fc : Ev} {io : List Nat} {o : Expr} {i : Nat} {K : PySem.W.Frag} {M : Addr → Prop} {H : Hp}
/-- a new thing stored in the field of the object in front -/
theorem Rel.store {f : Str} {c : Nat} {ns : List Str} {ds : List D} {z : D} {u v : V} {κ : Tw.Env} {τ : S} (r : Rel K cl H (some z :: some (.obj true c ns ds) :: κ) (some u :: some v :: τ)) (ln : ns.length = ds.length) (ok : oldOk f ns ds = true) :
    ∃ ad dx fs, v = .ref ad ∧ H ad = some (.ins (cl c) dx fs) ∧ fs.length = ns.length ∧ Rel K cl (upd H ad (.ins (cl c) dx (putF f u fs))) (some (.obj true c (putN f ns) (putD f z ns ds)) :: κ) (some v :: τ) := by
  obtain ⟨F, n, h⟩ := r
  obtain ⟨v1, xs1, k, f2, e1, e2, h1, h2⟩ := h
  cases e1
  obtain ⟨v2, xs2, f3, f4, e3, e4, h3, h4⟩ := h2
  cases e3
  obtain ⟨ad, dx, vs, g, rfl, t, lv, hds, w⟩ := h3
  obtain ⟨ws, g2, q1, q2, qp, q3⟩ := put_zip f z u hds ln h1 ok
  rcases w with ⟨_, hM, e7⟩ | ⟨z, _⟩
  · refine ⟨ad, dx, _, rfl, t, by rw [List.length_zip]; omega, ?_⟩
    rw [q1]
    have pm : F.Perm ((ad :: g2) ++ f4) := by
      rw [e2, e4, e7, ← List.append_assoc]
      refine List.Perm.append_right f4 ?_
      exact List.perm_middle.trans (qp.symm.cons ad)
    have n1 := pm.nodup_iff.mp n
    have n2 := List.nodup_append.mp n1
    have np : ad ∉ f4 := fun z => n2.2.2 ad List.mem_cons_self ad z rfl
    have np2 : ad ∉ g2 := (List.nodup_cons.mp n2.1).1
    have tr : ∀ {f0 : List Addr} {ob : HO}, ad ∉ f0 → ∀ a o, H a = some o → (a ∈ F → a ∈ f0) → upd H ad ob a = some o := fun {f0 ob} np a o e hf => by
      rw [upd_ne fun z => np (by rw [← z]; exact hf (by rw [z]; exact hM))]
      exact e
    refine ⟨(ad :: g2) ++ f4, n1, .ref ad, _, ad :: g2, f4, rfl, rfl, ⟨ad, dx, ws, g2, rfl, upd_same, q2, ?_, .inl ⟨rfl, pm.mem_iff.mp hM, rfl⟩⟩, ?_⟩
    · exact dats_tr q3 (fun a z => .inl (pm.mem_iff.mpr z)) (fun a z => List.mem_append_left _ (List.mem_cons_of_mem _ z)) (tr np2)
    · exact slots_tr h4 (fun a z => .inl (pm.mem_iff.mpr z)) (fun a z => List.mem_append_right _ z) (tr np)
  · cases z
theorem s_faug {own : Nat → Bool} {f : Str} {op : Operator} {r : R2} {g : List D → Option D} {px : Pos} (ho : FldOk X.K cl own f) (hop : OpR X (inplaceOp op) r) (hs : OpS X.K cl (rw2 r) g) (hv : PE X o (tVar i)) (he : PE X e (tE X.K cl W fa)) : PS X (.AugAssign (.Attribute o f px) op e pos) (tS X.K cl W io (sFAug i own f g fa)) :=
  PS.imp (ps_fldaug hv he (fun pins s σ H x y u v Q I ru rv h => hop pins s σ H x y u v Q I ru rv h)) fun Z σ H ⟨τ, κ, env, rl, l, q⟩ => by
  unfold sFAug at q
  cases e1 : ownOAt env i with
  | none => rw [e1] at q; exact q.elim
  | some q0 =>
    obtain ⟨c, ns, ds⟩ := q0
    rw [e1] at q
    cases e2 : fldV own f (some (c, ns, ds)) with
    | none => rw [e2] at q; exact q.elim
    | some u0 =>
      rw [e2] at q
      unfold fldV at e2
      simp only at e2
      split at e2
      · rename_i ow
        obtain ⟨d0, e3, e4⟩ := Option.bind_eq_some_iff.mp e2
        split at e4
        · rename_i ok0
          cases e4
          simp only at q
          have e0 := ownOAt_eq e1
          simp only at e0
          obtain ⟨v, ev, r1⟩ := slot_out (A := []) (Y := []) rl rfl l e0
          obtain ⟨F, G, n, hh, hr⟩ := Rel.split (as := [.obj true c ns ds]) (vs := [v]) r1 rfl
          obtain ⟨ad, dx, vs, g1, ea, t, lv, d1, w⟩ := dats1 hh
          subst ea
          obtain ⟨v0, lk, hv0⟩ := lookD_dats d1 e3 ok0
          refine ⟨.ref ad, ev, ad, cl c, dx, _, v0, rfl, t, (ho.ok c ow).1.c, (ho.ok c ow).2, lk, ?_⟩
          have r2 := derive n hh hr hv0
          have r3 := Rel.swap3 (A := [some d0]) (X := [some v0]) (B := [some (.obj true c ns ds)]) (Y := [some (.ref ad)]) r2 rfl rfl
          have r4 := slot_in (A := [some d0]) (Y := [some v0]) r3 rfl l ev
          have es : (env.set i none).set i (some (D.obj true c ns ds)) = env := by
            rw [List.set_set]
            obtain ⟨hi, e⟩ := List.getElem?_eq_some_iff.mp e0
            rw [← e]
            exact List.set_getElem_self hi
          rw [es] at r4
          refine sbind_at (A := [some d0]) (Y := [some v0]) rfl r4 l q fun y env1 w1 H1 h1 r5 => ?_
          have r6 : Rel X.K cl H1 (List.map some [d0, y] ++ (κ ++ env1)) (List.map some [v0, w1] ++ (τ ++ σ)) := Rel.swap3 (A := [some y]) (X := [some w1]) (B := [some d0]) (Y := [some v0]) r5 rfl rfl
          cases eg : g [d0, y] with
          | none => rw [eg] at h1; exact h1.elim
          | some z =>
            rw [eg] at h1
            cases eo : ownOAt env1 i with
            | none => rw [eo] at h1; exact h1.elim
            | some q1 =>
              obtain ⟨c1, ns1, ds1⟩ := q1
              rw [eo] at h1
              simp only [augF] at h1
              split at h1
              · rename_i cond
                simp only [Bool.and_eq_true, decide_eq_true_eq] at cond
                obtain ⟨⟨⟨⟨c2, ln⟩, l1⟩, okf⟩, okz⟩ := cond
                subst c2
                refine hs [d0, y] z [v0, w1] H1 _ _ _ eg rfl r6 fun u H2 r7 => ?_
                have r8 : Rel X.K cl H2 (some z :: (κ ++ env1)) (some u :: (τ ++ σ)) := Rel.drop (A := [some d0, some y]) (X := [some v0, some w1]) (Rel.swap3 (A := [some z]) (X := [some u]) (B := [some d0, some y]) (Y := [some v0, some w1]) r7 rfl rfl) rfl
                obtain ⟨v', ev', r9⟩ := slot_out (A := [some z]) (Y := [some u]) r8 rfl l (ownOAt_eq eo)
                rw [ev] at ev'
                cases ev'
                have r10 := Rel.swap3 (A := [some (.obj true c1 ns1 ds1)]) (X := [some (.ref ad)]) (B := [some z]) (Y := [some u]) r9 rfl rfl
                obtain ⟨ad', dx', fs', ea, t', lf, r11⟩ := Rel.store (f := f) r10 ln okf
                cases ea
                refine ⟨dx', fs', t', by omega, ?_⟩
                have r12 := slot_in (A := []) (Y := []) r11 rfl l ev
                rw [List.set_set] at r12
                exact h1 σ _ .refl r12
              · exact h1.elim
        · cases e4
      · cases e2
/-! ### o.m(e, ..) of an object that stands in a slot -/
def fMeth (i c : Nat) (mn : Str) (io : List Nat) (h : List D → Rf) (os : List Opd) : Ev := fun env => match ownOAt env i with
  | some q => if decide (q.1 = c) && decide (q.2.1.length = q.2.2.length) && decide (mn ∉ q.2.1) then fCall io h (.slot i :: os) env else .stuck
  | none => .stuck
theorem zip_lookup_none {f : Str} : ∀ {ns : List Str} {vs : List V}, f ∉ ns → (ns.zip vs).lookup f = none
  | [], _, _ => rfl
  | _ :: _, [], _ => rfl
  | n :: ns, v :: vs, h => by
    have c : (f == n) = false := by simp only [List.mem_cons, not_or] at h; simpa using h.1
    rw [List.zip_cons_cons, List.lookup_cons, c]
    exact zip_lookup_none fun z => h (List.mem_cons_of_mem _ z)
theorem spD_mono {n : Nat} {io : List Nat} {h : List D → Rf} {vs : List V} {Q : VK} {E E' : XK} (hE : ∀ cls dd H', E cls dd H' → E' cls dd H') (q : spD K cl n io h vs H Q E) : spD K cl n io h vs H Q E' := by
  obtain ⟨l, τ, κ, ds, l1, l2, r, q⟩ := q
  refine ⟨l, τ, κ, ds, l1, l2, r, ?_⟩
  cases e : h ds with
  | ret d ios => rw [e] at q; exact q
  | exc c ns es ios => rw [e] at q; exact fun cls dd H' ws us a1 a2 a3 a4 => hE _ _ _ (q cls dd H' ws us a1 a2 a3 a4)
  | stuck => rw [e] at q; exact q
theorem tOpd_mono {o1 : Opd} {σ : S} {Q Q' : VK} (hQ : ∀ v H2, Q v H2 → Q' v H2) (h : tOpd K cl W o1 σ H Q) : tOpd K cl W o1 σ H Q' := by
  cases o1 with
  | val f =>
    obtain ⟨τ, κ, env, r, l, q⟩ := h
    exact ⟨τ, κ, env, r, l, q.imp (fun d env' z v H' r => hQ _ _ (z v H' r)) fun _ _ _ _ z => z⟩
  | slot j =>
    obtain ⟨v, e, q⟩ := h
    exact ⟨v, e, hQ _ _ q⟩
theorem tOs_mono : ∀ {os : List Opd} {σ : S} {H : Hp} {Q Q' : List V → Hp → Prop}, (∀ vs H2, Q vs H2 → Q' vs H2) → tOs K cl W os σ H Q → tOs K cl W os σ H Q'
  | [], _, _, _, _, hQ, h => hQ _ _ h
  | o :: os, σ, H, Q, Q', hQ, h => tOpd_mono (fun v H1 z => tOs_mono (os := os) (fun vs H2 y => hQ _ _ y) z) h
theorem j_meth {c k m ar : Nat} {mn : Str} {h : List D → Rf} {os : List Opd} (hM : ∃ f, Meth X.K (cl c) mn f ∧ FnM X.prog X.w X.K X.mg X.base cl f k ar io h) (hC : ClsF X.K (cl c)) (tk : Takes X W) (hr : Room m X.A) (hkm : k ≤ m) (hn : os.length + 1 = ar)
    (hW : ∀ cls dd σ σ' H, W cls dd σ H → W cls dd σ' H) (hv : PE X o (tVar i)) (ha : PA X (e :: es) (tOs X.K cl W os)) (hst : starEach (e :: es) X.env = (false, eval e X.env) :: starEach es X.env := by rfl) (hpl : (backTo pos (starEach es X.env)).any (·.1) = false := by rfl) {pl : Sem Bool}
    (ht : eval (.Call (.Attribute o mn apos) (e :: es) [] pos) X.env = (do
      let ov ← eval o X.env
      standAt apos.atName
      let (f, first) ← holding [ov] (getMethod ov mn pl)
      callWith pos f first (backTo pos (starEach (e :: es) X.env)) (backToKw pos (keywordEach [] X.env))) := by rfl) :
    PE X (.Call (.Attribute o mn apos) (e :: es) [] pos) (tE X.K cl W (fMeth i c mn io h os)) := by
  obtain ⟨f, hm, fd, ps, hb, F⟩ := hM
  refine PE.imp (pe_meth (pl := pl) (dvs := []) (E := fun cls dd H' => ∀ σ, W cls dd σ H') hv hC.c hm F (hr.mono hkm) hb .nil (passes_call tk fun cls dd σ H z => z σ) ha hst hpl ht) fun σ H Q q => ?_
  obtain ⟨τ, κ, env, r, l, q⟩ := q
  unfold fMeth at q
  cases e1 : ownOAt env i with
  | none => rw [e1] at q; exact q.elim
  | some q0 =>
    obtain ⟨c', ns, ds⟩ := q0
    rw [e1] at q
    simp only at q
    split at q
    · rename_i cond
      simp only [Bool.and_eq_true, decide_eq_true_eq] at cond
      obtain ⟨⟨c2, ln⟩, nin⟩ := cond
      subst c2
      have e0 := ownOAt_eq e1
      obtain ⟨v, ev, r1⟩ := slot_out (A := []) (Y := []) r rfl l e0
      obtain ⟨F', G, n, hh, hr'⟩ := Rel.split (as := [.obj true c' ns ds]) (vs := [v]) r1 rfl
      obtain ⟨ad, dx, vs, g1, ea, t, lv, d1, w⟩ := dats1 hh
      subst ea
      obtain ⟨v', ev', z⟩ := rd_call (n := ar) (os := .slot i :: os) (by simpa using hn) (⟨τ, κ, env, r, l, q⟩ : tE X.K cl W (fCall io h (.slot i :: os)) σ H Q)
      rw [ev] at ev'
      cases ev'
      refine ⟨.ref ad, ev, ad, dx, _, rfl, t, zip_lookup_none nin, ?_⟩
      refine tOs_mono (fun vs H2 z2 => ?_) z
      exact spD_mono (fun cls dd H' hw σ' => hW _ _ _ _ _ hw) z2
    · exact q.elim
end
end Tw
noncomputable section
namespace Tw
open PySem PySem.Spec PyProof.Rows L2
/-! ### constants that the top has laid -/
mutual
def KD (K : PySem.W.Frag) : D → Value → Prop
  | .non, u => u = .none
  | .bl b, u => u = .bool b
  | .int i, u => ∃ t, u = .int i t
  | .str x, u => ∃ t, u = .str x t
  | .tup ds, u => ∃ (a : Addr) (o : Obj) (its : List Value) (n : Nat), u = .ref a ∧ K.lookup a = some o ∧ o.cls = .type "tuple" ∧ o.dict = none ∧ o.data = .seq its.toArray n ∧ its.length ≤ 1000 ∧ KDs K ds its
  | _, _ => False
def KDs (K : PySem.W.Frag) : List D → List Value → Prop
  | [], us => us = []
  | d :: ds, us => ∃ u us', us = u :: us' ∧ KD K d u ∧ KDs K ds us'
end
section
variable {X : Cx} {cl : Nat → Addr} {W : WX} {a b c e : Expr} {es : List Expr} {pos apos p pf : Pos} {x : Str} {fa fb fc : Ev} {io : List Nat} {o : Expr} {i : Nat} {K : PySem.W.Frag} {M : Addr → Prop} {H : Hp}
mutual
theorem kd_dat : ∀ {d : D} {u : Value}, KD K d u → ∃ v, RelV v u ∧ ∀ M H, Dat K cl M H d v []
  | .non, _, h => ⟨.non, h, fun _ _ => ⟨rfl, rfl⟩⟩
  | .bl b, _, h => ⟨.bl b, h, fun _ _ => ⟨rfl, rfl⟩⟩
  | .int i, _, h => ⟨.int i, h, fun _ _ => ⟨rfl, rfl⟩⟩
  | .str x, _, h => ⟨.str x, h, fun _ _ => ⟨rfl, rfl⟩⟩
  | .tup ds, _, h => by
    obtain ⟨a, o, its, n, rfl, h1, h2, h6, h3, h4, h5⟩ := h
    obtain ⟨vs, r, hd⟩ := kds_dats h5
    refine ⟨.ref a, rfl, fun M H => ⟨a, vs, rfl, .inr ⟨o, its.toArray, n, h1, h2, h6, h3, ?_, r⟩, hd M H⟩⟩
    rw [sizeLine_eq, List.size_toArray]; omega
  | .ty _, _, h => h.elim
  | .cl _, _, h => h.elim
  | .scr _, _, h => h.elim
  | .pr _, _, h => h.elim
  | .dtt _ _, _, h => h.elim
  | .at _, _, h => h.elim
  | .lst _ _, _, h => h.elim
  | .obj _ _ _ _, _, h => h.elim
  | .dct _ _ _, _, h => h.elim
theorem kds_dats : ∀ {ds : List D} {us : List Value}, KDs K ds us → ∃ vs, Vals vs us ∧ ∀ M H, Dats K cl M H ds vs []
  | [], _, h => by rw [h]; exact ⟨[], .nil, fun _ _ => ⟨rfl, rfl⟩⟩
  | d :: ds, _, h => by
    obtain ⟨u, us', rfl, h1, h2⟩ := h
    obtain ⟨v, r1, d1⟩ := kd_dat h1
    obtain ⟨vs, r2, d2⟩ := kds_dats h2
    exact ⟨v :: vs, .cons r1 r2, fun M H => ⟨v, vs, [], [], rfl, rfl, d1 M H, d2 M H⟩⟩
end
theorem j_gcon {d : D} (hm : ∃ u, X.mg x = some u ∧ KD X.K d u) (hg : Gl X x := by rfl) (hd : (x == ("__debug__" : Str)) = false := by decide) : PE X (.Name x pos) (tE X.K cl W (fK d)) := by
  obtain ⟨u, hm, k⟩ := hm
  obtain ⟨v, r, h⟩ := kd_dat (cl := cl) k
  exact j_c (v := v) (pe_glob hg hm r hd) h
/-! ### max and min of numbers -/
def D.intsOf : D → Option (List Int)
  | .lst _ xs => D.ints xs
  | .tup xs => D.ints xs
  | _ => none
def foldI (k : Bool) (n : Int) (ns : List Int) : Int := if k then ns.foldl max n else ns.foldl min n
def rMm (K : PySem.W.Frag) (k : Bool) : List V → Hp → VK → Prop := fun vs H Q => ∃ a n ns, vs = [.ref a] ∧ (Dp K H (.ref a) (.list ((n :: ns).map .int)) ∨ Dp K H (.ref a) (.tuple ((n :: ns).map .int))) ∧ Q (.int (foldI k n ns)) H
theorem alike_ints (ns : List Int) : PySem.W.AlikeAll (ns.map .int) := by
  constructor
  · intro x hx y hy
    obtain ⟨i, _, rfl⟩ := List.mem_map.mp hx
    obtain ⟨j, _, rfl⟩ := List.mem_map.mp hy
    rfl
  · intro x hx
    obtain ⟨i, _, rfl⟩ := List.mem_map.mp hx
    simp
theorem depth_ints (ns : List Int) : PyData.depthAll (ns.map .int) ≤ 1 := depth_all fun p hp => by
  obtain ⟨i, _, rfl⟩ := List.mem_map.mp hp
  simp [PyData.depth]
theorem cr_mm (k : Bool) (hc : X.calm = true) (hu : X.A.units + 64 < cLine) : CallR X (.builtin (if k then "max" else "min")) (rMm X.K k) := by
  intro pins s σ H vs us Q I r h
  obtain ⟨a, n, ns, rfl, hd, q⟩ := h
  rw [Vals.ref1 r]
  have ha := alike_ints (n :: ns)
  have hdp := depth_ints (n :: ns)
  have hh := I.ok.hd hc
  rcases hd with hd | hd
  · cases hd with
    | lst hs had =>
      obtain ⟨its, rv, hl, _⟩ := I.list hs
      obtain ⟨as, h4⟩ := Dp.readsAll I _ _ its had rv
      cases k with
      | true =>
        refine PySem.W.max_list_data hh hl.isList (show ReadsAll s.heap its.toArray.toList (.int n :: ns.map .int) as from h4) ha (by show X.A.units + 1 + PyData.depthAll ((n :: ns).map .int) < _; omega) fun i v h' tk bs _ rr kk => ?_
        rw [PySem.W.maxD_ints] at rr
        cases rr
        exact ⟨.int _, H, I.kept kk, ⟨_, rfl⟩, q⟩
      | false =>
        refine PySem.W.min_list_data hh hl.isList (show ReadsAll s.heap its.toArray.toList (.int n :: ns.map .int) as from h4) ha (by show X.A.units + 1 + PyData.depthAll ((n :: ns).map .int) < _; omega) fun i v h' tk bs _ rr kk => ?_
        rw [PySem.W.minD_ints] at rr
        cases rr
        exact ⟨.int _, H, I.kept kk, ⟨_, rfl⟩, q⟩
  · cases hd with
    | tup hs had =>
      obtain ⟨its, rv, hl, _⟩ := I.tuple hs
      obtain ⟨as, h4⟩ := Dp.readsAll I _ _ its had rv
      cases k with
      | true =>
        refine PySem.W.max_tuple_data hh (show s.heap.IsTuple a its.toArray from hl) (show ReadsAll s.heap its.toArray.toList (.int n :: ns.map .int) as from h4) ha (by show X.A.units + 1 + PyData.depthAll ((n :: ns).map .int) < _; omega) fun i v h' tk bs _ rr kk => ?_
        rw [PySem.W.maxD_ints] at rr
        cases rr
        exact ⟨.int _, H, I.kept kk, ⟨_, rfl⟩, q⟩
      | false =>
        refine PySem.W.min_tuple_data hh (show s.heap.IsTuple a its.toArray from hl) (show ReadsAll s.heap its.toArray.toList (.int n :: ns.map .int) as from h4) ha (by show X.A.units + 1 + PyData.depthAll ((n :: ns).map .int) < _; omega) fun i v h' tk bs _ rr kk => ?_
        rw [PySem.W.minD_ints] at rr
        cases rr
        exact ⟨.int _, H, I.kept kk, ⟨_, rfl⟩, q⟩
def gMm (k : Bool) : List D → Option D
  | [d] => match D.intsOf d with
    | some (n :: ns) => some (.int (foldI k n ns))
    | _ => none
  | _ => none
theorem pys_ints : ∀ {ds : List D} {ns : List Int}, D.ints ds = some ns → D.pys ds = some (ns.map .int)
  | [], _, e => by cases e; rfl
  | d :: ds, ns, e => by
    obtain ⟨i, e1, e2⟩ := Option.bind_eq_some_iff.mp (show (D.asI d).bind (fun i => (D.ints ds).map (i :: ·)) = some ns from e)
    obtain ⟨ms, e3, rfl⟩ := Option.map_eq_some_iff.mp e2
    have ed : d = .int i := by
      cases d with
      | int j => cases e1; rfl
      | _ => cases e1
    subst ed
    show (D.py (.int i)).bind (fun p => (D.pys ds).map fun ps => p :: ps) = _
    rw [pys_ints e3]
    rfl
theorem dat_intsOf {M : Addr → Prop} {d : D} {v : V} {f : List Addr} {ns : List Int} (h : Dat K cl M H d v f) (e : D.intsOf d = some ns) : (∃ a, v = .ref a) ∧ (Dp K H v (.list (ns.map .int)) ∨ Dp K H v (.tuple (ns.map .int))) := by
  cases d with
  | lst m xs =>
    obtain ⟨a, vs, g, rfl, t, hd, _⟩ := h
    exact ⟨⟨a, rfl⟩, .inl (.lst (.of t) (dats_dp hd (pys_ints e)))⟩
  | tup xs =>
    obtain ⟨a, vs, rfl, t, hd⟩ := h
    exact ⟨⟨a, rfl⟩, .inr (.tup t.sq (dats_dp hd (pys_ints e)))⟩
  | _ => cases e
theorem s_mm (k : Bool) : OpS K cl (rMm K k) (gMm k) := by
  intro as d vs H κ τ Q h l r q
  match as, h with
  | [x], h =>
    obtain ⟨v, rfl⟩ := one_of rfl l
    have h : (match D.intsOf x with | some (n :: ns) => some (D.int (foldI k n ns)) | _ => none) = some d := h
    cases e : D.intsOf x with
    | none => rw [e] at h; cases h
    | some ns =>
      rw [e] at h
      cases ns with
      | nil => cases h
      | cons n ns =>
        cases h
        obtain ⟨M, f, hh⟩ := r.heads l
        obtain ⟨⟨a, rfl⟩, dp⟩ := dat_intsOf (dats1 hh) e
        exact ⟨a, n, ns, rfl, dp, q _ _ (r.push fun M => dint)⟩
/-! max(xs, default=d) of numbers -/
def rMxD (K : PySem.W.Frag) : List V → List V → Hp → VK → Prop := fun vs zs H Q => ∃ a ns d, vs = [.ref a] ∧ zs = [.int d] ∧ (Dp K H (.ref a) (.list (ns.map .int)) ∨ Dp K H (.ref a) (.tuple (ns.map .int))) ∧ Q (.int (match ns with | [] => d | n :: ns => ns.foldl max n)) H
theorem cr_mxD (hc : X.calm = true) (hu : X.A.units + 64 < cLine) : CallRK X (.builtin "max") (["default"] : List Str) (rMxD X.K) := by
  intro pins s σ H vs zs us ws Q I r rz h
  obtain ⟨a, ns, d, rfl, rfl, hd, q⟩ := h
  rw [Vals.ref1 r]
  cases rz with
  | cons rz rn =>
    cases rn
    obtain ⟨td, rfl⟩ := rz
    have ha := alike_ints ns
    have hdp := depth_ints ns
    have hh := I.ok.hd hc
    have key : ∀ (y : PyData) (ys : List PyData) (v : Value) (h' : Heap) (bs : List Addr), ns.map PyData.int = y :: ys → Reads h' v (PySem.W.maxD y ys) bs → ∃ t, v = .int (match ns with | [] => d | n :: ns => ns.foldl max n) t := fun y ys v h' bs e rr => by
      cases ns with
      | nil => cases e
      | cons n ns =>
        cases e
        rw [PySem.W.maxD_ints] at rr
        cases rr
        exact ⟨_, rfl⟩
    rcases hd with hd | hd
    · cases hd with
      | lst hs had =>
        obtain ⟨its, rv, hl, _⟩ := I.list hs
        obtain ⟨as, h4⟩ := Dp.readsAll I _ _ its had rv
        refine PySem.W.max_list_default hh hl.isList (show ReadsAll s.heap its.toArray.toList (ns.map .int) as from h4) ha (by omega) (fun e h' tk kk => ?_) fun y ys i v h' tk bs e _ rr kk => ?_
        · cases ns with
          | nil => exact ⟨.int _, H, I.kept kk, ⟨_, rfl⟩, q⟩
          | cons _ _ => cases e
        · obtain ⟨t, rfl⟩ := key y ys v h' bs e rr
          exact ⟨.int _, H, I.kept kk, ⟨_, rfl⟩, q⟩
    · cases hd with
      | tup hs had =>
        obtain ⟨its, rv, hl, _⟩ := I.tuple hs
        obtain ⟨as, h4⟩ := Dp.readsAll I _ _ its had rv
        refine PySem.W.max_tuple_default hh (show s.heap.IsTuple a its.toArray from hl) (show ReadsAll s.heap its.toArray.toList (ns.map .int) as from h4) ha (by omega) (fun e h' tk kk => ?_) fun y ys i v h' tk bs e _ rr kk => ?_
        · cases ns with
          | nil => exact ⟨.int _, H, I.kept kk, ⟨_, rfl⟩, q⟩
          | cons _ _ => cases e
        · obtain ⟨t, rfl⟩ := key y ys v h' bs e rr
          exact ⟨.int _, H, I.kept kk, ⟨_, rfl⟩, q⟩
def maxOr (d : Int) : List Int → Int
  | [] => d
  | n :: ns => ns.foldl max n
def fMaxD (d : Int) (f : Ev) : Ev := fun env => (f env).bind fun x env1 => match D.intsOf x with
  | some ns => .ok (.int (maxOr d ns)) env1
  | none => .stuck
theorem j_maxD {i : Int} {j : Nat} {p1 kpos : Pos} (hm : X.mg "max" = none) (hc : X.calm = true) (hu : X.A.units + 64 < cLine) (ha : PE X e (tE X.K cl W fa)) (hg : Gl X "max" := by rfl) (hs1 : starEach [e] X.env = (false, eval e X.env) :: starEach [] X.env := by rfl)
    (he : backTo pos (starEach [e] X.env) = (false, eval e X.env) :: backTo pos (starEach [] X.env) := by rfl) (hpl : (backTo pos (starEach [e] X.env)).any (·.1) = false := by rfl)
    (hall : (backToKw pos (keywordEach [⟨some "default", .Constant (.int i) j p1, kpos⟩] X.env)).all (·.1.isSome) = true := by rfl) (hnone : (backToKw pos (keywordEach [⟨some "default", .Constant (.int i) j p1, kpos⟩] X.env)).any (·.1.isNone) = false := by rfl) (hks : (backToKw pos (keywordEach [⟨some "default", .Constant (.int i) j p1, kpos⟩] X.env)).filterMap (·.1) = (["default"] : List Str) := by rfl) :
    PE X (.Call (.Name "max" p) [e] [⟨some "default", .Constant (.int i) j p1, kpos⟩] pos) (tE X.K cl W (fMaxD i fa)) := by
  refine PE.imp (pe_callBK (cr_mxD hc hu) hg hm (by decide +kernel) (pa_cons ha pa_nil hs1) (pk_cons pe_int pk_nil) (by decide) (by decide) he hpl hall hnone hks) fun σ H Q ⟨τ, κ, env, r, l, q⟩ => ?_
  refine tE_bind r l q fun x env1 v H1 h1 r1 => ?_
  cases e1 : D.intsOf x with
  | none => rw [e1] at h1; exact h1.elim
  | some ns =>
    rw [e1] at h1
    obtain ⟨M, f, hd⟩ := r1.head
    obtain ⟨⟨a, rfl⟩, dp⟩ := dat_intsOf hd e1
    refine ⟨a, ns, i, rfl, rfl, dp, ?_⟩
    have z := h1 (.int (maxOr i ns)) H1 (r1.pop.push fun M => dint)
    cases ns <;> exact z
end
end Tw
noncomputable section
namespace Tw
open PySem PySem.Spec PyProof.Rows L2
/-! ### reckoning: the words of TwS, TwSa, TwSb -/
def k_frz : D → Tw.Env → Rs D := fun d env1 => .ok (D.frz d) env1
theorem e_kfrz (d : D) (env1 : Tw.Env) : k_frz d env1 = .ok (D.frz d) env1 := (rfl)
theorem e_frz (f : Ev) (env : Tw.Env) : fFrz f env = (f env).bind k_frz := (rfl)
theorem e_fldO (own : Nat → Bool) (f : Str) (c : Nat) (ns : List Str) (ds : List D) : fldO own f (some (c, ns, ds)) = if own c then ((lookD ns ds f).bind D.own).map fun xs => ((c, ns, ds), xs) else none := (rfl)
theorem e_Down (xs : List D) : D.own (.lst true xs) = some xs := (rfl)
def mtF1S (i : Nat) (f : Str) (z : (Nat × List Str × List D) × List D) (env : Tw.Env) : Option (D × List D) → Rs D
  | some q => .ok q.1 (env.set i (some (.obj true z.1.1 z.1.2.1 (putD f (.lst true q.2) z.1.2.1 z.1.2.2))))
  | none => .stuck
theorem e_mtF1S (i : Nat) (f : Str) (z : (Nat × List Str × List D) × List D) (env : Tw.Env) (q : D × List D) : mtF1S i f z env (some q) = .ok q.1 (env.set i (some (.obj true z.1.1 z.1.2.1 (putD f (.lst true q.2) z.1.2.1 z.1.2.2)))) := (rfl)
def k_mtF1 (i : Nat) (f : Str) (gm : List D → D → Option (D × List D)) (z : (Nat × List Str × List D) × List D) : D → Tw.Env → Rs D := fun y env1 => mtF1S i f z env1 (gm z.2 y)
theorem e_kmtF1 (i : Nat) (f : Str) (gm : List D → D → Option (D × List D)) (z : (Nat × List Str × List D) × List D) (y : D) (env1 : Tw.Env) : k_mtF1 i f gm z y env1 = mtF1S i f z env1 (gm z.2 y) := (rfl)
def mtF1R (i : Nat) (f : Str) (gm : List D → D → Option (D × List D)) (fe : Ev) (env : Tw.Env) : Option ((Nat × List Str × List D) × List D) → Rs D
  | some z => (fe (env.set i none)).bind (k_mtF1 i f gm z)
  | none => .stuck
theorem e_mtF1R (i : Nat) (f : Str) (gm : List D → D → Option (D × List D)) (fe : Ev) (env : Tw.Env) (z : (Nat × List Str × List D) × List D) : mtF1R i f gm fe env (some z) = (fe (env.set i none)).bind (k_mtF1 i f gm z) := (rfl)
theorem e_mtF1 (i : Nat) (own : Nat → Bool) (f : Str) (gm : List D → D → Option (D × List D)) (fe : Ev) (env : Tw.Env) : fMtF1 i own f gm fe env = mtF1R i f gm fe env (fldO own f (ownOAt env i)) := by
  unfold fMtF1 mtF1R
  cases fldO own f (ownOAt env i) with
  | none => rfl
  | some z =>
    show Rs.bind _ _ = Rs.bind _ _
    refine congrArg _ (funext fun y => funext fun env1 => ?_)
    show _ = mtF1S i f z env1 (gm z.2 y)
    cases gm z.2 y <;> rfl
def mtF0R (i : Nat) (f : Str) (gm : List D → Option (D × List D)) (env : Tw.Env) : Option ((Nat × List Str × List D) × List D) → Rs D
  | some z => mtF1S i f z env (gm z.2)
  | none => .stuck
theorem e_mtF0R (i : Nat) (f : Str) (gm : List D → Option (D × List D)) (env : Tw.Env) (z : (Nat × List Str × List D) × List D) : mtF0R i f gm env (some z) = mtF1S i f z env (gm z.2) := (rfl)
theorem e_mtF0 (i : Nat) (own : Nat → Bool) (f : Str) (gm : List D → Option (D × List D)) (env : Tw.Env) : fMtF0 i own f gm env = mtF0R i f gm env (fldO own f (ownOAt env i)) := by
  unfold fMtF0 mtF0R
  cases fldO own f (ownOAt env i) with
  | none => rfl
  | some z =>
    show _ = mtF1S i f z env (gm z.2)
    simp only
    cases gm z.2 <;> rfl
theorem e_fldV (own : Nat → Bool) (f : Str) (c : Nat) (ns : List Str) (ds : List D) : fldV own f (some (c, ns, ds)) = if own c then (lookD ns ds f).bind fun d => if D.ok d then some (c, d) else none else none := (rfl)
theorem e_augF (i c : Nat) (f : Str) (env : Tw.Env) (z : D) (q : Nat × List Str × List D) : augF i c f env (some z) (some q) = if decide (q.1 = c) && decide (q.2.1.length = q.2.2.length) && decide (q.2.1.length < 1000) && oldOk f q.2.1 q.2.2 && D.ok z then .next (env.set i (some (.obj true q.1 (putN f q.2.1) (putD f z q.2.1 q.2.2)))) else .stuck := (rfl)
def k_faug (i : Nat) (f : Str) (g : List D → Option D) (u : Nat × D) : D → Tw.Env → Out := fun y env1 => augF i u.1 f env1 (g [u.2, y]) (ownOAt env1 i)
theorem e_kfaug (i : Nat) (f : Str) (g : List D → Option D) (u : Nat × D) (y : D) (env1 : Tw.Env) : k_faug i f g u y env1 = augF i u.1 f env1 (g [u.2, y]) (ownOAt env1 i) := (rfl)
def faugR (i : Nat) (f : Str) (g : List D → Option D) (fe : Ev) (env : Tw.Env) : Option (Nat × D) → Out
  | some u => sBind (fe env) (k_faug i f g u)
  | none => .stuck
theorem e_faugR (i : Nat) (f : Str) (g : List D → Option D) (fe : Ev) (env : Tw.Env) (u : Nat × D) : faugR i f g fe env (some u) = sBind (fe env) (k_faug i f g u) := (rfl)
theorem e_faug (i : Nat) (own : Nat → Bool) (f : Str) (g : List D → Option D) (fe : Ev) (env : Tw.Env) : sFAug i own f g fe env = faugR i f g fe env (fldV own f (ownOAt env i)) := by
  unfold sFAug faugR
  cases fldV own f (ownOAt env i) <;> rfl
def methR (i c : Nat) (mn : Str) (io : List Nat) (h : List D → Rf) (os : List Opd) (env : Tw.Env) : Option (Nat × List Str × List D) → Rs D
  | some q => if decide (q.1 = c) && decide (q.2.1.length = q.2.2.length) && decide (mn ∉ q.2.1) then fCall io h (.slot i :: os) env else .stuck
  | none => .stuck
theorem e_methR (i c : Nat) (mn : Str) (io : List Nat) (h : List D → Rf) (os : List Opd) (env : Tw.Env) (q : Nat × List Str × List D) : methR i c mn io h os env (some q) = if decide (q.1 = c) && decide (q.2.1.length = q.2.2.length) && decide (mn ∉ q.2.1) then fCall io h (.slot i :: os) env else .stuck := (rfl)
theorem e_meth (i c : Nat) (mn : Str) (io : List Nat) (h : List D → Rf) (os : List Opd) (env : Tw.Env) : fMeth i c mn io h os env = methR i c mn io h os env (ownOAt env i) := by
  unfold fMeth methR
  cases ownOAt env i <;> rfl
def mxR (env : Tw.Env) (d : Int) : Option (List Int) → Rs D
  | some ns => .ok (.int (maxOr d ns)) env
  | none => .stuck
theorem e_mxR (env : Tw.Env) (d : Int) (ns : List Int) : mxR env d (some ns) = .ok (.int (maxOr d ns)) env := (rfl)
def k_maxD (d : Int) : D → Tw.Env → Rs D := fun x env1 => mxR env1 d (D.intsOf x)
theorem e_kmaxD (d : Int) (x : D) (env1 : Tw.Env) : k_maxD d x env1 = mxR env1 d (D.intsOf x) := (rfl)
theorem e_maxD (d : Int) (f : Ev) (env : Tw.Env) : fMaxD d f env = (f env).bind (k_maxD d) := by
  unfold fMaxD
  refine congrArg _ (funext fun x => funext fun env1 => ?_)
  show _ = mxR env1 d (D.intsOf x)
  cases D.intsOf x <;> rfl
theorem intsOf_lst (m : Bool) (xs : List D) : D.intsOf (.lst m xs) = D.ints xs := (rfl)
theorem intsOf_tup (xs : List D) : D.intsOf (.tup xs) = D.ints xs := (rfl)
def mmR (k : Bool) : Option (List Int) → Option D
  | some (n :: ns) => some (.int (foldI k n ns))
  | _ => none
theorem e_mmR (k : Bool) (n : Int) (ns : List Int) : mmR k (some (n :: ns)) = some (.int (foldI k n ns)) := (rfl)
theorem e_mm (k : Bool) (d : D) : gMm k [d] = mmR k (D.intsOf d) := by
  show (match D.intsOf d with | some (n :: ns) => some (D.int (foldI k n ns)) | _ => none) = _
  cases D.intsOf d with
  | none => rfl
  | some ns => cases ns <;> rfl
theorem mul_tup (xs : List D) (k : Int) : gMul [.tup xs, .int k] = if D.oks xs && decide (-(2 ^ 62) ≤ k ∧ k ≤ 1000000 ∧ xs.length * k.toNat ≤ 1000000) then some (.tup (List.replicate k.toNat xs).flatten) else none := (rfl)
theorem mul_lst (m : Bool) (xs : List D) (k : Int) : gMul [.lst m xs, .int k] = if D.oks xs && decide (-(2 ^ 62) ≤ k ∧ k ≤ 1000000 ∧ xs.length * k.toNat ≤ 1000000) then some (.lst true (List.replicate k.toNat xs).flatten) else none := (rfl)
theorem frz_str (x : Str) : D.frz (.str x) = .str x := (rfl)
theorem ok_str (x : Str) : D.ok (.str x) = true := (rfl)
theorem shaped_str {a : Str} (h : PyData.strOk a = true) : SeqAt.shaped (.str a) = true := by
  unfold SeqAt.shaped
  rw [PyData.canLay0, h]
  rfl
theorem eqv_str (a b : Str) : PyData.eqv (.str a) (.str b) = decide (a = b) := by
  rw [PyData.eqv]
  by_cases c : a = b
  · subst c; simp
  · simp [c]
theorem eq_str (a b : Str) (ha : PyData.strOk a = true) (hb : PyData.strOk b = true) : gEq [.str a, .str b] = some (.bl (decide (a = b))) := by
  rw [Tw.eq_2]
  show (if (SeqAt.shaped (.str a) && SeqAt.shaped (.str b)) = true then some (D.bl (PyData.eqv (.str a) (.str b))) else none) = _
  rw [shaped_str ha, shaped_str hb, Bool.and_self, if_pos rfl, eqv_str]
theorem ne_str (a b : Str) (ha : PyData.strOk a = true) (hb : PyData.strOk b = true) : gNe [.str a, .str b] = some (.bl (!decide (a = b))) := by
  rw [Tw.ne_2]
  show (if (SeqAt.shaped (.str a) && SeqAt.shaped (.str b)) = true then some (D.bl (!PyData.eqv (.str a) (.str b))) else none) = _
  rw [shaped_str ha, shaped_str hb, Bool.and_self, if_pos rfl, eqv_str]
theorem eq_bool (a b : Bool) : gEq [.bl a, .bl b] = some (.bl (decide (a = b))) := by cases a <;> cases b <;> rfl
/-! ### loops whose turns are told by their bodies -/
theorem for_body {α : Type} {bd : Bd} {body : Sv} {g : α → D} (I : Nat → Tw.Env → Prop) : ∀ (xs : List α) (n : Nat) (env : Tw.Env), I n env →
    (∀ i x env, xs[i]? = some x → I (n + i) env → ∃ env1 env2, bd (g x) env = some env1 ∧ (body env1 = .next env2 ∨ body env1 = .cont env2) ∧ I (n + i + 1) env2) → ∃ env', I (n + xs.length) env' ∧ forGo bd body (xs.map g) env = .next env' := by
  intro xs n env h0 h
  refine for_ind I xs n env h0 fun i x env hi hI => ?_
  obtain ⟨env1, env2, e1, e2, h2⟩ := h i x env hi hI
  refine ⟨env2, h2, fun ds => ?_⟩
  rw [Tw.e_for1, e1, Tw.e_fgR]
  rcases e2 with e2 | e2 <;> rw [e2]
  · rw [Tw.e_fgN]
  · rw [Tw.e_fgC]
/-- a loop by a step on states: E tells the slots of a state (y: what the turn leaves in the loop's own names) -/
theorem for_st {α β γ : Type} {bd : Bd} {body : Sv} {g : α → D} (E : β → γ → Tw.Env) (step : β → α → β) (P : β → Prop) (xs : List α) (b : β) (y : γ) (h0 : P b)
    (h : ∀ x ∈ xs, ∀ b y, P b → ∃ env1 y2, bd (g x) (E b y) = some env1 ∧ (body env1 = .next (E (step b x) y2) ∨ body env1 = .cont (E (step b x) y2)) ∧ P (step b x)) :
    ∃ y', P (xs.foldl step b) ∧ forGo bd body (xs.map g) (E b y) = .next (E (xs.foldl step b) y') := by
  induction xs generalizing b y with
  | nil => exact ⟨y, h0, rfl⟩
  | cons x xs ih =>
    obtain ⟨env1, y2, e1, e2, h2⟩ := h x List.mem_cons_self b y h0
    obtain ⟨y', h3, e3⟩ := ih (step b x) y2 h2 fun z hz => h z (List.mem_cons_of_mem _ hz)
    refine ⟨y', h3, ?_⟩
    rw [List.map_cons, Tw.e_for1, e1, Tw.e_fgR]
    rcases e2 with e2 | e2 <;> rw [e2]
    · rw [Tw.e_fgN]; exact e3
    · rw [Tw.e_fgC]; exact e3
/-- a comprehension whose elements change what the slots hold -/
theorem comp_st {α β : Type} {vs : List Nat} {b : Bd} {f : Ev} {g : α → D} (E : β → Tw.Env) (P : β → Prop) (R : α → D → Prop) (xs : List α) (acc : List D) (s : β) (h0 : P s) (hw : ∀ s, wipeE (E s) vs = E s)
    (h : ∀ x ∈ xs, ∀ s, P s → ∃ env1 env2 s2 d, b (g x) (E s) = some env1 ∧ f env1 = .ok d env2 ∧ wipeE env2 vs = E s2 ∧ P s2 ∧ R x d) :
    ∃ (ds : List D) (s2 : β), P s2 ∧ ds.length = xs.length ∧ (∀ (i : Nat) (d : D), ds[i]? = some d → ∃ x, xs[i]? = some x ∧ R x d) ∧ compGo vs b bTrue f (xs.map g) acc (E s) = .ok (acc ++ ds) (E s2) := by
  induction xs generalizing acc s with
  | nil => exact ⟨[], s, h0, rfl, fun i d e => by simp at e, by rw [List.append_nil]; rfl⟩
  | cons x xs ih =>
    obtain ⟨env1, env2, s1, d, e1, e2, e3, h1, hr⟩ := h x List.mem_cons_self s h0
    obtain ⟨ds, s2, h2, l, hd, e4⟩ := ih (acc ++ [d]) s1 h1 fun z hz => h z (List.mem_cons_of_mem _ hz)
    refine ⟨d :: ds, s2, h2, by rw [List.length_cons, List.length_cons, l], fun i d' e => ?_, ?_⟩
    · cases i with
      | zero => cases e; exact ⟨x, rfl, hr⟩
      | succ i => obtain ⟨z, e5, e6⟩ := hd i d' e; exact ⟨z, e5, e6⟩
    · rw [List.map_cons, Tw.e_cg1, e1, Tw.e_cgR, Tw.e_bTrue, Tw.e_neo, Tw.e_bok, Tw.e_cgT, if_pos rfl, e2, Tw.e_neo, Tw.e_bok, Tw.e_cgF, e3, e4, List.append_assoc]
      rfl
end Tw
noncomputable section
namespace Tw
open PySem PySem.Spec PyProof.Rows L2
theorem take_fold {α β : Type} (step : β → α → β) {xs : List α} {i : Nat} {x : α} (e : xs[i]? = some x) (b : β) : (xs.take (i + 1)).foldl step b = step ((xs.take i).foldl step b) x := by
  have hi := (List.getElem?_eq_some_iff.mp e).1
  rw [List.take_add_one, e, List.foldl_append]
  rfl
/-- a loop by a step on states; the state ahead of turn i is the fold of the first i things -/
theorem for_fx {α β γ : Type} {bd : Bd} {body : Sv} {g : α → D} (E : β → γ → Tw.Env) (step : β → α → β) (xs : List α) (b : β) (y : γ)
    (h : ∀ i x y, xs[i]? = some x → ∃ env1 y2, bd (g x) (E ((xs.take i).foldl step b) y) = some env1 ∧ (body env1 = .next (E (step ((xs.take i).foldl step b) x) y2) ∨ body env1 = .cont (E (step ((xs.take i).foldl step b) x) y2))) :
    ∃ y', forGo bd body (xs.map g) (E b y) = .next (E (xs.foldl step b) y') := by
  obtain ⟨env', ⟨y', rfl⟩, e⟩ := for_body (bd := bd) (body := body) (g := g) (fun n env => ∃ y, env = E ((xs.take n).foldl step b) y) xs 0 (E b y) ⟨y, rfl⟩ fun i x env hi ⟨y, hy⟩ => by
    rw [Nat.zero_add] at hy ⊢
    subst hy
    obtain ⟨env1, y2, e1, e2⟩ := h i x y hi
    rw [← take_fold step hi b] at e2
    exact ⟨env1, _, e1, e2, y2, rfl⟩
  refine ⟨y', ?_⟩
  rw [Nat.zero_add, List.take_length] at e
  exact e
/-- a loop whose state ahead of turn i is F i -/
theorem for_at {α β γ : Type} {bd : Bd} {body : Sv} {g : α → D} (E : β → γ → Tw.Env) (F : Nat → β) (xs : List α) (y : γ)
    (h : ∀ i x y, xs[i]? = some x → ∃ env1 y2, bd (g x) (E (F i) y) = some env1 ∧ (body env1 = .next (E (F (i + 1)) y2) ∨ body env1 = .cont (E (F (i + 1)) y2))) :
    ∃ y', forGo bd body (xs.map g) (E (F 0) y) = .next (E (F xs.length) y') := by
  obtain ⟨env', ⟨y', rfl⟩, e⟩ := for_body (bd := bd) (body := body) (g := g) (fun n env => ∃ y, env = E (F n) y) xs 0 (E (F 0) y) ⟨y, rfl⟩ fun i x env hi ⟨y, hy⟩ => by
    rw [Nat.zero_add] at hy ⊢
    subst hy
    obtain ⟨env1, y2, e1, e2⟩ := h i x y hi
    exact ⟨env1, _, e1, e2, y2, rfl⟩
  rw [Nat.zero_add] at e
  exact ⟨y', e⟩
theorem cst_0 : ((0 : Nat) : Int) = 0 := (rfl)
theorem cst_1 : ((1 : Nat) : Int) = 1 := (rfl)
theorem cst_2 : ((2 : Nat) : Int) = 2 := (rfl)
theorem cst_3 : ((3 : Nat) : Int) = 3 := (rfl)
theorem cst_4 : ((4 : Nat) : Int) = 4 := (rfl)
theorem cst_5 : ((5 : Nat) : Int) = 5 := (rfl)
theorem at2_0' (a b : D) : atI [a, b] 0 = some a := rfl
theorem at2_m (a b : D) : atI [a, b] (-1) = some b := rfl
theorem at3_m (a b c : D) : atI [a, b, c] (-1) = some c := rfl
/-- data in a tuple, one by one -/
theorem atI_mapD {α : Type} {f : α → D} {xs : List α} {i : Int} {x : α} (h0 : 0 ≤ i) (h : xs[i.toNat]? = some x) : atI (xs.map f) i = some (f x) := by
  have hl := (List.getElem?_eq_some_iff.mp h).1
  unfold atI ixN
  rw [List.length_map, if_pos h0, if_pos (by omega), Option.bind_some, List.getElem?_map, h]
  rfl
theorem oks_mapD {α : Type} {f : α → D} (hf : ∀ x, D.ok (f x) = true) (xs : List α) : D.oks (xs.map f) = true := by
  rw [D.oks_iff]; intro d h; obtain ⟨x, _, rfl⟩ := List.mem_map.mp h; exact hf x
theorem frzs_mapD {α : Type} {f : α → D} (hf : ∀ x, D.ok (f x) = true) (xs : List α) : D.frzs (xs.map f) = xs.map f := D.frzs_ok (oks_mapD hf xs)
theorem enum_mapD {α : Type} (f : α → D) (xs : List α) : enumD (xs.map f) = xs.zipIdx.map fun p => .pr [.int (p.2 : Int), f p.1] := by
  unfold enumD
  rw [List.mapIdx_eq_zipIdx_map, List.zipIdx_map, List.map_map]
  rfl
theorem mem_zipIdx' {α : Type} {xs : List α} {p : α × Nat} (h : p ∈ xs.zipIdx) : p.1 ∈ xs := by
  obtain ⟨_, _, e⟩ := List.mem_zipIdx h
  rw [e]; exact List.getElem_mem _
/-- data that is compared: depth n at most, leaves numbers, texts, truths, None -/
def Dpt : Nat → D → Prop
  | 0, d => (∃ i, d = .int i) ∨ (∃ x, d = .str x ∧ PyData.strOk x = true) ∨ (∃ b, d = .bl b) ∨ d = .non
  | n + 1, d => ((∃ i, d = .int i) ∨ (∃ x, d = .str x ∧ PyData.strOk x = true) ∨ (∃ b, d = .bl b) ∨ d = .non) ∨ (∃ xs, d = .tup xs ∧ ∀ x ∈ xs, Dpt n x) ∨ ∃ m xs, d = .lst m xs ∧ ∀ x ∈ xs, Dpt n x
theorem dpt_py0 {d : D} (h : (∃ i, d = .int i) ∨ (∃ x, d = .str x ∧ PyData.strOk x = true) ∨ (∃ b, d = .bl b) ∨ d = .non) : ∃ p, D.py d = some p ∧ p.canLay0 = true ∧ p.depth ≤ 1 := by
  rcases h with ⟨i, rfl⟩ | ⟨x, rfl, hx⟩ | ⟨b, rfl⟩ | rfl
  · exact ⟨.int i, rfl, rfl, by simp [PyData.depth]⟩
  · exact ⟨.str x, rfl, by rw [PyData.canLay0, hx], by simp [PyData.depth]⟩
  · exact ⟨.bool b, rfl, rfl, by simp [PyData.depth]⟩
  · exact ⟨.none, rfl, rfl, by simp [PyData.depth]⟩
theorem dpt_py : ∀ {n : Nat} {d : D}, Dpt n d → ∃ p, D.py d = some p ∧ p.canLay0 = true ∧ p.depth ≤ n + 1
  | 0, d, h => dpt_py0 h
  | n + 1, d, h => by
    have key : ∀ xs : List D, (∀ x ∈ xs, Dpt n x) → ∃ ps, D.pys xs = some ps ∧ (∀ p ∈ ps, p.canLay0 = true) ∧ ∀ p ∈ ps, p.depth ≤ n + 1 := by
      intro xs
      induction xs with
      | nil => intro _; exact ⟨[], rfl, by simp, by simp⟩
      | cons x xs ih =>
        intro hx
        obtain ⟨p, e, c, dp⟩ := dpt_py (hx x List.mem_cons_self)
        obtain ⟨ps, e2, c2, d2⟩ := ih fun y hy => hx y (List.mem_cons_of_mem _ hy)
        refine ⟨p :: ps, by rw [D.pys, e, e2]; rfl, fun q hq => ?_, fun q hq => ?_⟩
        · rcases List.mem_cons.mp hq with rfl | hq
          · exact c
          · exact c2 q hq
        · rcases List.mem_cons.mp hq with rfl | hq
          · exact dp
          · exact d2 q hq
    rcases h with h | ⟨xs, rfl, hx⟩ | ⟨m, xs, rfl, hx⟩
    · obtain ⟨p, e, c, dp⟩ := dpt_py0 h
      exact ⟨p, e, c, by omega⟩
    · obtain ⟨ps, e, c, dp⟩ := key xs hx
      refine ⟨.tuple ps, by rw [D.py, e]; rfl, by rw [PyData.canLay0]; exact lay_all c, ?_⟩
      rw [PyData.depth]
      have := depth_all dp
      omega
    · obtain ⟨ps, e, c, dp⟩ := key xs hx
      refine ⟨.list ps, by rw [D.py, e]; rfl, by rw [PyData.canLay0]; exact lay_all c, ?_⟩
      rw [PyData.depth]
      have := depth_all dp
      omega
theorem eq_sameD {n : Nat} {a b : D} (h : Dpt n a) (hn : n ≤ 60) (e : D.py b = D.py a) : gEq [a, b] = some (.bl true) ∧ gNe [a, b] = some (.bl false) := by
  obtain ⟨p, e1, c, dp⟩ := dpt_py h
  have sh : SeqAt.shaped p = true := by
    unfold SeqAt.shaped
    rw [c, Bool.true_and]
    exact decide_eq_true (by omega)
  have r := SeqAt.eqv_refl p c
  constructor
  · rw [Tw.eq_2, e, e1, Option.bind_some, Option.bind_some, sh, Bool.and_self, if_pos rfl, r]
  · rw [Tw.ne_2, e, e1, Option.bind_some, Option.bind_some, sh, Bool.and_self, if_pos rfl, r]; rfl
theorem dpt_int (n : Nat) (i : Int) : Dpt n (.int i) := by cases n <;> first | exact .inl ⟨i, rfl⟩ | exact .inl (.inl ⟨i, rfl⟩)
theorem dpt_str (n : Nat) {x : Str} (h : PyData.strOk x = true) : Dpt n (.str x) := by cases n <;> first | exact .inr (.inl ⟨x, rfl, h⟩) | exact .inl (.inr (.inl ⟨x, rfl, h⟩))
theorem dpt_bl (n : Nat) (b : Bool) : Dpt n (.bl b) := by cases n <;> first | exact .inr (.inr (.inl ⟨b, rfl⟩)) | exact .inl (.inr (.inr (.inl ⟨b, rfl⟩)))
theorem dpt_tup {n : Nat} {xs : List D} (h : ∀ x ∈ xs, Dpt n x) : Dpt (n + 1) (.tup xs) := .inr (.inl ⟨xs, rfl, h⟩)
theorem dpt_lst {n : Nat} {m : Bool} {xs : List D} (h : ∀ x ∈ xs, Dpt n x) : Dpt (n + 1) (.lst m xs) := .inr (.inr ⟨m, xs, rfl, h⟩)
theorem dpt_map {α : Type} {n : Nat} {f : α → D} {xs : List α} (h : ∀ x ∈ xs, Dpt n (f x)) : ∀ d ∈ xs.map f, Dpt n d := fun d hd => by obtain ⟨x, hx, rfl⟩ := List.mem_map.mp hd; exact h x hx
theorem dpt_ints (n : Nat) (ns : List Int) : Dpt (n + 1) (.tup (ns.map .int)) := dpt_tup (dpt_map fun i _ => dpt_int n i)
theorem dpt_nil {n : Nat} : ∀ x ∈ ([] : List D), Dpt n x := fun _ h => by cases h
theorem dpt_cons {n : Nat} {d : D} {ds : List D} (h : Dpt n d) (h2 : ∀ x ∈ ds, Dpt n x) : ∀ x ∈ d :: ds, Dpt n x := fun x hx => (List.mem_cons.mp hx).elim (fun e => e ▸ h) (h2 x)
end Tw
noncomputable section
namespace Tw
open PySem PySem.Spec PyProof.Rows L2
/-! ### t.index(x), l.index(x) -/
section
variable {X : Cx} {cl : Nat → Addr} {W : WX} {a b c e : Expr} {es : List Expr} {pos apos p pf : Pos} {x : Str} {fa fb fc : Ev} {K : PySem.W.Frag} {M : Addr → Prop} {H : Hp}
def rTIndexD (K : PySem.W.Frag) : V → List V → Hp → VK → Prop := fun x xs H Q => ∃ (a : Addr) (y : V) (d : PyData) (ds : List PyData) (j : Nat) (z : PyData), x = V.ref a ∧ xs = [y] ∧ Dp K H (V.ref a) (.tuple ds) ∧ Dp K H y d ∧
  SeqAt.shaped (.tuple ds) = true ∧ (SeqAt.shaped d = true ∧ d.depth ≤ 60) ∧ ds[j]? = some z ∧ PyData.eqv z d = true ∧ (∀ (m : Nat) (z' : PyData), m < j → ds[m]? = some z' → PyData.eqv z' d = false) ∧ Q (.int (j : Nat)) H
theorem mt_tindexD (hu : X.A.units + 64 < cLine) : MtR X "tuple.index" (rTIndexD X.K) := by
  intro pins s σ H x xs v us Q I rx rxs h
  obtain ⟨a, y, d, ds, j, z, rfl, rfl, hl, hy, sl, ⟨sd, dd⟩, hz, hzj, hno, q⟩ := h
  cases rx
  obtain ⟨uy, rfl, ry⟩ := vals1 rxs
  obtain ⟨bs, r1⟩ := Dp.reads I d y uy hy ry
  have hxs : PyData.canLayAll0 ds = true := SeqAt.canLay_of_shaped sl
  have hroom : X.A.units + 1 + min (PyData.depthAll ds) d.depth < cLine := Nat.lt_of_le_of_lt (by have := Nat.min_le_right (PyData.depthAll ds) d.depth; omega) hu
  cases hl with
  | tup hs ha =>
    obtain ⟨its, rv, pl, hlen⟩ := I.tuple hs
    obtain ⟨⟨cls, dd, dt, sls⟩, ho, hc, n, hdt⟩ := pl
    simp only at hc hdt
    subst hc hdt
    obtain ⟨as, h4⟩ := Dp.readsAll I ds _ its ha rv
    have hn : its.length = ds.length := SeqAt.ReadsAll.length ds its as h4
    have hmap : its.map (SeqAt.readOf s.heap) = ds := SeqAt.readsAll_map ds its as hxs h4
    obtain ⟨hjd, _⟩ := List.getElem?_eq_some_iff.mp hz
    have hj : j < its.toArray.size := by rw [List.size_toArray]; omega
    have at_ : ∀ (m : Nat) (hm : m < its.toArray.size) (z' : PyData), ds[m]? = some z' → SeqAt.readOf s.heap its.toArray[m] = z' := by
      intro m hm z' hz'
      have hml : m < its.length := by simpa using hm
      rw [← hmap, List.getElem?_map, List.getElem?_eq_getElem hml] at hz'
      have e1 : SeqAt.readOf s.heap its[m] = z' := Option.some.inj (show some (SeqAt.readOf s.heap its[m]) = some z' from hz')
      simpa using e1
    refine call_meets PySem.F.slot_tuple_index ⟨_, ho, rfl⟩ PySem.F.entry_tuple_index (PySem.F.args_tuple_index_2 _ _)
      (TI.tuple_indexAt a its.toArray n dd sls uy (fun u => PyData.eqv (SeqAt.readOf s.heap u) d) j hj ?_ ?_) ⟨ho, SeqAt.items_eqAt (vs := its.toArray) (show ReadsAll s.heap its.toArray.toList ds as from h4) r1 hxs (SeqAt.canLay_of_shaped sd) hroom, ?_⟩
    · show PyData.eqv (SeqAt.readOf s.heap its.toArray[j]) d = true
      rw [at_ j hj z hz]
      exact hzj
    · intro m hm hmj
      have hmd : m < ds.length := by omega
      have hz' : ds[m]? = some ds[m] := List.getElem?_eq_getElem hmd
      show PyData.eqv (SeqAt.readOf s.heap its.toArray[m]) d = false
      rw [at_ m hm _ hz']
      exact hno m _ hmj hz'
    · exact ⟨.int (j : Nat), H, I.tok _, ⟨_, rfl⟩, q⟩
def rLIndexD (K : PySem.W.Frag) : V → List V → Hp → VK → Prop := fun x xs H Q => ∃ (a : Addr) (y : V) (d : PyData) (ds : List PyData) (j : Nat) (z : PyData), x = V.ref a ∧ xs = [y] ∧ Dp K H (V.ref a) (.list ds) ∧ Dp K H y d ∧
  SeqAt.shaped (.list ds) = true ∧ (SeqAt.shaped d = true ∧ d.depth ≤ 60) ∧ ds[j]? = some z ∧ PyData.eqv z d = true ∧ (∀ (m : Nat) (z' : PyData), m < j → ds[m]? = some z' → PyData.eqv z' d = false) ∧ Q (.int (j : Nat)) H
theorem mt_lindexD (hu : X.A.units + 64 < cLine) : MtR X "list.index" (rLIndexD X.K) := by
  intro pins s σ H x xs v us Q I rx rxs h
  obtain ⟨a, y, d, ds, j, z, rfl, rfl, hl, hy, sl, ⟨sd, dd⟩, hz, hzj, hno, q⟩ := h
  cases rx
  obtain ⟨uy, rfl, ry⟩ := vals1 rxs
  obtain ⟨bs, r1⟩ := Dp.reads I d y uy hy ry
  have hxs : PyData.canLayAll0 ds = true := SeqAt.canLay_of_shaped sl
  have hroom : X.A.units + 1 + min (PyData.depthAll ds) d.depth < cLine := Nat.lt_of_le_of_lt (by have := Nat.min_le_right (PyData.depthAll ds) d.depth; omega) hu
  cases hl with
  | lst hs ha =>
    obtain ⟨its, rv, ⟨⟨cls, dd, dt, sls⟩, n, ho, hc, hdn, hdt⟩, hlen⟩ := I.list hs
    simp only at hc hdt
    subst hc hdt
    have hvl := rv.length
    have hsl := sizeLine_eq
    obtain ⟨as, h4⟩ := Dp.readsAll I ds _ its ha rv
    have hn : its.length = ds.length := SeqAt.ReadsAll.length ds its as h4
    have hmap : its.map (SeqAt.readOf s.heap) = ds := SeqAt.readsAll_map ds its as hxs h4
    obtain ⟨hjd, _⟩ := List.getElem?_eq_some_iff.mp hz
    have hj : j < its.toArray.size := by rw [List.size_toArray]; omega
    have at_ : ∀ (m : Nat) (hm : m < its.toArray.size) (z' : PyData), ds[m]? = some z' → SeqAt.readOf s.heap its.toArray[m] = z' := by
      intro m hm z' hz'
      have hml : m < its.length := by simpa using hm
      rw [← hmap, List.getElem?_map, List.getElem?_eq_getElem hml] at hz'
      have e1 : SeqAt.readOf s.heap its[m] = z' := Option.some.inj (show some (SeqAt.readOf s.heap its[m]) = some z' from hz')
      simpa using e1
    refine call_meets PySem.F.slot_list_index ⟨_, ho, rfl⟩ PySem.F.entry_list_index (PySem.F.args_list_index_2 _ _)
      (SeqAt.list_indexAt a its.toArray n dd sls uy (fun u => PyData.eqv (SeqAt.readOf s.heap u) d) j hj (by omega) ?_ ?_) ⟨ho, SeqAt.items_eqAt (vs := its.toArray) (show ReadsAll s.heap its.toArray.toList ds as from h4) r1 hxs (SeqAt.canLay_of_shaped sd) hroom, ?_⟩
    · show PyData.eqv (SeqAt.readOf s.heap its.toArray[j]) d = true
      rw [at_ j hj z hz]
      exact hzj
    · intro m hm hmj
      have hmd : m < ds.length := by omega
      have hz' : ds[m]? = some ds[m] := List.getElem?_eq_getElem hmd
      show PyData.eqv (SeqAt.readOf s.heap its.toArray[m]) d = false
      rw [at_ m hm _ hz']
      exact hno m _ hmj hz'
    · exact ⟨.int (j : Nat), H, I.tok _, ⟨_, rfl⟩, q⟩
def tyTup (K : PySem.W.Frag) (x : V) (H : Hp) : Prop := ∃ a xs M, x = .ref a ∧ FzT K M H a xs
theorem ty_tup : TyOk X "tuple" (tyTup X.K) := by
  intro pins σ H s x v I r ty
  obtain ⟨a, xs, M, rfl, h⟩ := ty
  cases r
  rcases h with ⟨its, e, _⟩ | ⟨o, its, n, e, c, dn, _⟩
  · have z : s.heap.get? a = some (tupO its) := (I.hok a _ e).1
    refine ⟨⟨_, z, rfl⟩, fun b e => ?_⟩
    cases e
    exact ⟨_, z, rfl⟩
  · refine ⟨⟨o, I.kIn a o e, c⟩, fun b e2 => ?_⟩
    cases e2
    exact ⟨o, I.kIn _ o e, dn⟩
/-- the place of the first one alike -/
def idxOf : List PyData → PyData → Option Nat
  | [], _ => none
  | z :: zs, d => if PyData.eqv z d then some 0 else (idxOf zs d).map (· + 1)
theorem idxOf_some : ∀ {zs : List PyData} {d : PyData} {j : Nat}, idxOf zs d = some j → (∃ z, zs[j]? = some z ∧ PyData.eqv z d = true) ∧ ∀ (m : Nat) (z' : PyData), m < j → zs[m]? = some z' → PyData.eqv z' d = false
  | [], _, _, h => by cases h
  | z :: zs, d, j, h => by
    unfold idxOf at h
    by_cases c : PyData.eqv z d = true
    · rw [if_pos c] at h; cases h
      exact ⟨⟨z, rfl, c⟩, fun m _ hm => absurd hm (by omega)⟩
    · rw [if_neg c] at h
      obtain ⟨i, e, rfl⟩ := Option.map_eq_some_iff.mp h
      obtain ⟨⟨z1, e1, c1⟩, no⟩ := idxOf_some e
      refine ⟨⟨z1, e1, c1⟩, fun m z' hm e2 => ?_⟩
      cases m with
      | zero => cases e2; simpa using c
      | succ m => exact no m z' (by omega) e2
def gIndex (xs : List D) (y : D) : Option Nat := (D.pys xs).bind fun zs => (D.py y).bind fun d => if SeqAt.shaped (.tuple zs) && (SeqAt.shaped d && decide (d.depth ≤ 60)) then idxOf zs d else none
def fIndex (fa fy : Ev) : Ev := fun env => (fa env).bind fun d env1 => match D.seqK d with
  | some q => (fy env1).bind fun y env2 => match gIndex q.2 y with
    | some j => .ok (.int (j : Int)) env2
    | none => .stuck
  | none => .stuck
theorem shaped_seq (zs : List PyData) : SeqAt.shaped (.list zs) = SeqAt.shaped (.tuple zs) := by
  unfold SeqAt.shaped
  simp [PyData.canLay0, PyData.depth]
theorem rd_index {K : PySem.W.Frag} {σ : S} {H : Hp} {Q : VK} (h : tE K cl W (fIndex fa fb) σ H Q) : tMG (tyTup K) (rTIndexD K) (tE K cl W fa) (tOs K cl W [.val fb]) σ H Q ∨ tBM K "list" (rLIndexD K) (tE K cl W fa) (tOs K cl W [.val fb]) σ H Q := by
  obtain ⟨τ, κ, env, r, l, q⟩ := h
  unfold fIndex at q
  have fin : ∀ {d y : D} {k : Bool} {xs : List D} {env2 : Tw.Env} {v w : V} {H2 : Hp}, D.seqK d = some (k, xs) → (match gIndex xs y with | some j => Rs.ok (D.int (j : Int)) env2 | none => Rs.stuck).P (fun d' env' => ∀ v H', Rel K cl H' (some d' :: (κ ++ env')) (some v :: (τ ++ σ)) → Q v H') (WP K cl W κ τ σ) →
      Rel K cl H2 (some y :: some d :: (κ ++ env2)) (some w :: some v :: (τ ++ σ)) → ∃ a zs d' j z, v = .ref a ∧ (k = true → Dp K H2 (.ref a) (.tuple zs)) ∧ (k = false → Dp K H2 (.ref a) (.list zs)) ∧ Dp K H2 w d' ∧ SeqAt.shaped (.tuple zs) = true ∧ (SeqAt.shaped d' = true ∧ d'.depth ≤ 60) ∧ zs[j]? = some z ∧ PyData.eqv z d' = true ∧
        (∀ (m : Nat) (z' : PyData), m < j → zs[m]? = some z' → PyData.eqv z' d' = false) ∧ Q (.int (j : Nat)) H2 := by
    intro d y k xs env2 v w H2 ek h1 r2
    cases eg : gIndex xs y with
    | none => rw [eg] at h1; exact h1.elim
    | some j =>
      rw [eg] at h1
      unfold gIndex at eg
      obtain ⟨zs, e1, eg⟩ := Option.bind_eq_some_iff.mp eg
      obtain ⟨d', e2, eg⟩ := Option.bind_eq_some_iff.mp eg
      split at eg
      · rename_i c
        rw [Bool.and_eq_true, Bool.and_eq_true] at c
        obtain ⟨⟨z, e3, c3⟩, no⟩ := idxOf_some eg
        obtain ⟨f, g, n, hh, hr⟩ := Rel.split (as := [y, d]) (vs := [w, v]) r2 rfl
        obtain ⟨f1, f2, _, h1y, h2d⟩ := dats2 hh
        obtain ⟨a, us, rfl, t1, t2, hd⟩ := dat_seqK h2d ek
        refine ⟨a, zs, d', j, z, rfl, fun hk => .tup (t2 hk) (dats_dp hd e1), fun hk => .lst (.of (t1 hk)) (dats_dp hd e1), dat_dp h1y e2, c.1, ⟨c.2.1, of_decide_eq_true c.2.2⟩, e3, c3, no, h1 _ _ ?_⟩
        exact (Rel.push r2.pop.pop fun M => dint)
      · cases eg
  cases e1 : fa env with
  | stuck => rw [e1] at q; exact q.elim
  | exc _ _ _ _ => rw [e1] at q; exact .inl ⟨τ, κ, env, r, l, by rw [e1]; exact q⟩
  | ok d env1 =>
    rw [e1, Rs.bind_ok] at q
    cases ek : D.seqK d with
    | none => rw [ek] at q; exact q.elim
    | some kq =>
      obtain ⟨k, xs⟩ := kq
      rw [ek] at q
      simp only at q
      cases k with
      | true =>
        refine .inl ⟨τ, κ, env, r, l, ?_⟩
        rw [e1]
        intro v H1 r1
        obtain ⟨M, f, hd⟩ := r1.head
        cases d with
        | tup ds =>
          obtain ⟨a, vs, rfl, t, _⟩ := hd
          refine ⟨⟨a, vs, M, rfl, t⟩, tE_bind1 (A := [some (.tup ds)]) (Y := [some (.ref a)]) rfl r1 l q fun y env2 w H2 h2 r2 => ?_⟩
          obtain ⟨a', zs, d', j, z, ea, p1, _, p2, p3, p4, p5, p6, p7, p8⟩ := fin ek h2 r2
          cases ea
          exact ⟨_, w, d', zs, j, z, rfl, rfl, p1 rfl, p2, p3, p4, p5, p6, p7, p8⟩
        | lst m ds => simp only [D.seqK] at ek; split at ek <;> cases ek
        | _ => cases ek
      | false =>
        refine .inr ⟨τ, κ, env, r, l, ?_⟩
        rw [e1]
        intro v H1 r1
        obtain ⟨M, f, hd⟩ := r1.head
        cases d with
        | lst m ds =>
          obtain ⟨a, vs, g, rfl, t, _⟩ := hd
          refine ⟨.inl ⟨rfl, vs, .of t⟩, tE_bind1 (A := [some (.lst m ds)]) (Y := [some (.ref a)]) rfl r1 l q fun y env2 w H2 h2 r2 => ?_⟩
          obtain ⟨a', zs, d', j, z, ea, _, p1, p2, p3, p4, p5, p6, p7, p8⟩ := fin ek h2 r2
          cases ea
          exact ⟨_, w, d', zs, j, z, rfl, rfl, p1 rfl, p2, by rw [shaped_seq]; exact p3, p4, p5, p6, p7, p8⟩
        | tup ds => simp only [D.seqK] at ek; split at ek <;> cases ek
        | _ => cases ek
theorem j_index (hu : X.A.units + 64 < cLine) {o e : Expr} (ho : PE X o (tE X.K cl W fa)) (ha : PA X [e] (tOs X.K cl W [.val fb]))
    (hbase : attributeBase o "index" X.env (eval o X.env) = eval o X.env := by rfl)
    (hfew : ((backTo pos (starEach [e] X.env)).all (fun x => !x.1) && (backToKw pos (keywordEach [] X.env)).all (fun x => x.1.isSome)
      && decide (([e] : List Expr).length + ([] : List Keyword).length + (if ([] : List Keyword).isEmpty then 0 else 1) < 30)) = true := by rfl)
    (hline : (apos.endLine == pos.line) = true := by rfl) (hs : starEach [e] X.env = (false, eval e X.env) :: starEach [] X.env := by rfl) (hplain : (backTo pos (starEach [] X.env)).any (·.1) = false := by rfl) :
    PE X (.Call (.Attribute o "index" apos) [e] [] pos) (tE X.K cl W (fIndex fa fb)) :=
  PE.imp (PE.or (pe_mG ty_tup PySem.F.plainAttrs_tuple PySem.F.slot_tuple_index PySem.F.type_tuple_index (mt_tindexD hu) ho ha hbase hfew hline hs hplain) (pe_bm PySem.F.plainAttrs_list PySem.F.slot_list_index PySem.F.type_list_index (mt_lindexD hu) ho ha hbase hfew hline hs hplain)) fun σ H Q h => rd_index h
theorem e_index (fa fy : Ev) (env : Tw.Env) : fIndex fa fy env = (fa env).bind fun d env1 => match D.seqK d with
  | some q => (fy env1).bind fun y env2 => match gIndex q.2 y with
    | some j => .ok (.int (j : Int)) env2
    | none => .stuck
  | none => .stuck := (rfl)
theorem py_int (i : Int) : D.py (.int i) = some (.int i) := (rfl)
theorem idxOf_ints : ∀ (ns : List Int) (i : Int), idxOf (ns.map .int) (.int i) = ns.idxOf? i
  | [], i => rfl
  | n :: ns, i => by
    rw [List.map_cons, idxOf, List.idxOf?_cons, idxOf_ints ns i]
    have e : PyData.eqv (.int n) (.int i) = (n == i) := rfl
    rw [e]
theorem shaped_int (i : Int) : (SeqAt.shaped (.int i) && decide ((PyData.int i).depth ≤ 60)) = true := (rfl)
theorem shaped_ints (ns : List Int) : SeqAt.shaped (.tuple (ns.map .int)) = true := by
  obtain ⟨p, e1, c, dp⟩ := dpt_py (dpt_ints 0 ns)
  have e : D.py (.tup (ns.map .int)) = some (.tuple (ns.map .int)) := by
    rw [D.py, pys_ints (by rw [Tw.ints_map])]; rfl
  rw [e] at e1
  cases e1
  unfold SeqAt.shaped
  rw [c, Bool.true_and]
  exact decide_eq_true (by omega)
theorem index_ints (ns : List Int) (i : Int) : gIndex (ns.map .int) (.int i) = ns.idxOf? i := by
  unfold gIndex
  rw [pys_ints (ns := ns) (by rw [Tw.ints_map]), Option.bind_some, py_int, Option.bind_some, shaped_int, shaped_ints, Bool.and_true, if_pos rfl, idxOf_ints]
end
end Tw
noncomputable section
namespace Tw
open PySem PySem.Spec PyProof.Rows L2
/-! ### dicts whose keys are whole numbers and texts -/
def D.key : D → Option Key
  | .int i => some (.inl i)
  | .str x => some (.inr x)
  | _ => none
/-- what stands at a key -/
def lookK {α : Type} : List Key → List α → Key → Option α
  | k :: ks, d :: ds, x => if k = x then some d else lookK ks ds x
  | _, _, _ => none
def inK (ks : List Key) (x : Key) : Bool := ks.any fun k => decide (k = x)
def putKs (ks : List Key) (x : Key) : List Key := if inK ks x = true then ks else ks ++ [x]
def putAt {α : Type} : List Key → List α → Key → α → List α
  | k :: ks, d :: ds, x, y => (if k = x then y else d) :: putAt ks ds x y
  | _, _, _, _ => []
def putDs {α : Type} (ks : List Key) (ds : List α) (x : Key) (y : α) : List α := if inK ks x = true then putAt ks ds x y else ds ++ [y]
def gIxD : List D → Option D
  | [.dct _ ks ds, k] => (D.key k).bind fun x => if D.oks ds then lookK ks ds x else none
  | _ => none
def fDNew : Ev := fun env => .ok (.dct true [] []) env
def D.ownD : D → Option (List Key × List D)
  | .dct true ks xs => some (ks, xs)
  | _ => none
def ownDAt (env : Tw.Env) (i : Nat) : Option (List Key × List D) := (env[i]?.join).bind D.ownD
def sDStore (i : Nat) (fi f : Ev) : Sv := fun env => sBind (f env) fun d env1 => match ownDAt env1 i with
  | none => .stuck
  | some _ => sBind (fi env1) fun k env2 => match (D.key k).bind fun x => (ownDAt env2 i).bind fun q => if D.oks q.2 && D.ok d && lenOk (q.1.length + 1) then some (putKs q.1 x, putDs q.1 q.2 x d) else none with
    | some es => .next (env2.set i (some (.dct true es.1 es.2)))
    | none => .stuck
section
variable {X : Cx} {cl : Nat → Addr} {W : WX} {a b c o e : Expr} {es : List Expr} {pos apos p pf : Pos} {x : Str} {fa fb fc : Ev} {io : List Nat} {i : Nat} {K : PySem.W.Frag} {M : Addr → Prop} {H : Hp}
theorem ownD_eq {d : D} {q : List Key × List D} (h : D.ownD d = some q) : d = .dct true q.1 q.2 := by
  cases d with
  | dct m ks ys => cases m <;> simp [D.ownD] at h; rw [← h]
  | _ => simp [D.ownD] at h
theorem ownDAt_eq {env : Tw.Env} {i : Nat} {q : List Key × List D} (h : ownDAt env i = some q) : env[i]? = some (some (.dct true q.1 q.2)) := by
  unfold ownDAt at h
  obtain ⟨d, e, h⟩ := Option.bind_eq_some_iff.mp h
  rw [ownD_eq h] at e
  cases e2 : env[i]? with
  | none => rw [e2] at e; cases e
  | some o => rw [e2] at e; cases o with
    | none => cases e
    | some d' => cases e; rfl
theorem lookK_val : ∀ {ks : List Key} {vs : List V} {x : Key}, valV (ks.zip vs) x = lookK ks vs x
  | [], _, _ => by simp [valV, lookK]
  | k :: ks, [], _ => by simp [valV, lookK]
  | k :: ks, v :: vs, x => by
    rw [List.zip_cons_cons]
    unfold lookK
    by_cases c : k = x
    · rw [if_pos c, valV_pos (p := (k, v)) c]
    · rw [if_neg c, valV_neg (p := (k, v)) c, lookK_val]
theorem lookK_dats : ∀ {ks : List Key} {ds : List D} {vs : List V} {g : List Addr} {x : Key} {d : D}, Dats K cl M H ds vs g → lookK ks ds x = some d → D.oks ds = true → ∃ v, lookK ks vs x = some v ∧ Dat K cl M H d v []
  | k :: ks, d' :: ds, _, _, x, d, h, e, ok => by
    obtain ⟨v, vs', f1, f2, rfl, _, h1, h2⟩ := h
    unfold lookK at e ⊢
    simp only [D.oks, Bool.and_eq_true] at ok
    by_cases c : k = x
    · rw [if_pos c] at e ⊢
      cases e
      have e2 := dat_ok h1 ok.1
      exact ⟨v, rfl, by rwa [e2] at h1⟩
    · rw [if_neg c] at e ⊢
      exact lookK_dats h2 e ok.2
  | [], _, _, _, _, _, _, e, _ => by simp [lookK] at e
  | _ :: _, [], _, _, _, _, _, e, _ => by simp [lookK] at e
theorem dat_key {d : D} {k : Key} {v : V} {f : List Addr} (h : Dat K cl M H d v f) (e : D.key d = some k) : v = kV k := by
  cases d with
  | int c => cases e; exact h.1
  | str c => cases e; exact h.1
  | _ => cases e
def rIxDk : R2 := fun x y H Q => ∃ a k v, x = .ref a ∧ y = kV k ∧ (∃ kvs, Rd H a (.dK kvs) ∧ valV kvs k = some v) ∧ Q v H
theorem ix_dk (hu64 : X.A.units + 64 < cLine) : IxR X rIxDk := by
  have hu : X.A.units + 1 < cLine := by omega
  intro value slice pins s σ H x y v u Q I rx ry h hs
  obtain ⟨a, k, r, rfl, rfl, ⟨kvs, hk, l⟩, q⟩ := h
  obtain rfl : v = Value.ref a := rx
  have g : DGet H a (kV k) (some r) := .inl ⟨kvs, k, hk, rfl, l.symm⟩
  exact tail_any (dict_typeIs I g) slot_dict_getitem.lookup (d_getItem hu I g ry fun w' s3 I3 rw' => ⟨r, H, I3, rw', q⟩) hs
theorem s_ixD : OpS K cl (rw2 rIxDk) gIxD := by
  intro as d vs H κ τ Q h l r q
  match as, h with
  | [.dct m ks us, k], h =>
    obtain ⟨x, y, rfl⟩ := two_of rfl l
    simp only [gIxD, Option.bind_eq_some_iff] at h
    obtain ⟨k', ek, h⟩ := h
    split at h
    · rename_i c
      obtain ⟨f, g, n, hh, hr⟩ := r.split l
      obtain ⟨f1, f2, _, h1, h2⟩ := dats2 hh
      obtain ⟨a, xs, g1, e1, t1, ll, d1, _⟩ := h1
      subst e1
      obtain ⟨v, e3, hv⟩ := lookK_dats d1 h c
      have e2 := dat_key h2 ek
      subst e2
      exact ⟨a, k', v, rfl, rfl, ⟨_, .inl t1, by rw [lookK_val, e3]⟩, q _ _ (derive n hh hr hv)⟩
    · cases h
theorem j_dnew : PE X (.Dict [] [] pos) (tE X.K cl W fDNew) := PE.imp pe_dnewK fun σ H Q ⟨τ, κ, env, r, l, q⟩ => fun p hp => by
  refine q (.ref p) _ ?_
  obtain ⟨F, n, h⟩ := r
  have np : p ∉ F := fun z => by
    obtain ⟨_, o, e⟩ := slots_in h p z
    rw [hp] at e; cases e
  have tr : ∀ a o, H a = some o → upd H p (.dK []) a = some o := same_upd hp
  refine ⟨p :: F, List.nodup_cons.mpr ⟨np, n⟩, .ref p, _, [p], F, rfl, rfl, ⟨p, [], [], rfl, upd_same, rfl, ⟨rfl, rfl⟩, .inl ⟨rfl, List.mem_cons_self, rfl⟩⟩, ?_⟩
  refine slots_tr h (fun a z => ?_) (fun a z => List.mem_cons_of_mem _ z) fun a o e _ => tr a o e
  rcases List.mem_cons.mp z with rfl | z
  · exact .inr hp
  · exact .inl z
theorem putAt_zip : ∀ (ks : List Key) (vs : List V) (x : Key) (y : V), (ks.zip vs).map (fun kv => if kv.1 = x then (kv.1, y) else kv) = ks.zip (putAt ks vs x y)
  | [], _, _, _ => rfl
  | _ :: _, [], _, _ => rfl
  | k :: ks, v :: vs, x, y => by
    rw [List.zip_cons_cons, List.map_cons, putAt_zip ks vs x y, putAt, List.zip_cons_cons]
    by_cases c : k = x
    · rw [if_pos c, if_pos c]
    · rw [if_neg c, if_neg c]
theorem any_mem (x : Key) : ∀ (ks : List Key) (vs : List V), ks.length = vs.length → ((ks.zip vs).any fun kv => decide (kv.1 = x)) = inK ks x
  | [], _, _ => rfl
  | k :: ks, [], l => by simp at l
  | k :: ks, v :: vs, l => by
    rw [List.zip_cons_cons, List.any_cons, any_mem x ks vs (by simpa using l)]
    rfl
theorem putK_zip (ks : List Key) (vs : List V) (x : Key) (y : V) (l : ks.length = vs.length) : putK (ks.zip vs) x y = (putKs ks x).zip (putDs ks vs x y) := by
  unfold putK putKs putDs
  rw [any_mem x ks vs l]
  by_cases c : inK ks x = true
  · rw [if_pos c, if_pos c, if_pos c, putAt_zip]
  · rw [if_neg c, if_neg c, if_neg c, List.zip_append l]; rfl
theorem putAt_len {α : Type} : ∀ (ks : List Key) (ds : List α) (x : Key) (y : α), ks.length = ds.length → (putAt ks ds x y).length = ks.length
  | [], _, _, _, _ => rfl
  | _ :: _, [], _, _, l => by simp at l
  | k :: ks, d :: ds, x, y, l => by rw [putAt, List.length_cons, List.length_cons, putAt_len ks ds x y (by simpa using l)]
theorem putDs_len {α : Type} (ks : List Key) (ds : List α) (x : Key) (y : α) (l : ks.length = ds.length) : (putDs ks ds x y).length = (putKs ks x).length := by
  unfold putDs putKs
  by_cases c : inK ks x = true
  · rw [if_pos c, if_pos c, putAt_len ks ds x y l]
  · rw [if_neg c, if_neg c, List.length_append, List.length_append, l]; rfl
theorem putAt_dats : ∀ {ks : List Key} {ds : List D} {vs : List V} {x : Key} {d : D} {v : V}, Dats K cl M H ds vs [] → Dat K cl M H d v [] → Dats K cl M H (putAt ks ds x d) (putAt ks vs x v) []
  | [], _, _, _, _, _, _, _ => ⟨rfl, rfl⟩
  | _ :: _, [], _, _, _, _, h, _ => by rw [h.1]; exact ⟨rfl, rfl⟩
  | k :: ks, d' :: ds, _, x, d, v, h, hd => by
    obtain ⟨v', vs', f1, f2, rfl, e2, h1, h2⟩ := h
    obtain ⟨rfl, rfl⟩ := List.append_eq_nil_iff.mp e2.symm
    unfold putAt
    refine ⟨_, _, [], [], rfl, rfl, ?_, putAt_dats h2 hd⟩
    by_cases c : k = x
    · rw [if_pos c, if_pos c]; exact hd
    · rw [if_neg c, if_neg c]; exact h1
theorem putDs_dats {ks : List Key} {ds : List D} {vs : List V} {x : Key} {d : D} {v : V} (h : Dats K cl M H ds vs []) (hd : Dat K cl M H d v []) : Dats K cl M H (putDs ks ds x d) (putDs ks vs x v) [] := by
  unfold putDs
  by_cases c : inK ks x = true
  · rw [if_pos c, if_pos c]; exact putAt_dats h hd
  · rw [if_neg c, if_neg c]; exact dats_nil_append h ⟨v, [], [], [], rfl, rfl, hd, rfl, rfl⟩
theorem s_dstore {tpos : Pos} (hu64 : X.A.units + 64 < cLine) (ho : PE X o (tVar i)) (hi : PE X c (tE X.K cl W fc)) (he : PE X e (tE X.K cl W fa)) (hs : swapsWith e (some (.Subscript o c tpos)) pos.line X.env = pure false := by rfl) :
    PS X (.Assign [.Subscript o c tpos] e pos) (tS X.K cl W io (sDStore i fc fa)) := PS.imp (ps_dput (by omega) ho hi he hs) fun Z σ H ⟨τ, κ, env, r, l, q⟩ => by
  refine sbind_at (A := []) (Y := []) rfl r l q fun d env1 v H1 h1 r1 => ?_
  cases e : ownDAt env1 i with
  | none => rw [e] at h1; exact h1.elim
  | some ds0 =>
    rw [e] at h1
    simp only at h1
    obtain ⟨u, e1, r1'⟩ := slot_out (A := [some d]) (Y := [some v]) r1 rfl l (ownDAt_eq e)
    obtain ⟨_, _, p, _, _, eu, _⟩ := r1'.head
    subst eu
    refine ⟨.ref p, e1, ?_⟩
    refine sbind_at (A := [some d]) (Y := [some v]) rfl r1 l h1 fun k env2 w H2 h2 r2 => ?_
    cases e2 : (D.key k).bind fun x => (ownDAt env2 i).bind fun q => if D.oks q.2 && D.ok d && lenOk (q.1.length + 1) then some (putKs q.1 x, putDs q.1 q.2 x d) else none with
    | none => rw [e2] at h2; exact h2.elim
    | some es =>
      rw [e2] at h2
      obtain ⟨z, ez, e2⟩ := Option.bind_eq_some_iff.mp e2
      obtain ⟨⟨ks, ds⟩, ed, e2⟩ := Option.bind_eq_some_iff.mp e2
      split at e2
      · rename_i ok
        simp only [Bool.and_eq_true] at ok
        cases e2
        obtain ⟨M, f, hk⟩ := r2.head
        have ew := dat_key hk ez
        subst ew
        have r3 := r2.pop
        obtain ⟨u', e1', r4⟩ := slot_out (A := [some d]) (Y := [some v]) r3 rfl l (ownDAt_eq ed)
        rw [e1] at e1'
        cases e1'
        have r5 : Rel X.K cl H2 (List.map some [d, .dct true ks ds] ++ (κ ++ env2.set i none)) (List.map some [v, .ref p] ++ (τ ++ σ)) := Rel.swap3 (A := [some (.dct true ks ds)]) (X := [some (.ref p)]) (B := [some d]) (Y := [some v]) r4 rfl rfl
        obtain ⟨f, g, n, hh, hr⟩ := r5.split rfl
        obtain ⟨f1, f2, ef, hd, hl⟩ := dats2 hh
        obtain ⟨a', us, g', e6, t, ll, hds, w⟩ := hl
        cases e6
        have z1 := dat_ok hd ok.1.2
        subst z1
        have z2 := dats_ok hds ok.1.1
        subst z2
        rcases w with ⟨_, hM, e7⟩ | ⟨z, _⟩
        · subst e7
          have e8 : f = [p] := ef
          subst e8
          have lz : (ks.zip us).length = ks.length := by rw [List.length_zip, ll, Nat.min_self]
          refine ⟨p, _, rfl, DPut.k t (by have := of_decide_eq_true ok.2; omega), ?_⟩
          rw [putK_zip ks us z v ll]
          have np : p ∉ g := (List.nodup_cons.mp n).1
          have tr : ∀ {f : List Addr}, p ∉ f → ∀ a o, H2 a = some o → (a ∈ [p] ++ g → a ∈ f) → upd H2 p (.dK ((putKs ks z).zip (putDs ks us z v))) a = some o := fun {f} np a o e hf => by
            rw [upd_ne fun z => np (by rw [← z]; exact hf (by rw [z]; exact hM))]
            exact e
          have r6 : Rel X.K cl (upd H2 p (.dK ((putKs ks z).zip (putDs ks us z v)))) (some (.dct true (putKs ks z) (putDs ks ds z d)) :: (κ ++ env2.set i none)) (some (.ref p) :: (τ ++ σ)) := by
            refine ⟨[p] ++ g, n, .ref p, _, [p], g, rfl, rfl, ⟨p, _, [], rfl, upd_same, (putDs_len ks us z v ll).symm, ?_, .inl ⟨rfl, hM, rfl⟩⟩, ?_⟩
            · exact dats_tr (putDs_dats hds hd) (fun a z => .inl z) (fun a z => nomatch z) (tr (by simp))
            · exact slots_tr hr (fun a z => .inl z) (fun a z => List.mem_append_right _ z) (tr np)
          have r7 := slot_in (A := []) (Y := []) r6 rfl l e1
          rw [List.set_set] at r7
          exact h2 σ _ .refl r7
        · cases z
      · cases e2
/-! evaluation -/
theorem e_dnew (env : Tw.Env) : fDNew env = .ok (.dct true [] []) env := (rfl)
theorem ixD_1 (m : Bool) (ks : List Key) (ds : List D) (k : D) : gIxD [.dct m ks ds, k] = (D.key k).bind fun x => if D.oks ds then lookK ks ds x else none := (rfl)
theorem key_int (i : Int) : D.key (.int i) = some (.inl i) := (rfl)
theorem key_str (x : Str) : D.key (.str x) = some (.inr x) := (rfl)
theorem e_dstore (i : Nat) (fi f : Ev) (env : Tw.Env) : sDStore i fi f env = sBind (f env) fun d env1 => match ownDAt env1 i with
  | none => .stuck
  | some _ => sBind (fi env1) fun k env2 => match (D.key k).bind fun x => (ownDAt env2 i).bind fun q => if D.oks q.2 && D.ok d && lenOk (q.1.length + 1) then some (putKs q.1 x, putDs q.1 q.2 x d) else none with
    | some es => .next (env2.set i (some (.dct true es.1 es.2)))
    | none => .stuck := (rfl)
theorem ownDAt_eq' (env : Tw.Env) (i : Nat) : ownDAt env i = (env[i]?.join).bind D.ownD := (rfl)
theorem ownD_1 (ks : List Key) (ds : List D) : D.ownD (.dct true ks ds) = some (ks, ds) := (rfl)
end
end Tw
noncomputable section
namespace Tw
open PySem PySem.Spec PyProof.Rows L2
/-! ### dicts whose keys are tuples of whole numbers, read only -/
def lookT {α : Type} : List (List Int) → List α → List Int → Option α
  | k :: ks, d :: ds, x => if k = x then some d else lookT ks ds x
  | _, _, _ => none
def gIxT : List D → Option D
  | [.dtt ks ds, .tup kd] => (D.ints kd).bind fun k => if D.oks ds then lookT ks ds k else none
  | _ => none
section
variable {X : Cx} {cl : Nat → Addr} {W : WX} {a b c o e : Expr} {es : List Expr} {pos apos p pf : Pos} {x : Str} {fa fb fc : Ev} {io : List Nat} {i : Nat} {K : PySem.W.Frag} {M : Addr → Prop} {H : Hp}
def upT (x : List Int × Addr × Value) : List Key × Addr × Value := (x.1.map Sum.inl, x.2.1, x.2.2)
theorem ent_up (P : Program) (w : World) (x : List Int × Addr × Value) : entryOfKey (tupleKind (mixKind P w)) (upT x) = entI x := by
  unfold entryOfKey entI hashI upT
  show (⟨reduceHash (Builtin.Tuple.tupleHashOf ((x.1.map Sum.inl).map (keyH w))), _, _⟩ : DictEntry) = _
  rw [List.map_map]
  rfl
theorem kV_ints (k : List Int) : (k.map Sum.inl).map kV = k.map V.int := by rw [List.map_map]; rfl
theorem key_sq {pins : List (Addr × Obj)} {σ : S} {s : Shared} {k : List Int} {b : Addr} (I : Inv X pins σ H s) (h : SqT X.K H b (k.map V.int)) : (tupleKind (mixKind X.prog X.w)).is s.heap (k.map Sum.inl) b := by
  obtain ⟨its, r, ⟨o, h1, h2, n, h3⟩, hz⟩ := I.tuple h
  rw [← kV_ints] at r
  exact ⟨o, its.toArray, n, h1, h2, h3, by simpa using items_are r⟩
theorem inl_inj : ∀ {a b : List Int}, a.map (Sum.inl : Int → Key) = b.map Sum.inl → a = b
  | [], [], _ => rfl
  | [], _ :: _, h => by cases h
  | _ :: _, [], h => by cases h
  | x :: a, y :: b, h => by
    rw [List.map_cons, List.map_cons] at h
    injection h with h1 h2
    rw [Sum.inl.inj h1, inl_inj h2]
theorem nodup_up {xs : List (List Int × Addr × Value)} (h : (xs.map (·.1)).Nodup) : ((xs.map upT).map (·.1)).Nodup := by
  rw [List.map_map]
  show List.Pairwise _ _
  rw [List.pairwise_map]
  have h : List.Pairwise _ (xs.map (·.1)) := h
  rw [List.pairwise_map] at h
  exact h.imp fun hab e => hab (inl_inj e)
theorem dict_at {pins : List (Addr × Obj)} {σ : S} {s : Shared} {d : Addr} {xs : List (List Int × Addr × Value)} (I : Inv X pins σ H s) (h : H d = some (DtO d xs)) (hk : ∀ x ∈ xs, SqT X.K H x.2.1 (x.1.map V.int)) : s.heap.DictOfH (tupleKind (mixKind X.prog X.w)) d (xs.map upT) := by
  obtain ⟨⟨_, o, es, ep, h1, h2, h3, h4, h5⟩, _⟩ := (I.hok d _ h : ObjOk X.prog X.w H s.heap d (.ext (RawT d xs)))
  refine ⟨o, es, ep, h1, h2, h3, ?_, fun y hy => ?_, nodup_up h5⟩
  · rw [h4, List.map_map]
    exact List.map_congr_left fun x _ => (ent_up _ _ x).symm
  · obtain ⟨x, hx, rfl⟩ := List.mem_map.mp hy
    exact key_sq I (hk x hx)
theorem look_at : ∀ {xs : List (List Int × Addr × Value)} {vs : List V} {k : List Int} {v : V}, Vals vs (xs.map (·.2.2)) → lookT (xs.map (·.1)) vs k = some v → ∃ p, atKey (xs.map upT) (k.map Sum.inl) = some p ∧ RelV v p.2
  | [], vs, k, v, _, e => by simp [lookT] at e
  | x :: xs, _, k, v, .cons r t, e => by
    rw [List.map_cons, lookT] at e
    rw [List.map_cons]
    by_cases c : x.1 = k
    · rw [if_pos c] at e
      cases e
      exact ⟨(x.2.1, x.2.2), by simp [atKey, List.find?_cons, upT, c], r⟩
    · rw [if_neg c] at e
      obtain ⟨p, e1, e2⟩ := look_at t e
      refine ⟨p, ?_, e2⟩
      have c2 : ¬ (upT x).1 = k.map Sum.inl := fun z => c (inl_inj z)
      unfold atKey at e1 ⊢
      rw [List.find?_cons, decide_eq_false c2]
      exact e1
def rIxDt (K : PySem.W.Frag) : R2 := fun x y H Q => ∃ a b k xs vs v, x = .ref a ∧ y = .ref b ∧ H a = some (DtO a xs) ∧ (∀ x ∈ xs, SqT K H x.2.1 (x.1.map V.int)) ∧ Vals vs (xs.map (·.2.2)) ∧ SqT K H b (k.map V.int) ∧ lookT (xs.map (·.1)) vs k = some v ∧ Q v H
theorem ix_dt (hu : X.A.units + 64 < cLine) : IxR X (rIxDt X.K) := by
  intro value slice pins s σ H x y v u Q I rx ry h hs
  obtain ⟨a, b, k, xs, vs, r, rfl, rfl, hd, hk, hv, hb, l, q⟩ := h
  obtain rfl : v = Value.ref a := rx
  obtain rfl : u = Value.ref b := ry
  have dd := dict_at I hd hk
  obtain ⟨p, e1, e2⟩ := look_at hv l
  exact tail_any dd.typeIs slot_dict_getitem.lookup (wpAny_getItem_heap (tupleKind_room_in1 (by omega)) (key_sq I hb) dd e1 ⟨r, H, I.tok _, e2, q⟩) hs
theorem lookT_dats : ∀ {ks : List (List Int)} {ds : List D} {vs : List V} {g : List Addr} {x : List Int} {d : D}, Dats K cl M H ds vs g → lookT ks ds x = some d → D.oks ds = true → ∃ v, lookT ks vs x = some v ∧ Dat K cl M H d v []
  | k :: ks, d' :: ds, _, _, x, d, h, e, ok => by
    obtain ⟨v, vs', f1, f2, rfl, _, h1, h2⟩ := h
    unfold lookT at e ⊢
    simp only [D.oks, Bool.and_eq_true] at ok
    by_cases c : k = x
    · rw [if_pos c] at e ⊢
      cases e
      have e2 := dat_ok h1 ok.1
      exact ⟨v, rfl, by rwa [e2] at h1⟩
    · rw [if_neg c] at e ⊢
      exact lookT_dats h2 e ok.2
  | [], _, _, _, _, _, _, e, _ => by simp [lookT] at e
  | _ :: _, [], _, _, _, _, _, e, _ => by simp [lookT] at e
theorem ints_V {ds : List D} {ns : List Int} {vs : List V} {f : List Addr} (h : Dats K cl M H ds vs f) (e : D.ints ds = some ns) : vs = ns.map V.int := by
  induction ds generalizing ns vs f with
  | nil => cases e; exact h.1
  | cons d ds ih =>
    obtain ⟨v, vs', f1, f2, rfl, _, h1, h2⟩ := h
    simp only [D.ints, Option.bind_eq_some_iff, Option.map_eq_some_iff] at e
    obtain ⟨i, e1, ns', e2, rfl⟩ := e
    rw [dat_asI h1 e1, ih h2 e2]
    rfl
theorem s_ixT : OpS K cl (rw2 (rIxDt K)) gIxT := by
  intro as d vs H κ τ Q h l r q
  match as, h with
  | [.dtt ks us, .tup kd], h =>
    obtain ⟨x, y, rfl⟩ := two_of rfl l
    simp only [gIxT, Option.bind_eq_some_iff] at h
    obtain ⟨k, ek, h⟩ := h
    split at h
    · rename_i c
      obtain ⟨f, g, n, hh, hr⟩ := r.split l
      obtain ⟨f1, f2, _, h1, h2⟩ := dats2 hh
      obtain ⟨a, ws, xs, e1, ⟨t1, _⟩, ⟨k1, k2, k3⟩, d1⟩ := h1
      obtain ⟨b, zs, e2, t2, d2⟩ := h2
      subst e1; subst e2; subst k1
      obtain ⟨v, e3, hv⟩ := lookT_dats d1 h c
      have ez := ints_V d2 ek
      subst ez
      exact ⟨a, b, k, xs, ws, v, rfl, rfl, t1, fun x hx => (k2 x hx).sq, k3, t2.sq, e3, q _ _ (derive n hh hr hv)⟩
    · cases h
/-! a display of constants -/
def tKeyC (k : List Int) : TE := fun _ H Q => ∀ p its, H p = none → Q (.ref p) (upd H p (tupH its (k.map V.int)))
def tFlat (v : V) : TE := tC v
def dispTrs (kvs : List (List Int × V)) : List (TE × TE) := kvs.map fun kv => (tKeyC kv.1, tC kv.2)
theorem disp_run : ∀ (kvs : List (List Int × V)) (σ : S) (H : Hp) (R : List (V × V) → Hp → Prop),
    (∀ (bs : List Addr) (H2 : Hp), Paired (fun (kv : List Int × V) b => H b = none ∧ ∃ its, H2 b = some (tupH its (kv.1.map V.int))) kvs bs → (∀ a o, H a = some o → H2 a = some o) → R ((kvs.zip bs).map fun z => (.ref z.2, z.1.2)) H2) → tPairs (dispTrs kvs) σ H R
  | [], σ, H, R, h => h [] H .nil fun _ _ e => e
  | kv :: kvs, σ, H, R, h => by
    intro p its hp
    refine disp_run kvs σ (upd H p (tupH its (kv.1.map V.int))) _ fun bs H2 hb hs => ?_
    refine h (p :: bs) H2 (.cons ⟨hp, its, hs p _ upd_same⟩ (Paired.mapP hb fun x b ⟨z1, z2⟩ => ⟨?_, z2⟩)) fun a o e => hs a o (by rw [upd_ne (ne_of_none e hp)]; exact e)
    unfold upd at z1
    split at z1
    · cases z1
    · exact z1
def tDispT (K : PySem.W.Frag) (trs : List (TE × TE)) : TE := fun σ H Q => ∀ p, H p = none → tPairs trs σ (upd H p (.dT [])) fun ps H2 => H2 p = some (.dT []) ∧ ∃ kbs : List (List Int × Addr × V), ps = kbs.map (fun z => (.ref z.2.1, z.2.2)) ∧ (∀ z ∈ kbs, SqT K H2 z.2.1 (z.1.map V.int)) ∧ (kbs.map (·.1)).Nodup ∧
  ∀ xs : List (List Int × Addr × Value), Paired (fun (z : List Int × Addr × V) x => z.1 = x.1 ∧ z.2.1 = x.2.1 ∧ RelV z.2.2 x.2.2) kbs xs → Q (.ref p) (upd H2 p (DtO p xs))
theorem carriesT {pins : List (Addr × Obj)} {σ : S} {s : Shared} (I : Inv X pins σ H s) : ∀ {kbs : List (List Int × Addr × V)} {ws : List (Value × Value)}, VV (kbs.map fun z => (V.ref z.2.1, z.2.2)) ws → (∀ z ∈ kbs, SqT X.K H z.2.1 (z.1.map V.int)) →
    ∃ xs : List (List Int × Addr × Value), Paired (fun (z : List Int × Addr × V) x => z.1 = x.1 ∧ z.2.1 = x.2.1 ∧ RelV z.2.2 x.2.2) kbs xs ∧ CarriesH (tupleKind (mixKind X.prog X.w)) s.heap ws (xs.map upT)
  | [], _, r, _ => by rw [List.map_nil] at r; cases r; exact ⟨[], .nil, trivial⟩
  | z :: kbs, _, r, hk => by
    rw [List.map_cons] at r
    cases r with
    | @cons a b as bs h t =>
      obtain ⟨xs, c, q⟩ := carriesT I t fun y hy => hk y (List.mem_cons_of_mem _ hy)
      obtain ⟨b1, b2⟩ := b
      obtain rfl : b1 = Value.ref z.2.1 := h.1
      exact ⟨(z.1, z.2.1, b2) :: xs, .cons ⟨rfl, rfl, h.2⟩ c, rfl, rfl, key_sq I (hk z List.mem_cons_self), q⟩
theorem keys_eq : ∀ {kbs : List (List Int × Addr × V)} {xs : List (List Int × Addr × Value)}, Paired (fun (z : List Int × Addr × V) x => z.1 = x.1 ∧ z.2.1 = x.2.1 ∧ RelV z.2.2 x.2.2) kbs xs → xs.map (·.1) = kbs.map (·.1)
  | _, _, .nil => rfl
  | _, _, .cons h t => by rw [List.map_cons, List.map_cons, keys_eq t, h.1]
theorem pe_dispT {keys : List (Option Expr)} {values : List Expr} {trs : List (TE × TE)} (hu : X.A.units + 64 < cLine) (h : PPs X pos keys values trs) (hall : keys.all (·.isSome) = true) (hl : keys.length = values.length) (h0 : keys ≠ []) (h15 : keys.length ≤ 15) : PE X (.Dict keys values pos) (tDispT X.K trs) := by
  refine ⟨fun pins s σ H Q I q => ?_⟩
  have hn := I.hok.fresh (Nat.le_refl s.heap.objs.size)
  have I1 := I.laid (a := s.heap.objs.size) (o := .dT []) (h' := s.heap.push { cls := .type "dict", data := .dict #[] }) (t' := s.toks) (fun _ _ q => Heap.get?_push_of_some _ q) (Nat.le_refl _) (dt_empty s.heap I.big)
  have hlen := pairTrees_length keys values X.env pos hall hl
  rw [arm_eval_Dict, zip_pairTrees keys values X.env pos hall hl, dictDisplay_pairs _ (fun he => h0 (List.length_eq_zero_iff.mp (by rw [he] at hlen; exact hlen.symm))) (by omega)]
  refine wpAny_bind (wpAny_standAt (wpAny_bind (wpAny_subDictH (knd := tupleKind (mixKind X.prog X.w)) (show X.A.units < cLine by omega) (by omega) (thn (h.run pins _ σ _ _ I1 (q _ hn)) fun ws s2 ⟨ps, H2, I2, rel, e, kbs, ep, hk, nd, q2⟩ => ?_))))
  subst ep
  obtain ⟨xs, pr, c⟩ := carriesT I2 rel hk
  have ke := keys_eq pr
  obtain ⟨z, hd, vs0, r0, dd⟩ := dt_of I2.hok e
  cases r0
  refine ⟨xs.map upT, c, dd, fun h' tk dd' hs => wpAny_pure ⟨.ref s.heap.objs.size, _, ?_, rfl, q2 xs pr⟩⟩
  rw [storedAllH_nil_of_nodup _ (nodup_up (by rw [ke]; exact nd))] at dd'
  obtain ⟨o', es', ep', g1, g2, g3, g4, _, g5⟩ := dd'
  refine d_write I2 (by rw [e]; exact True.intro) hs ⟨o', g1⟩ ?_
  refine (show ObjOk X.prog X.w _ h' _ (.ext (RawT s.heap.objs.size xs)) from ⟨⟨hd, o', es', ep', g1, g2, g3, ?_, by rw [ke]; exact nd⟩, ⟨o', g1⟩, fun h1 h2 ⟨hd, o, es, ep, a1, a2⟩ k => ⟨hd, o, es, ep, k o a1, a2⟩⟩)
  rw [g4, List.map_map]
  exact List.map_congr_left fun x _ => ent_up _ _ x
/-- the values of a display of constants -/
def FlatD : D → V → Prop
  | .int i, v => v = .int i
  | .str x, v => v = .str x
  | _, _ => False
theorem flatD_dat {d : D} {v : V} (h : FlatD d v) (M : Addr → Prop) (H : Hp) : Dat K cl M H d v [] := by
  cases d with
  | int i => exact ⟨h, rfl⟩
  | str i => exact ⟨h, rfl⟩
  | _ => exact h.elim
theorem dats_of : ∀ {ds : List D} {vs : List V}, Paired FlatD ds vs → Dats K cl M H ds vs []
  | _, _, .nil => ⟨rfl, rfl⟩
  | _, _, .cons h t => ⟨_, _, [], [], rfl, rfl, flatD_dat h _ _, dats_of t⟩
theorem zip3 : ∀ {kvs : List (List Int × V)} {bs : List Addr}, (kvs.zip bs).map (fun z => (V.ref z.2, z.1.2)) = ((kvs.zip bs).map fun z => (z.1.1, z.2, z.1.2)).map fun z : List Int × Addr × V => (V.ref z.2.1, z.2.2) := by
  intro kvs bs
  rw [List.map_map]
  rfl
theorem j_dispT {keys : List (Option Expr)} {values : List Expr} {kvs : List (List Int × V)} {ds : List D} (hu : X.A.units + 64 < cLine) (h : PPs X pos keys values (dispTrs kvs)) (hd : Paired FlatD ds (kvs.map (·.2))) (nd : (kvs.map (·.1)).Nodup) (hall : keys.all (·.isSome) = true := by rfl) (hl : keys.length = values.length := by rfl) (h0 : keys ≠ [] := by decide) (h15 : keys.length ≤ 15 := by decide) :
    PE X (.Dict keys values pos) (tE X.K cl W (fK (.dtt (kvs.map (·.1)) ds))) := PE.imp (pe_dispT hu h hall hl h0 h15) fun σ H Q ⟨τ, κ, env, r, l, q⟩ => fun p hp => by
  refine disp_run kvs σ (upd H p (.dT [])) _ fun bs H2 hb hs => ?_
  have s2 : ∀ a o, H a = some o → H2 a = some o := fun a o e => hs a o (by rw [upd_ne (ne_of_none e hp)]; exact e)
  have hlen : kvs.length = bs.length := hb.length
  have hat : ∀ z ∈ kvs.zip bs, H z.2 = none ∧ z.2 ≠ p ∧ ∃ its, H2 z.2 = some (tupH its (z.1.1.map V.int)) := by
    have key : ∀ {kvs : List (List Int × V)} {bs : List Addr}, Paired (fun (kv : List Int × V) b => upd H p (.dT []) b = none ∧ ∃ its, H2 b = some (tupH its (kv.1.map V.int))) kvs bs → ∀ z ∈ kvs.zip bs, H z.2 = none ∧ z.2 ≠ p ∧ ∃ its, H2 z.2 = some (tupH its (z.1.1.map V.int)) := by
      intro kvs bs pr
      induction pr with
      | nil => intro z hz; cases hz
      | @cons a b as bs h t ih =>
        intro z hz
        rw [List.zip_cons_cons] at hz
        rcases List.mem_cons.mp hz with rfl | hz
        · refine ⟨?_, fun e => ?_, h.2⟩
          · have h1 := h.1
            unfold upd at h1
            split at h1
            · cases h1
            · exact h1
          · have h1 := h.1
            have e : b = p := e
            rw [e, upd_same] at h1
            cases h1
        · exact ih z hz
    exact key hb
  refine ⟨hs p _ upd_same, (kvs.zip bs).map fun z => (z.1.1, z.2, z.1.2), zip3, fun z hz => ?_, ?_, fun xs pr => ?_⟩
  · obtain ⟨y, hy, rfl⟩ := List.mem_map.mp hz
    obtain ⟨_, _, its, t⟩ := hat y hy
    exact .inl (.inr ⟨tupO its, t⟩)
  · rw [List.map_map]
    have : (kvs.zip bs).map ((fun z : List Int × Addr × V => z.1) ∘ fun z => (z.1.1, z.2, z.1.2)) = kvs.map (·.1) := by
      rw [show ((fun z : List Int × Addr × V => z.1) ∘ fun z : (List Int × V) × Addr => (z.1.1, z.2, z.1.2)) = (·.1) ∘ Prod.fst from rfl, ← List.map_map, List.map_fst_zip (by omega)]
    rw [this]; exact nd
  · refine q (.ref p) _ ?_
    obtain ⟨F, n, h⟩ := r
    have np : p ∉ F := fun z => by
      obtain ⟨_, o, e⟩ := slots_in h p z
      rw [hp] at e; cases e
    have tr : ∀ a o, H a = some o → upd H2 p (DtO p xs) a = some o := fun a o e => by
      rw [upd_ne (ne_of_none e hp)]; exact s2 a o e
    have ke := keys_eq pr
    refine ⟨F, n, .ref p, _, [], F, rfl, rfl, ⟨p, kvs.map (·.2), xs, rfl, ⟨upd_same, np⟩, ⟨?_, fun x hx => ?_, ?_⟩, dats_of hd⟩, ?_⟩
    · rw [ke, List.map_map]
      rw [show ((fun z : List Int × Addr × V => z.1) ∘ fun z : (List Int × V) × Addr => (z.1.1, z.2, z.1.2)) = (·.1) ∘ Prod.fst from rfl, ← List.map_map, List.map_fst_zip (by omega)]
    · have key : ∀ {kbs : List (List Int × Addr × V)} {xs : List (List Int × Addr × Value)}, Paired (fun (z : List Int × Addr × V) x => z.1 = x.1 ∧ z.2.1 = x.2.1 ∧ RelV z.2.2 x.2.2) kbs xs → ∀ x ∈ xs, ∃ z ∈ kbs, z.1 = x.1 ∧ z.2.1 = x.2.1 := by
        intro kbs xs pr
        induction pr with
        | nil => intro x hx; cases hx
        | @cons a b as bs h t ih =>
          intro x hx
          rcases List.mem_cons.mp hx with rfl | hx
          · exact ⟨a, List.mem_cons_self, h.1, h.2.1⟩
          · obtain ⟨z, hz, e⟩ := ih x hx
            exact ⟨z, List.mem_cons_of_mem _ hz, e⟩
      obtain ⟨z, hz, e1, e2⟩ := key pr x hx
      obtain ⟨y, hy, rfl⟩ := List.mem_map.mp hz
      obtain ⟨z1, z2, its, t⟩ := hat y hy
      rw [← e1, ← e2]
      refine .inl ⟨its, by rw [upd_ne z2]; exact t, fun m => ?_⟩
      obtain ⟨_, o, e⟩ := slots_in h y.2 m
      rw [z1] at e; cases e
    · have key : ∀ {kbs : List (List Int × Addr × V)} {xs : List (List Int × Addr × Value)}, Paired (fun (z : List Int × Addr × V) x => z.1 = x.1 ∧ z.2.1 = x.2.1 ∧ RelV z.2.2 x.2.2) kbs xs → Vals (kbs.map (·.2.2)) (xs.map (·.2.2)) := by
        intro kbs xs pr
        induction pr with
        | nil => exact .nil
        | cons h t ih => exact .cons h.2.2 ih
      have := key pr
      rw [List.map_map] at this
      rwa [show ((fun z : List Int × Addr × V => z.2.2) ∘ fun z : (List Int × V) × Addr => (z.1.1, z.2, z.1.2)) = (·.2) ∘ Prod.fst from rfl, ← List.map_map, List.map_fst_zip (by omega)] at this
    · exact slots_tr h (fun a z => .inl z) (fun a z => z) fun a o e _ => tr a o e
theorem ppsT_nil : PPs X pos [] [] (dispTrs []) := pps_nil
theorem ppsT_cons {k v : Expr} {ks : List (Option Expr)} {vs : List Expr} {kc : List Int} {vc : V} {kvs : List (List Int × V)} (hk : PE X k (tKeyC kc)) (hv : PE X v (tC vc)) (hr : PPs X pos ks vs (dispTrs kvs)) : PPs X pos (some k :: ks) (v :: vs) (dispTrs ((kc, vc) :: kvs)) := pps_cons hk hv hr
theorem pe_key2 {i j : Int} {n1 n2 : Nat} {p1 p2 : Pos} {x1} : PE X (.Tuple [.Constant (.int i) n1 p1, .Constant (.int j) n2 p2] x1 pos) (tKeyC [i, j]) := PE.imp (pe_tupF (pa_cons pe_int (pa_cons pe_int pa_nil))) fun σ H Q h => ⟨show 2 ≤ sizeLine by rw [sizeLine_eq]; decide, fun p its hp => h p its hp⟩
theorem ixT_1 (ks : List (List Int)) (ds kd : List D) : gIxT [.dtt ks ds, .tup kd] = (D.ints kd).bind fun k => if D.oks ds then lookT ks ds k else none := (rfl)
theorem frz_dtt (ks : List (List Int)) (ds : List D) : D.frz (.dtt ks ds) = .dtt ks (D.frzs ds) := (rfl)
theorem ok_dtt (ks : List (List Int)) (ds : List D) : D.ok (.dtt ks ds) = D.oks ds := (rfl)
/-! sum of a list of whole numbers -/
def gSum : List D → Option D
  | [.lst _ xs] => (D.ints xs).map fun ns => .int ns.sum
  | _ => none
theorem s_sum {K : PySem.W.Frag} : OpS K cl (rSum K) gSum := by
  intro as d vs H κ τ Q h l r q
  match as, h with
  | [.lst m us], h =>
    obtain ⟨v, rfl⟩ := one_of rfl l
    simp only [gSum, Option.map_eq_some_iff] at h
    obtain ⟨ns, e, rfl⟩ := h
    obtain ⟨M, f, hh⟩ := r.heads l
    obtain ⟨a, xs, g1, e1, t1, d1, _⟩ := dats1 hh
    subst e1
    rw [ints_V d1 e] at t1
    exact ⟨a, ns, rfl, .of t1, q _ _ (r.push fun M => dint)⟩
theorem sum_lst (m : Bool) (xs : List D) : gSum [.lst m xs] = (D.ints xs).map fun ns => .int ns.sum := (rfl)
end
end Tw
noncomputable section
namespace Tw
open PySem PySem.Spec PyProof.Rows L2
/-! ### list(zip(xs, t)): the zip's own tuple goes out once, then new ones -/
abbrev IsZipB (h : Heap) (z TI TO : Addr) (f0 : Value) (b : Bool) : Prop :=
  h.get? z = some { cls := .type "zip", dict := none, data := .fields #[f0, .bool b, .bool false, .ref TI, .ref TO], slots := #[] }
section
variable {prog : Program} {w : World} {A : Around} {E : Value → Shared → Prop} {s : Shared} {z TI TO i1 i2 T0 : Addr} {fp1 fp2 : List Addr} {n1 n2 i : Nat} {P1 P2 : Nat → Value → Prop} {St1 St2 : Nat → Heap → Prop} {a1 a2 : Value}
theorem wpAny_alive {M : Model} {a : Addr} {Q : Option Obj → Shared → Prop} (h : Q (s.heap.get? a) s) : wpAny M A (loadIfAlive a) Q E s := fun Γ p hΓ => by
  unfold loadIfAlive
  rw [Sem.wp_loadIfAlive, Sem.wp_pure]
  exact h
theorem not_free {b : Bool} {o : Obj} {Q : Bool → Shared → Prop} (hz : IsZipB s.heap z TI TO (rawInt T0) b) (ho : s.heap.get? T0 = some o)
    (h : ∀ h', IsZipB h' z TI TO (rawInt T0) true → Heap.SameBut z s.heap h' → Q false { s with heap := h' }) : wpAny (model prog w) A (Builtin.SmallTypes.ownedTupleIsFree (.ref z)) Q E s := by
  unfold Builtin.SmallTypes.ownedTupleIsFree
  refine wpAny_bind (wpAny_field hz rfl (x := rawInt T0) rfl ?_)
  show wpAny _ _ (loadIfAlive (T0 : Int).toNat >>= _) _ _ _
  rw [Int.toNat_natCast]
  refine wpAny_bind (wpAny_alive ?_)
  rw [ho]
  refine wpAny_bind (wpAny_field hz rfl (x := .bool b) rfl ?_)
  cases b with
  | true =>
    exact wpAny_pure (h s.heap hz ⟨rfl, fun _ _ => rfl⟩)
  | false =>
    refine wpAny_bind (wpAny_setField_rec hz (by simp) fun h' hz' hs' => wpAny_pure (h h' hz' hs'))
theorem zip_new_item {b : Bool} {o0 : Obj} {Q : Value → Shared → Prop} (S : ZipSep2 z TI TO i1 i2 fp1 fp2) (D1 : Draws prog w A i1 fp1 n1 P1 St1) (D2 : Draws prog w A i2 fp2 n2 P2 St2)
    (hz : IsZipB s.heap z TI TO (rawInt T0) b) (hT0 : s.heap.get? T0 = some o0) (hTI : IsTupOf2 s.heap TI (.ref i1) (.ref i2)) (st1 : St1 i s.heap) (st2 : St2 i s.heap) (hlt1 : i < n1) (hlt2 : i < n2)
    (hQ : ∀ x1 x2 h' tk, P1 i x1 → P2 i x2 → IsZipB h' z TI TO (rawInt T0) true → St1 (i + 1) h' → St2 (i + 1) h' → IsTupOf2 h' s.heap.objs.size x1 x2 →
      (∀ c o, c ≠ z → c ≠ i1 → c ≠ i2 → s.heap.get? c = some o → h'.get? c = some o) → Q (.ref s.heap.objs.size) { s with heap := h', toks := tk }) :
    wpAny (model prog w) A (Builtin.«zip.__next__» ⟨[.ref z], []⟩) (fun fin s' => ∃ v, fin = .done (.ret v) ∧ Q v s') E s := by
  obtain ⟨hp, g, d, tk0, os⟩ := s
  show wpAny _ _ (field (.ref z) 2 >>= _) _ _ _
  refine wpAny_bind (wpAny_field hz rfl (x := .bool false) rfl ?_)
  show wpAny _ _ (field (.ref z) 3 >>= _) _ _ _
  refine wpAny_bind (wpAny_field hz rfl (x := .ref TI) rfl ?_)
  refine wpAny_bind (wpAny_seqItems hTI rfl ?_)
  show wpAny _ _ (Builtin.SmallTypes.ownedTupleIsFree (.ref z) >>= _) _ _ _
  refine wpAny_bind (not_free hz hT0 fun g0 hz0 hs0 => ?_)
  replace hs0 : Heap.SameBut z hp g0 := hs0
  simp only [Bool.false_eq_true, if_false]
  refine wpAny_bind ?_
  simp only [← Array.forIn_toList, List.forIn_cons, List.forIn_nil]
  refine wpAny_bind (wpAny_bind (wpAny_holding ?_))
  show wpAny _ _ (Builtin.SmallTypes.nextOf (.ref i1) >>= _) _ _ ⟨g0, g, d, tk0, os⟩
  refine wpAny_bind (D1.item i _ _ _ hlt1 (D1.over st1 hs0 S.zf1) fun x1 p1 tk1 hx1 sn1 hp1 => wpAny_pure ?_)
  replace hp1 : Heap.SameBut i1 g0 p1 := hp1
  refine wpAny_pure ?_
  refine wpAny_bind (wpAny_bind (wpAny_holding ?_))
  show wpAny _ _ (Builtin.SmallTypes.nextOf (.ref i2) >>= _) _ _ ⟨p1, g, d, tk1, os⟩
  refine wpAny_bind (D2.item i _ _ _ hlt2 (D2.over (D2.over st2 hs0 S.zf2) hp1 S.sep1_2) fun x2 p2 tk2 hx2 sn2 hp2 => wpAny_pure ?_)
  replace hp2 : Heap.SameBut i2 p1 p2 := hp2
  refine wpAny_pure (wpAny_pure ?_)
  simp only [if_true]
  refine wpAny_bind (wpAny_newTuple (hsz := by show 2 ≤ sizeLine; rw [sizeLine_eq]; decide) ?_)
  have hsz : p2.objs.size = hp.objs.size := by rw [hp2.1, hp1.1, hs0.1]
  have hzz : IsZipB p2 z TI TO (rawInt T0) true := hp2.extBut _ _ S.zi2 (hp1.extBut _ _ S.zi1 hz0)
  have hkk : ∀ c o, c ≠ z → c ≠ i1 → c ≠ i2 → hp.get? c = some o → p2.get? c = some o := fun c o cz c1 c2 e => hp2.extBut _ _ c2 (hp1.extBut _ _ c1 (hs0.extBut _ _ cz e))
  have hj1 : St1 (i + 1) p2 := D1.over sn1 hp2 S.sep2_1
  have up : ∀ c o, p2.get? c = some o → (p2.push { cls := .type "tuple", data := .seq #[x1, x2] }).get? c = some o := fun c o e => Heap.get?_push_of_some _ e
  refine wpAny_pure ⟨_, rfl, ?_⟩
  have hT : IsTupOf2 (p2.push { cls := .type "tuple", data := .seq #[x1, x2] }) p2.objs.size x1 x2 := Heap.get?_push_size _ rfl
  rw [hsz] at hT
  show Q (.ref p2.objs.size) ⟨p2.push { cls := .type "tuple", data := .seq #[x1, x2] }, g, d, tk2, os⟩
  rw [hsz]
  exact hQ x1 x2 _ tk2 hx1 hx2 (up _ _ hzz) (D1.frame _ _ _ hj1 fun b hb o e => up b o e) (D2.frame _ _ _ sn2 fun b hb o e => up b o e) hT fun c o cz c1 c2 e => up c o (hkk c o cz c1 c2 e)
theorem zip_new_end {b : Bool} {o0 : Obj} {Q : Fin → Shared → Prop} (S : ZipSep2 z TI TO i1 i2 fp1 fp2) (D1 : Draws prog w A i1 fp1 n1 P1 St1) (D2 : Draws prog w A i2 fp2 n2 P2 St2)
    (hz : IsZipB s.heap z TI TO (rawInt T0) b) (hT0 : s.heap.get? T0 = some o0) (hTI : IsTupOf2 s.heap TI (.ref i1) (.ref i2)) (st1 : St1 i s.heap) (st2 : St2 i s.heap) (hle1 : i ≤ n1) (hle2 : i ≤ n2) (hend : i = n1 ∨ i = n2)
    (hE : ∀ h' tk e, (∀ c o, c ≠ z → c ≠ i1 → c ≠ i2 → s.heap.get? c = some o → h'.get? c = some o) → (∃ o, h'.get? e = some o ∧ o.cls = .type "StopIteration") → E (.ref e) { s with heap := h', toks := tk }) :
    wpAny (model prog w) A (Builtin.«zip.__next__» ⟨[.ref z], []⟩) Q E s := by
  obtain ⟨hp, g, d, tk0, os⟩ := s
  show wpAny _ _ (field (.ref z) 2 >>= _) _ _ _
  refine wpAny_bind (wpAny_field hz rfl (x := .bool false) rfl ?_)
  show wpAny _ _ (field (.ref z) 3 >>= _) _ _ _
  refine wpAny_bind (wpAny_field hz rfl (x := .ref TI) rfl ?_)
  refine wpAny_bind (wpAny_seqItems hTI rfl ?_)
  show wpAny _ _ (Builtin.SmallTypes.ownedTupleIsFree (.ref z) >>= _) _ _ _
  refine wpAny_bind (not_free hz hT0 fun g0 hz0 hs0 => ?_)
  replace hs0 : Heap.SameBut z hp g0 := hs0
  simp only [Bool.false_eq_true, if_false]
  refine wpAny_bind ?_
  simp only [← Array.forIn_toList, List.forIn_cons, List.forIn_nil]
  refine wpAny_bind (wpAny_bind (wpAny_holding ?_))
  show wpAny _ _ (Builtin.SmallTypes.nextOf (.ref i1) >>= _) _ _ ⟨g0, g, d, tk0, os⟩
  have sg1 := D1.over st1 hs0 S.zf1
  by_cases c1 : i = n1
  · subst c1
    refine wpAny_bind (D1.done _ _ _ sg1 fun h' e hk he => ?_)
    exact hE h' tk0 e (fun c o cz c1 c2 x => hk _ _ c1 (hs0.extBut _ _ cz x)) he
  · refine wpAny_bind (D1.item i _ _ _ (by omega) sg1 fun x1 p1 tk1 hx1 sn1 hp1 => wpAny_pure ?_)
    replace hp1 : Heap.SameBut i1 g0 p1 := hp1
    refine wpAny_pure ?_
    refine wpAny_bind (wpAny_bind (wpAny_holding ?_))
    show wpAny _ _ (Builtin.SmallTypes.nextOf (.ref i2) >>= _) _ _ ⟨p1, g, d, tk1, os⟩
    have e2 : i = n2 := by omega
    subst e2
    refine wpAny_bind (D2.done _ _ _ (D2.over (D2.over st2 hs0 S.zf2) hp1 S.sep1_2) fun h' e hk he => ?_)
    exact hE h' tk1 e (fun c o cz c1 c2 x => hk _ _ c2 (hp1.extBut _ _ c1 (hs0.extBut _ _ cz x))) he
theorem pyNext_zip_new {b : Bool} {o0 : Obj} {Q : Option Value → Shared → Prop} (S : ZipSep2 z TI TO i1 i2 fp1 fp2) (D1 : Draws prog w A.in1 i1 fp1 n1 P1 St1) (D2 : Draws prog w A.in1 i2 fp2 n2 P2 St2)
    (hz : IsZipB s.heap z TI TO (rawInt T0) b) (hT0 : s.heap.get? T0 = some o0) (hTI : IsTupOf2 s.heap TI (.ref i1) (.ref i2)) (st1 : St1 i s.heap) (st2 : St2 i s.heap) (hlt1 : i < n1) (hlt2 : i < n2)
    (hQ : ∀ x1 x2 h' tk, P1 i x1 → P2 i x2 → IsZipB h' z TI TO (rawInt T0) true → St1 (i + 1) h' → St2 (i + 1) h' → IsTupOf2 h' s.heap.objs.size x1 x2 →
      (∀ c o, c ≠ z → c ≠ i1 → c ≠ i2 → s.heap.get? c = some o → h'.get? c = some o) → Q (some (.ref s.heap.objs.size)) { s with heap := h', toks := tk }) :
    wpAny (model prog w) A (pyNext (.ref z)) Q E s := by
  have hT : s.TypeIs (.ref z) "zip" := ⟨_, hz, rfl⟩
  unfold pyNext
  exact wpAny_bind (wpAny_attempt (wpAny_callSpecial?_slot (name := Str.ofString "__next__") hT F.slot_zip_next
    (wpAny_call_entry F.slot_zip_next hT F.entry_zip_next
      (zip_new_item S D1 D2 hz hT0 hTI st1 st2 hlt1 hlt2 fun x1 x2 h' tk y1 y2 b1 d1 d2 b5 b7 => wpAny_pure (hQ x1 x2 h' tk y1 y2 b1 d1 d2 b5 b7)) (F.args_zip_next_1 _))))
theorem pyNext_zip_newEnd {b : Bool} {o0 : Obj} {Q : Option Value → Shared → Prop} (S : ZipSep2 z TI TO i1 i2 fp1 fp2) (D1 : Draws prog w A.in1 i1 fp1 n1 P1 St1) (D2 : Draws prog w A.in1 i2 fp2 n2 P2 St2)
    (hz : IsZipB s.heap z TI TO (rawInt T0) b) (hT0 : s.heap.get? T0 = some o0) (hTI : IsTupOf2 s.heap TI (.ref i1) (.ref i2)) (st1 : St1 i s.heap) (st2 : St2 i s.heap) (hle1 : i ≤ n1) (hle2 : i ≤ n2) (hend : i = n1 ∨ i = n2)
    (hQ : ∀ h' tk, (∀ c o, c ≠ z → c ≠ i1 → c ≠ i2 → s.heap.get? c = some o → h'.get? c = some o) → Q none { s with heap := h', toks := tk }) :
    wpAny (model prog w) A (pyNext (.ref z)) Q E s := by
  have hT : s.TypeIs (.ref z) "zip" := ⟨_, hz, rfl⟩
  unfold pyNext
  refine wpAny_bind (wpAny_attempt (wpAny_callSpecial?_slot (name := Str.ofString "__next__") hT F.slot_zip_next
    (wpAny_call_entry F.slot_zip_next hT F.entry_zip_next (zip_new_end S D1 D2 hz hT0 hTI st1 st2 hle1 hle2 hend fun h' tk e hk he => ?_) (F.args_zip_next_1 _))))
  obtain ⟨o, ho, hc⟩ := he
  refine wpAny_bind (wpAny_isInstance (T := "StopIteration") (b := true) ⟨o, ho, hc⟩ isSubtype_stop ?_)
  exact wpAny_pure (hQ _ _ hk)
/-- how the zip stands behind i items -/
def ZAt (z TI TO i1 i2 : Addr) (St1 St2 : Nat → Heap → Prop) (i : Nat) (h : Heap) : Prop :=
  ((i = 0 ∧ IsZip h z TI TO .none ∧ ∃ x y, IsTupOf2 h TO x y) ∨ ∃ (b : Bool) (T0 : Addr) (o0 : Obj), IsZipB h z TI TO (rawInt T0) b ∧ h.get? T0 = some o0 ∧ T0 ≠ z ∧ T0 ≠ i1 ∧ T0 ≠ i2) ∧ IsTupOf2 h TI (.ref i1) (.ref i2) ∧ St1 i h ∧ St2 i h
/-- the items so far -/
def ZAcc (lo : Nat) (P1 P2 : Nat → Value → Prop) (acc : Array Value) (i : Nat) (h : Heap) : Prop := ∃ Ts : List Addr, acc.toList = Ts.map Value.ref ∧ Ts.length = i ∧ Ts.Pairwise (fun a b : Addr => a < b) ∧ ∀ (j : Nat) (T : Addr), Ts[j]? = some T → ∃ x1 x2, lo ≤ T ∧ P1 j x1 ∧ P2 j x2 ∧ IsTupOf2 h T x1 x2
theorem ZAcc.size {lo i : Nat} {acc : Array Value} {h : Heap} (a : ZAcc lo P1 P2 acc i h) : acc.size = i := by
  obtain ⟨Ts, e, l, _⟩ := a
  rw [← Array.length_toList, e, List.length_map, l]
theorem zip_step {Q : Option Value → Shared → Prop} {lo : Nat} (S : ZipSep2 z TI TO i1 i2 fp1 fp2) (D1 : Draws prog w A.in1 i1 fp1 n1 P1 St1) (D2 : Draws prog w A.in1 i2 fp2 n2 P2 St2) (za : ZAt z TI TO i1 i2 St1 St2 i s.heap) (hlt1 : i < n1) (hlt2 : i < n2)
    (hlo : z < lo ∧ i1 < lo ∧ i2 < lo) (hs : lo ≤ s.heap.objs.size)
    (hQ : ∀ x1 x2 h' tk, P1 i x1 → P2 i x2 → ZAt z TI TO i1 i2 St1 St2 (i + 1) h' → IsTupOf2 h' s.heap.objs.size x1 x2 →
      (∀ c o, c ≠ z → c ≠ TO → c ≠ i1 → c ≠ i2 → s.heap.get? c = some o → h'.get? c = some o) → Q (some (.ref s.heap.objs.size)) { s with heap := h', toks := tk }) :
    wpAny (model prog w) A (pyNext (.ref z)) Q E s := by
  obtain ⟨zs, hTI, st1, st2⟩ := za
  rcases zs with ⟨_, hz, x, y, hTO⟩ | ⟨b, T0, o0, hz, hT0, n1', n2', n3'⟩
  · refine wpAny_pyNext_zipD2_item S D1 D2 hz hTI hTO st1 st2 hlt1 hlt2 fun x1 x2 h' tk p1 p2 hz' hTO' s1 s2 hT hsz hk => ?_
    refine hQ x1 x2 h' tk p1 p2 ⟨.inr ⟨false, s.heap.objs.size, _, hz', hT, Nat.ne_of_gt (Nat.lt_of_lt_of_le hlo.1 hs), Nat.ne_of_gt (Nat.lt_of_lt_of_le hlo.2.1 hs), Nat.ne_of_gt (Nat.lt_of_lt_of_le hlo.2.2 hs)⟩, ?_, s1, s2⟩ hT hk
    exact hk _ _ S.TIz S.TITO S.TIi1 S.TIi2 hTI
  · refine pyNext_zip_new S D1 D2 hz hT0 hTI st1 st2 hlt1 hlt2 fun x1 x2 h' tk p1 p2 hz' s1 s2 hT hk => ?_
    refine hQ x1 x2 h' tk p1 p2 ⟨.inr ⟨true, T0, o0, hz', hk _ _ n1' n2' n3' hT0, n1', n2', n3'⟩, ?_, s1, s2⟩ hT fun c o cz _ c1 c2 e => hk c o cz c1 c2 e
    exact hk _ _ S.TIz S.TIi1 S.TIi2 hTI
theorem zip_stop {Q : Option Value → Shared → Prop} (S : ZipSep2 z TI TO i1 i2 fp1 fp2) (D1 : Draws prog w A.in1 i1 fp1 n1 P1 St1) (D2 : Draws prog w A.in1 i2 fp2 n2 P2 St2) (za : ZAt z TI TO i1 i2 St1 St2 i s.heap) (hle1 : i ≤ n1) (hle2 : i ≤ n2) (hend : i = n1 ∨ i = n2)
    (hQ : ∀ h' tk, (∀ c o, c ≠ z → c ≠ TO → c ≠ i1 → c ≠ i2 → s.heap.get? c = some o → h'.get? c = some o) → Q none { s with heap := h', toks := tk }) :
    wpAny (model prog w) A (pyNext (.ref z)) Q E s := by
  obtain ⟨zs, hTI, st1, st2⟩ := za
  rcases zs with ⟨_, hz, x, y, hTO⟩ | ⟨b, T0, o0, hz, hT0, n1', n2', n3'⟩
  · exact wpAny_pyNext_zipD2_end S D1 D2 hz hTI hTO st1 st2 hle1 hle2 hend hQ
  · exact pyNext_zip_newEnd S D1 D2 hz hT0 hTI st1 st2 hle1 hle2 hend fun h' tk hk => hQ h' tk fun c o cz _ c1 c2 e => hk c o cz c1 c2 e
end
section
variable {prog : Program} {w : World} {A : Around} {R : Result → Shared → Prop} {z TI TO i1 i2 : Addr} {fp1 fp2 : List Addr} {n1 n2 : Nat} {P1 P2 : Nat → Value → Prop} {St1 St2 : Nat → Heap → Prop}
theorem ZAt.over {L i : Nat} {h h' : Heap} (D1 : Draws prog w A i1 fp1 n1 P1 St1) (D2 : Draws prog w A i2 fp2 n2 P2 St2) (za : ZAt z TI TO i1 i2 St1 St2 i h) (hL : L ≠ z ∧ L ≠ TI ∧ L ≠ TO ∧ L ∉ fp1 ∧ L ∉ fp2) (hk : ∀ c o, c ≠ L → h.get? c = some o → h'.get? c = some o) (he : ∃ o, h'.get? L = some o) : ZAt z TI TO i1 i2 St1 St2 i h' := by
  obtain ⟨zs, hTI, st1, st2⟩ := za
  refine ⟨?_, hk _ _ hL.2.1.symm hTI, D1.frame _ _ _ st1 fun b hb o e => hk b o (fun q => hL.2.2.2.1 (q ▸ hb)) e, D2.frame _ _ _ st2 fun b hb o e => hk b o (fun q => hL.2.2.2.2 (q ▸ hb)) e⟩
  rcases zs with ⟨e, hz, x, y, hTO⟩ | ⟨b, T0, o0, hz, hT0, m1, m2, m3⟩
  · exact .inl ⟨e, hk _ _ hL.1.symm hz, x, y, hk _ _ hL.2.2.1.symm hTO⟩
  · by_cases c : T0 = L
    · subst c
      obtain ⟨o, he⟩ := he
      exact .inr ⟨b, T0, o, hk _ _ hL.1.symm hz, he, m1, m2, m3⟩
    · exact .inr ⟨b, T0, o0, hk _ _ hL.1.symm hz, hk _ _ c hT0, m1, m2, m3⟩
theorem ZAcc.over {lo i : Nat} {acc : Array Value} {h h' : Heap} (a : ZAcc lo P1 P2 acc i h) (hk : ∀ c o, lo ≤ c → h.get? c = some o → h'.get? c = some o) : ZAcc lo P1 P2 acc i h' := by
  obtain ⟨Ts, e, l, pw, q⟩ := a
  exact ⟨Ts, e, l, pw, fun j T ej => let ⟨x1, x2, e2, p1, p2, t⟩ := q j T ej; ⟨x1, x2, e2, p1, p2, hk _ _ e2 t⟩⟩
theorem ZAcc.push {lo i : Nat} {T : Addr} {acc : Array Value} {h h0 : Heap} {x1 x2 : Value} (a0 : ZAcc lo P1 P2 acc i h0) (hk : ∀ c o, lo ≤ c → h0.get? c = some o → h.get? c = some o) (eT : T = h0.objs.size) (hT : lo ≤ T) (p1 : P1 i x1) (p2 : P2 i x2) (t : IsTupOf2 h T x1 x2) : ZAcc lo P1 P2 (acc.push (.ref T)) (i + 1) h := by
  obtain ⟨Ts, e, l, pw, q⟩ := a0
  refine ⟨Ts ++ [T], by rw [Array.toList_push, e, List.map_append]; rfl, by rw [List.length_append, l]; rfl, ?_, fun j T' ej => ?_⟩
  · rw [List.pairwise_append]
    refine ⟨pw, List.pairwise_singleton _ _, fun c hc d hd => ?_⟩
    rw [List.mem_singleton.mp hd, eT]
    obtain ⟨j, hj⟩ := List.mem_iff_getElem?.mp hc
    obtain ⟨_, _, _, _, _, t'⟩ := q j c hj
    exact Heap.lt_size t'
  · by_cases c : j < Ts.length
    · rw [List.getElem?_append_left c] at ej
      obtain ⟨y1, y2, e2, r1, r2, t'⟩ := q j T' ej
      exact ⟨y1, y2, e2, r1, r2, hk _ _ e2 t'⟩
    · rw [List.getElem?_append_right (by omega)] at ej
      have ej0 : j - Ts.length = 0 := by
        have := (List.getElem?_eq_some_iff.mp ej).1
        rw [List.length_singleton] at this
        omega
      rw [ej0] at ej
      cases ej
      have : j = i := by omega
      subst this
      exact ⟨x1, x2, hT, p1, p2, t⟩
theorem ext_zip {L : Addr} {lo : Nat} (S : ZipSep2 z TI TO i1 i2 fp1 fp2) (D1 : Draws prog w A.in1.in1 i1 fp1 n1 P1 St1) (D2 : Draws prog w A.in1.in1 i2 fp2 n2 P2 St2) (hlo : z < lo ∧ i1 < lo ∧ i2 < lo) (hn : min n1 n2 ≤ sizeLine)
    (hL : L ≠ z ∧ L ≠ TI ∧ L ≠ TO ∧ L ≠ i1 ∧ L ≠ i2 ∧ L ∉ fp1 ∧ L ∉ fp2 ∧ L < lo) (hT : TO < lo) (res : Value) (s0 : Shared) :
    ∀ (k i : Nat) (h : Heap) (tk : Nat) (acc : Array Value) (c : Nat), min n1 n2 - i = k → i ≤ min n1 n2 → lo ≤ h.objs.size → ZAt z TI TO i1 i2 St1 St2 i h → ZAcc lo P1 P2 acc i h → h.get? L = some { cls := .type "list", dict := none, data := .seq acc c, slots := #[] } →
    (∀ h' tk' acc' c', (∀ c o, c ≠ z → c ≠ TO → c ≠ i1 → c ≠ i2 → c ≠ L → h.get? c = some o → h'.get? c = some o) → ZAcc lo P1 P2 acc' (min n1 n2) h' → h'.get? L = some { cls := .type "list", dict := none, data := .seq acc' c', slots := #[] } → R (.ok (.ret res)) { s0 with heap := h', toks := tk' }) →
    codeAny (model prog w) A (.builtin "list.extend.loop" ⟨[.ref L, .ref z, res], []⟩) R { s0 with heap := h, toks := tk } := by
  intro k
  induction k with
  | zero =>
    intro i h tk acc c hk hi hsz za ac hS hR
    have hin : i = min n1 n2 := by omega
    subst hin
    refine codeAny_builtin F.entry_extend_loop ?_
    rw [Around.under_plainId F.plain_extend_loop _]
    show wpAny _ A.in1 (pyNext (.ref z) >>= _) _ _ _
    refine wpAny_bind (zip_stop (A := A.in1) (s := { s0 with heap := h, toks := tk }) S D1 D2 za (by omega) (by omega) (by omega) fun h' tk' hk' => ?_)
    refine wpAny_pure (hR h' tk' acc c (fun c o cz cT c1 c2 _ e => hk' c o cz cT c1 c2 e) (ac.over fun c o hc e => hk' c o (Nat.ne_of_gt (Nat.lt_of_lt_of_le hlo.1 hc)) (Nat.ne_of_gt (Nat.lt_of_lt_of_le hT hc)) (Nat.ne_of_gt (Nat.lt_of_lt_of_le hlo.2.1 hc)) (Nat.ne_of_gt (Nat.lt_of_lt_of_le hlo.2.2 hc)) e) (hk' _ _ hL.1 hL.2.2.1 hL.2.2.2.1 hL.2.2.2.2.1 hS))
  | succ k ih =>
    intro i h tk acc c hk hi hsz za ac hS hR
    refine codeAny_builtin F.entry_extend_loop ?_
    rw [Around.under_plainId F.plain_extend_loop _]
    show wpAny _ A.in1 (pyNext (.ref z) >>= _) _ _ _
    refine wpAny_bind (zip_step (A := A.in1) (s := { s0 with heap := h, toks := tk }) S D1 D2 za (by omega) (by omega) hlo hsz fun x1 x2 h' tk' p1 p2 za' hT' hk' => ?_)
    replace hT' : IsTupOf2 h' h.objs.size x1 x2 := hT'
    have hk2 : ∀ c o, lo ≤ c → h.get? c = some o → h'.get? c = some o := fun c o hc e => hk' c o (Nat.ne_of_gt (Nat.lt_of_lt_of_le hlo.1 hc)) (Nat.ne_of_gt (Nat.lt_of_lt_of_le hT hc)) (Nat.ne_of_gt (Nat.lt_of_lt_of_le hlo.2.1 hc)) (Nat.ne_of_gt (Nat.lt_of_lt_of_le hlo.2.2 hc)) e
    have hS' : h'.get? L = some { cls := .type "list", dict := none, data := .seq acc c, slots := #[] } := hk' _ _ hL.1 hL.2.2.1 hL.2.2.2.1 hL.2.2.2.2.1 hS
    show wpAny _ A.in1 (updateSeq L (·.push (.ref h.objs.size)) >>= _) _ _ _
    refine wpAny_bind ?_
    have oth : ∀ c o, c ≠ L → h'.get? c = some o → (h'.update L (Obj.mapSeq (·.push (.ref h.objs.size)))).get? c = some o := fun c o hc e => (Heap.get?_update_other _ _ (Ne.symm hc)).trans e
    have ac' := ac.push hk2 rfl hsz p1 p2 hT'
    refine wpAny_updateSeq (s := { s0 with heap := h', toks := tk' }) hS' rfl (wpAny_pure ⟨plainId_quiet F.plain_extend_loop _, ih (i + 1) (h'.update L (Obj.mapSeq (·.push (.ref h.objs.size)))) tk' (acc.push (.ref h.objs.size)) _ (by omega) (by omega) ?_ ?_ ?_ (Heap.get?_update_self _ hS' rfl) fun h'' tk'' acc'' c'' q1 q2 q3 => ?_⟩) ?_ ?_
    · have hne : h.objs.size ≠ L := Nat.ne_of_gt (Nat.lt_of_lt_of_le hL.2.2.2.2.2.2.2 hsz)
      exact Nat.le_of_lt (Nat.lt_of_le_of_lt hsz (Heap.lt_size (oth _ _ hne hT')))
    · exact za'.over D1 D2 ⟨hL.1, hL.2.1, hL.2.2.1, hL.2.2.2.2.2.1, hL.2.2.2.2.2.2.1⟩ oth ⟨_, Heap.get?_update_self _ hS' rfl⟩
    · exact ac'.over fun c o hc e => oth c o (Nat.ne_of_gt (Nat.lt_of_lt_of_le hL.2.2.2.2.2.2.2 hc)) e
    · exact hR h'' tk'' acc'' c'' (fun c o cz cT c1 c2 cL e => q1 c o cz cT c1 c2 cL (oth c o cL (hk' c o cz cT c1 c2 e))) q2 q3
    · rw [ac.size]; omega
    · show (acc.push (Value.ref h.objs.size)).size ≤ sizeLine + 1
      rw [Array.size_push, ac.size]; omega
end
theorem zip_no_len : typeLookup (.type "zip") "__len__" = pure none := by rw [typeLookup_type, builtinLookup_eq_fast]; kernel_rfl
theorem zip_no_hint : typeLookup (.type "zip") "__length_hint__" = pure none := by rw [typeLookup_type, builtinLookup_eq_fast]; kernel_rfl
section
variable {prog : Program} {w : World} {A : Around} {R : Result → Shared → Prop} {z TI TO i1 i2 : Addr} {fp1 fp2 : List Addr} {n1 n2 : Nat} {P1 P2 : Nat → Value → Prop} {St1 St2 : Nat → Heap → Prop}
theorem extend_zip {L : Addr} {lo c₀ : Nat} {s : Shared} {x y : Value} (S : ZipSep2 z TI TO i1 i2 fp1 fp2) (D1 : Draws prog w A.in1.in1 i1 fp1 n1 P1 St1) (D2 : Draws prog w A.in1.in1 i2 fp2 n2 P2 St2) (hlo : z < lo ∧ i1 < lo ∧ i2 < lo) (hn : min n1 n2 ≤ sizeLine)
    (hL : L ≠ z ∧ L ≠ TI ∧ L ≠ TO ∧ L ≠ i1 ∧ L ≠ i2 ∧ L ∉ fp1 ∧ L ∉ fp2 ∧ L < lo) (hT : TO < lo) (res : Value) (hsz : lo ≤ s.heap.objs.size)
    (hz : IsZip s.heap z TI TO .none) (hTI : IsTupOf2 s.heap TI (.ref i1) (.ref i2)) (hTO : IsTupOf2 s.heap TO x y) (st1 : St1 0 s.heap) (st2 : St2 0 s.heap) (hS : s.heap.get? L = some { cls := .type "list", data := .seq #[] c₀ })
    (hR : ∀ h' tk' acc' c', (∀ c o, c ≠ z → c ≠ TO → c ≠ i1 → c ≠ i2 → c ≠ L → s.heap.get? c = some o → h'.get? c = some o) → ZAcc lo P1 P2 acc' (min n1 n2) h' → h'.get? L = some { cls := .type "list", dict := none, data := .seq acc' c', slots := #[] } → R (.ok (.ret res)) { s with heap := h', toks := tk' }) :
    wpAny (model prog w) A.in1 (Builtin.List.listExtendWith (.ref L) (.ref z) res)
      (fun fin s' => match fin with | .done f => R (.ok f) s' | .again c' => c'.quiet = true ∧ codeAny (model prog w) A c' R s') (fun e s' => R (.error e) s') s := by
  have hTy : s.TypeIs (.ref z) "zip" := ⟨_, hz, rfl⟩
  unfold Builtin.List.listExtendWith
  refine wpAny_bind (wpAny_typeOf hTy ?_)
  have h1 : Builtin.List.listSameRef (.ref L) (.ref z) = false := by simp [Builtin.List.listSameRef, hL.1]
  have h2 : (Value.type "zip" == Value.type "list") = false := by decide
  have h3 : (Value.type "zip" == Value.type "tuple") = false := by decide
  simp only [h1, h2, h3, Bool.or_false, Bool.false_eq_true, if_false]
  refine wpAny_bind (wpAny_pyIter_zip hz ?_)
  refine wpAny_bind (wpAny_holding ?_)
  unfold Builtin.List.listLengthHint
  refine wpAny_bind (wpAny_specialOf hTy zip_no_len ?_)
  show wpAny _ A.in1 (specialOf (Value.ref z) (Str.ofString "__length_hint__") >>= _) _ _ _
  refine wpAny_bind (wpAny_specialOf hTy zip_no_hint ?_)
  refine wpAny_pure ?_
  show wpAny _ A.in1 (rule "list.extend.makes-room" >>= fun _ => Builtin.List.listTouch (.ref L) >>= fun _ =>
    again (.builtin "list.extend.loop" ⟨[.ref L, .ref z, res], []⟩)) _ _ _
  refine wpAny_bind (wpAny_rule ?_)
  refine wpAny_bind ?_
  show wpAny _ A.in1 (updateSeq L (·.push .none) >>= fun _ => updateSeq L (·.pop)) _ _ _
  refine wpAny_bind (wpAny_updateSeq hS rfl ?_)
  have hS₂ := Heap.get?_update_self (Obj.mapSeq (·.push Value.none)) hS rfl
  refine wpAny_updateSeq (hz := by seq_fits) hS₂ rfl ?_
  have hS₃ := Heap.get?_update_self (Obj.mapSeq (·.pop)) hS₂ rfl
  have oth : ∀ b o, b ≠ L → s.heap.get? b = some o → ((s.heap.update L (Obj.mapSeq (·.push Value.none))).update L (Obj.mapSeq (·.pop))).get? b = some o :=
    fun b o hb e => (Heap.get?_update_other _ _ (Ne.symm hb)).trans ((Heap.get?_update_other _ _ (Ne.symm hb)).trans e)
  have za : ZAt z TI TO i1 i2 St1 St2 0 s.heap := ⟨.inl ⟨rfl, hz, x, y, hTO⟩, hTI, st1, st2⟩
  refine wpAny_pure ⟨plainId_quiet F.plain_extend_loop _, ext_zip S D1 D2 hlo hn hL hT res s _ 0 ((s.heap.update L (Obj.mapSeq (·.push Value.none))).update L (Obj.mapSeq (·.pop))) s.toks _ _ rfl (Nat.zero_le _) ?_ (za.over D1 D2 ⟨hL.1, hL.2.1, hL.2.2.1, hL.2.2.2.2.2.1, hL.2.2.2.2.2.2.1⟩ oth ⟨_, hS₃⟩) ⟨[], rfl, rfl, .nil, fun j T e => by simp at e⟩ hS₃ fun h' tk' acc' c' q1 q2 q3 => hR h' tk' acc' c' (fun c o cz cT c1 c2 cL e => q1 c o cz cT c1 c2 cL (oth c o cL e)) q2 q3⟩
  rw [(Heap.SameBut.update ..).1, (Heap.SameBut.update ..).1]
  exact hsz
theorem init_zip {L : Addr} {lo : Nat} {s : Shared} {x y : Value} (S : ZipSep2 z TI TO i1 i2 fp1 fp2) (D1 : Draws prog w A.in1.in1 i1 fp1 n1 P1 St1) (D2 : Draws prog w A.in1.in1 i2 fp2 n2 P2 St2) (hlo : z < lo ∧ i1 < lo ∧ i2 < lo) (hn : min n1 n2 ≤ sizeLine)
    (hL : L ≠ z ∧ L ≠ TI ∧ L ≠ TO ∧ L ≠ i1 ∧ L ≠ i2 ∧ L ∉ fp1 ∧ L ∉ fp2 ∧ L < lo) (hT : TO < lo) (hsz : lo ≤ s.heap.objs.size)
    (hz : IsZip s.heap z TI TO .none) (hTI : IsTupOf2 s.heap TI (.ref i1) (.ref i2)) (hTO : IsTupOf2 s.heap TO x y) (st1 : St1 0 s.heap) (st2 : St2 0 s.heap) (hS : s.heap.get? L = some { cls := .type "list", data := .seq #[] })
    (hR : ∀ h' tk' acc' c', (∀ c o, c ≠ z → c ≠ TO → c ≠ i1 → c ≠ i2 → c ≠ L → s.heap.get? c = some o → h'.get? c = some o) → ZAcc lo P1 P2 acc' (min n1 n2) h' → h'.get? L = some { cls := .type "list", dict := none, data := .seq acc' c', slots := #[] } → R (.ok (.ret .none)) { s with heap := h', toks := tk' }) :
    wpAny (model prog w) A.in1 (Builtin.«list.__init__» ⟨[.ref L, .ref z], []⟩)
      (fun fin s' => match fin with | .done f => R (.ok f) s' | .again c' => c'.quiet = true ∧ codeAny (model prog w) A c' R s') (fun e s' => R (.error e) s') s := by
  show wpAny _ A.in1 (do let old ← Builtin.List.listItems (.ref L); Builtin.List.listUpdate (.ref L) (fun _ => #[]); letGo old.toList.reverse; Builtin.List.listExtendWith (.ref L) (.ref z) .none) _ _ s
  refine wpAny_bind ?_
  unfold Builtin.List.listItems
  refine wpAny_bind (wpAny_seqItems hS rfl (wpAny_pure ?_))
  show wpAny _ A.in1 (updateSeq L (fun _ => #[]) >>= fun _ => letGo (#[] : Array Value).toList.reverse >>= fun _ => Builtin.List.listExtendWith (.ref L) (.ref z) .none) _ _ s
  refine wpAny_bind (wpAny_updateSeq hS rfl ?_)
  have hS₂ := Heap.get?_update_self (Obj.mapSeq (fun _ => (#[] : Array Value))) hS rfl
  have oth : ∀ b o, b ≠ L → s.heap.get? b = some o → (s.heap.update L (Obj.mapSeq (fun _ => (#[] : Array Value)))).get? b = some o :=
    fun b o hb e => (Heap.get?_update_other _ _ (Ne.symm hb)).trans e
  refine wpAny_bind (wpAny_letGo ?_)
  refine extend_zip (s := { s with heap := s.heap.update L (Obj.mapSeq (fun _ => (#[] : Array Value))) }) S D1 D2 hlo hn hL hT .none ?_ (oth _ _ hL.1.symm hz) (oth _ _ hL.2.1.symm hTI) (oth _ _ hL.2.2.1.symm hTO) (D1.frame _ _ _ st1 fun b hb o e => oth b o (fun q => hL.2.2.2.2.2.1 (q ▸ hb)) e) (D2.frame _ _ _ st2 fun b hb o e => oth b o (fun q => hL.2.2.2.2.2.2.1 (q ▸ hb)) e) hS₂ fun h' tk' acc' c' q1 q2 q3 => ?_
  · show lo ≤ (s.heap.update L _).objs.size
    rw [Heap.size_update]; exact hsz
  · exact hR h' tk' acc' c' (fun c o cz cT c1 c2 cL e => q1 c o cz cT c1 c2 cL (oth c o cL e)) q2 q3
end
section
variable {prog : Program} {w : World} {A : Around} {E : Value → Shared → Prop} {z TI TO i1 i2 : Addr} {fp1 fp2 : List Addr} {n1 n2 : Nat} {P1 P2 : Nat → Value → Prop} {St1 St2 : Nat → Heap → Prop}
theorem call_list_zip {s : Shared} {x y : Value} {Q : Value → Shared → Prop} (S : ZipSep2 z TI TO i1 i2 fp1 fp2) (D1 : Draws prog w A.in1.in1.in1 i1 fp1 n1 P1 St1) (D2 : Draws prog w A.in1.in1.in1 i2 fp2 n2 P2 St2) (hn : min n1 n2 ≤ sizeLine)
    (hlo : z < s.heap.objs.size ∧ i1 < s.heap.objs.size ∧ i2 < s.heap.objs.size ∧ TI < s.heap.objs.size ∧ TO < s.heap.objs.size) (hf1 : ∀ b ∈ fp1, b < s.heap.objs.size) (hf2 : ∀ b ∈ fp2, b < s.heap.objs.size)
    (hz : IsZip s.heap z TI TO .none) (hTI : IsTupOf2 s.heap TI (.ref i1) (.ref i2)) (hTO : IsTupOf2 s.heap TO x y) (st1 : St1 0 s.heap) (st2 : St2 0 s.heap)
    (hQ : ∀ h' tk' acc' c', (∀ c o, c ≠ z → c ≠ TO → c ≠ i1 → c ≠ i2 → s.heap.get? c = some o → h'.get? c = some o) → ZAcc (s.heap.objs.size + 1) P1 P2 acc' (min n1 n2) h' → h'.get? s.heap.objs.size = some { cls := .type "list", dict := none, data := .seq acc' c', slots := #[] } → Q (.ref s.heap.objs.size) { s with heap := h', toks := tk' }) :
    wpAny (model prog w) A (call (.type "list") [.ref z]) Q E s := by
  refine callType_codes (Q₁ := fun obj s₁ => obj = .ref s.heap.objs.size ∧ s₁ = { s with heap := s.heap.push { cls := .type "list", data := .seq #[] } }) F.called_list (F.typeCall_list_1 _) F.entry_list_init
    (code_list_new _ ⟨rfl, rfl⟩) fun obj s₁ h₁ => ?_
  obtain ⟨rfl, rfl⟩ := h₁
  have hS : (s.heap.push { cls := .type "list", data := .seq #[] }).get? s.heap.objs.size = some { cls := .type "list", data := .seq #[] } := Heap.get?_push_size _ rfl
  have up : ∀ b o, s.heap.get? b = some o → (s.heap.push { cls := .type "list", data := .seq #[] }).get? b = some o := fun b o e => Heap.get?_push_of_some _ e
  refine ⟨⟨_, hS, rfl⟩, F.args_list_init_2 _ _, init_zip (lo := s.heap.objs.size + 1) (s := { s with heap := s.heap.push { cls := .type "list", data := .seq #[] } }) S D1 D2 ⟨Nat.lt_succ_of_lt hlo.1, Nat.lt_succ_of_lt hlo.2.1, Nat.lt_succ_of_lt hlo.2.2.1⟩ hn ⟨Nat.ne_of_gt hlo.1, Nat.ne_of_gt hlo.2.2.2.1, Nat.ne_of_gt hlo.2.2.2.2, Nat.ne_of_gt hlo.2.1, Nat.ne_of_gt hlo.2.2.1, fun m => Nat.lt_irrefl _ (hf1 _ m), fun m => Nat.lt_irrefl _ (hf2 _ m), Nat.lt_succ_self _⟩ (Nat.lt_succ_of_lt hlo.2.2.2.2) ?_ (up _ _ hz) (up _ _ hTI) (up _ _ hTO) (D1.frame _ _ _ st1 fun b hb o e => up b o e) (D2.frame _ _ _ st2 fun b hb o e => up b o e) hS fun h' tk' acc' c' q1 q2 q3 => ?_⟩
  · show s.heap.objs.size + 1 ≤ (s.heap.push _).objs.size
    rw [Heap.size_push]; exact Nat.le_refl _
  · exact ⟨rfl, hQ h' tk' acc' c' (fun c o cz cT c1 c2 e => q1 c o cz cT c1 c2 (Nat.ne_of_lt (Heap.lt_size e)) (up c o e)) q2 q3⟩
end
theorem vals_back : ∀ {xs : List V} {us : List Value} {i : Nat} {u : Value}, Vals xs us → us[i]? = some u → ∃ x, xs[i]? = some x ∧ RelV x u
  | _, _, _, _, .nil, e => by simp at e
  | _, _, 0, _, .cons r _, e => by simp at e; subst e; exact ⟨_, rfl, r⟩
  | _, _, i + 1, _, .cons _ t, e => by
    obtain ⟨x, h1, h2⟩ := vals_back (i := i) t (by simpa using e)
    exact ⟨x, by simpa using h1, h2⟩
theorem paired_of {α β : Type} {F : α → β → Prop} : ∀ {l1 : List α} {l2 : List β}, l1.length = l2.length → (∀ (j : Nat) a b, l1[j]? = some a → l2[j]? = some b → F a b) → Paired F l1 l2
  | [], [], _, _ => .nil
  | [], _ :: _, l, _ => by simp at l
  | _ :: _, [], l, _ => by simp at l
  | a :: l1, b :: l2, l, h => .cons (h 0 a b rfl rfl) (paired_of (by simpa using l) fun j x y e1 e2 => h (j + 1) x y (by simpa using e1) (by simpa using e2))
theorem vals_refs : ∀ Ts : List Addr, Vals (Ts.map V.ref) (Ts.map Value.ref)
  | [] => .nil
  | T :: Ts => .cons rfl (vals_refs Ts)
section
variable {X : Cx} {e e2 : Expr} {ta : TA} {p pos p2 q2 : Pos}
/-- list(zip(xs, t)): new pairs in a new list -/
def tLZ (K : PySem.W.Frag) (ta : TA) : TE := fun σ H Q => ta σ H fun vs H1 => ∃ a b xs ys, vs = [.ref a, .ref b] ∧ SqL K H1 a xs ∧ SqT K H1 b ys ∧
  ∀ (H2 : Hp) (p : Addr) (Ts : List Addr), (∀ b o, H1 b = some o → H2 b = some o) → H1 p = none → Paired (fun (z : V × V) T => H1 T = none ∧ T ≠ p ∧ H2 T = some (.tup [z.1, z.2])) (xs.zip ys) Ts → H2 p = some (.lst (Ts.map V.ref)) → Q (.ref p) H2
theorem pe_listZip (hc : X.calm = true) (hg : Gl X "list") (hm : X.mg "list" = none) (hg2 : Gl X "zip") (hm2 : X.mg "zip" = none) (ha : PA X [e, e2] ta)
    (na : starEach [.Call (.Name "zip" p2) [e, e2] [] q2] X.env = (false, eval (.Call (.Name "zip" p2) [e, e2] [] q2) X.env) :: starEach [] X.env := by rfl)
    (hs : starEach [e, e2] X.env = (false, eval e X.env) :: starEach [e2] X.env := by rfl) (hpl : (backTo q2 (starEach [e2] X.env)).any (·.1) = false := by rfl) :
    PE X (.Call (.Name "list" p) [.Call (.Name "zip" p2) [e, e2] [] q2] [] pos) (tLZ X.K ta) := by
  refine ⟨fun pins s σ H Q I h => ?_⟩
  refine Call_ (ld_blt I hg hm boot_list (PyProof.Rows.callWith_type1 (args_cons (Call_ (ld_blt I hg2 hm2 PyProof.Rows.boot_zip (PyProof.Rows.callWith_type1 (thn (ha.run q2 pins s σ H _ I h) fun us s1 ⟨vs, H1, I1, r1, q1⟩ => ?_) hs hpl))) na) na))
  obtain ⟨a, b, xs, ys, ex, hqx, hqy, q⟩ := q1
  subst ex
  cases r1 with
  | cons r rr =>
    cases rr with
    | cons r' rr =>
      cases rr
      cases r
      cases r'
      obtain ⟨its, rv, pl, hz1⟩ := I1.list hqx
      obtain ⟨its2, rv2, pt, hz2⟩ := I1.tuple hqy
      obtain ⟨o2, ho2, _⟩ := id pt
      have al := pl.lt
      have bl := Heap.lt_size ho2
      refine zip_begins2 (begins_list a its.toArray) (begins_tuple b its2.toArray) pl.isList pt fun h' hz hTI hTO g1 g2 hsz hk => args_nil ?_
      have D := PySem.W.ktu_apart s1.heap.objs.size a b al bl
      have lk : ∀ k : Nat, k < 5 → s1.heap.objs.size + k < s1.heap.objs.size + 5 := fun k hk => Nat.add_lt_add_left hk _
      refine call_list_zip (s := { s1 with heap := h' }) (sep_of D) (Draws.list (prog := X.prog) (w := X.w) (A := X.A.in1.in1.in1) (I1.ok.hd hc) _ a D.l1i1 its.toArray) (Draws.tuple (prog := X.prog) (w := X.w) (A := X.A.in1.in1.in1) (I1.ok.hd hc) _ b D.l2i2 its2.toArray) ?_ ?_ ?_ ?_ hz hTI hTO ⟨⟨_, g1, rfl, rfl⟩, pl.isList.at fun o e => hk _ o e⟩ ⟨⟨_, g2, rfl, rfl⟩, (show s1.heap.IsTuple b its2.toArray from pt).at fun o e => hk _ o e⟩ fun h2 tk acc c q1 q2 q3 => ?_
      · refine Nat.le_trans (Nat.min_le_left _ _) ?_
        rw [List.size_toArray, ← rv.length]; exact hz1
      · rw [hsz]; exact ⟨lk 4 (by decide), lk 0 (by decide), lk 1 (by decide), lk 2 (by decide), lk 3 (by decide)⟩
      · intro c hcm
        rw [hsz]
        rcases List.mem_cons.mp hcm with q | q
        · rw [q]; exact lk 0 (by decide)
        · rw [List.mem_singleton.mp q]; exact Nat.lt_add_right 5 al
      · intro c hcm
        rw [hsz]
        rcases List.mem_cons.mp hcm with q | q
        · rw [q]; exact lk 1 (by decide)
        · rw [List.mem_singleton.mp q]; exact Nat.lt_add_right 5 bl
      · have hkk : ∀ c o, s1.heap.get? c = some o → h2.get? c = some o := fun c o e => by
          have hl := Heap.lt_size e
          exact q1 c o (Nat.ne_of_lt (Nat.lt_add_right 4 hl)) (Nat.ne_of_lt (Nat.lt_add_right 3 hl)) (Nat.ne_of_lt hl) (Nat.ne_of_lt (Nat.lt_add_right 1 hl)) (hk c o e)
        obtain ⟨Ts, eT, lT, pw, qT⟩ := q2
        rw [hsz] at q3 qT ⊢
        have I2 : Inv X pins σ H1 { s1 with heap := h2, toks := tk } := I1.kept hkk
        have zat : ∀ (j : Nat) (T : Addr), Ts[j]? = some T → ∃ x y, xs[j]? = some x ∧ ys[j]? = some y ∧ ∀ H2 : Hp, ObjOk X.prog X.w H2 h2 T (.tup [x, y]) := fun j T ej => by
          obtain ⟨u1, u2, _, p1, p2, t⟩ := qT j T ej
          have p1 : its.toArray[j]? = some u1 := p1
          have p2 : its2.toArray[j]? = some u2 := p2
          obtain ⟨x, ex, rx⟩ := vals_back rv (by simpa using p1)
          obtain ⟨y, ey, ry⟩ := vals_back rv2 (by simpa using p2)
          exact ⟨x, y, ex, ey, fun H2 => ⟨by show 2 ≤ sizeLine; rw [sizeLine_eq]; decide, [u1, u2], .cons rx (.cons ry .nil), ⟨_, t, rfl, _, rfl⟩⟩⟩
        have nd : Ts.Nodup := pw.imp fun h => Nat.ne_of_lt h
        have hlo : ∀ T ∈ Ts, s1.heap.objs.size + 5 + 1 ≤ T := fun T hT => by
          obtain ⟨j, ej⟩ := List.mem_iff_getElem?.mp hT
          obtain ⟨_, _, l, _⟩ := qT j T ej
          exact l
        have hlo1 : ∀ T ∈ Ts, s1.heap.objs.size ≤ T := fun T hT => Nat.le_trans (Nat.le_add_right _ 6) (hlo T hT)
        have hp1 : H1 (s1.heap.objs.size + 5) = none := I1.hok.fresh (Nat.le_add_right _ 5)
        have hTn : ∀ T ∈ Ts, H1 T = none := fun T hT => I1.hok.fresh (hlo1 T hT)
        have hTp : ∀ T ∈ Ts, T ≠ s1.heap.objs.size + 5 := fun T hT => Nat.ne_of_gt (hlo T hT)
        have okL : ∀ H2 : Hp, ObjOk X.prog X.w H2 h2 (s1.heap.objs.size + 5) (.lst (Ts.map V.ref)) := fun H2 => by
          refine ⟨?_, acc.toList, c, by rw [eT]; exact vals_refs Ts, by rw [Array.toArray_toList]; exact q3⟩
          rw [List.length_map, lT]
          refine Nat.le_trans (Nat.min_le_left _ _) ?_
          rw [List.size_toArray, ← rv.length]; exact hz1
        have I3 : Inv X pins σ (upd H1 (s1.heap.objs.size + 5) (.lst (Ts.map V.ref))) { s1 with heap := h2, toks := tk } := I2.take (h' := h2) (t' := tk) (fun b ob _ e => e) (I1.fpOk (Nat.le_add_right _ 5) hp1) (okL _)
        obtain ⟨H3, I4, ext, tt⟩ := L2.DX.takeT (P := fun T vs => ∃ j x y, Ts[j]? = some T ∧ xs[j]? = some x ∧ ys[j]? = some y ∧ vs = [x, y]) I1 Ts _ I3 nd fun T hT => by
          obtain ⟨j, ej⟩ := List.mem_iff_getElem?.mp hT
          obtain ⟨x, y, ex, ey, ok⟩ := zat j T ej
          exact ⟨hlo1 T hT, by rw [upd_ne (hTp T hT)]; exact hTn T hT, [x, y], ⟨j, x, y, ej, ex, ey, rfl⟩, ok⟩
        refine ⟨.ref (s1.heap.objs.size + 5), H3, I4, rfl, q H3 _ Ts (fun b o e => ext b o (by rw [upd_ne (ne_of_none e hp1)]; exact e)) hp1 ?_ (ext _ _ upd_same)⟩
        refine paired_of ?_ fun j z T ez ej => ?_
        · rw [List.length_zip, lT, List.size_toArray, List.size_toArray, rv.length, rv2.length]
        · have hT := List.mem_of_getElem? ej
          refine ⟨hTn T hT, hTp T hT, ?_⟩
          obtain ⟨vs, ⟨j', x, y, ej', ex, ey, rfl⟩, e3⟩ := tt T hT
          obtain ⟨l1, g1⟩ := List.getElem?_eq_some_iff.mp ej
          obtain ⟨l2, g2⟩ := List.getElem?_eq_some_iff.mp ej'
          have := (List.getElem_inj nd).mp (g1.trans g2.symm)
          subst this
          rw [List.getElem?_zip_eq_some] at ez
          rw [ex] at ez
          rw [ey] at ez
          rw [e3, ← Option.some.inj ez.1, ← Option.some.inj ez.2]
end
end Tw
noncomputable section
namespace Tw
open PySem PySem.Spec PyProof.Rows L2
/-! ### list(zip(xs, t)) and dict of such pairs, in the data layer -/
def lzOf : List D → Option (List D)
  | [x, y] => (D.seqK x).bind fun p => (D.seqK y).bind fun q => match p.1, q.1 with
    | false, true => some (zipD p.2 q.2)
    | _, _ => none
  | _ => none
def D.pr2 : D → Option (D × D)
  | .pr [k, v] => some (k, v)
  | _ => none
def D.tupI : D → Option (List Int)
  | .tup kd => D.ints kd
  | _ => none
def kvsT : List D → Option (List (List Int) × List D)
  | [] => some ([], [])
  | d :: ds => (D.pr2 d).bind fun z => (D.tupI z.1).bind fun k => if D.ok z.2 then (kvsT ds).map fun q => (k :: q.1, z.2 :: q.2) else none
def gDictT : List D → Option D
  | [.lst _ items] => (kvsT items).bind fun q => if q.1.Nodup then some (.dtt q.1 q.2) else none
  | _ => none
def fLZip (fa fb : Ev) : Ev := fun env => (evs (vals [fa, fb]) env).bind fun ds env1 => match lzOf ds with
  | some q => .ok (.lst true q) env1
  | none => .stuck
section
variable {X : Cx} {cl : Nat → Addr} {W : WX} {a b c o e : Expr} {es : List Expr} {pos apos p pf p2 q2 : Pos} {x : Str} {fa fb fc : Ev} {io : List Nat} {i : Nat} {K : PySem.W.Frag} {M : Addr → Prop} {H H2 : Hp}
theorem pr_dats : ∀ {xs ys : List D} {us ws : List V} {Ts : List Addr}, Dats K cl M H xs us [] → Dats K cl M H ys ws [] → Paired (fun (z : V × V) T => ¬ M T ∧ H T = some (.tup [z.1, z.2])) (us.zip ws) Ts → Dats K cl M H (zipD xs ys) (Ts.map V.ref) []
  | [], _, us, ws, Ts, h1, h2, pr => by
    rw [h1.1] at pr
    cases pr
    exact ⟨rfl, rfl⟩
  | _ :: _, [], us, ws, Ts, h1, h2, pr => by
    rw [h2.1, List.zip_nil_right] at pr
    cases pr
    exact ⟨rfl, rfl⟩
  | x :: xs, y :: ys, _, _, Ts, h1, h2, pr => by
    obtain ⟨u, us, f1, f2, rfl, e1, a1, a2⟩ := h1
    obtain ⟨w, ws, g1, g2, rfl, e2, b1, b2⟩ := h2
    obtain ⟨rfl, rfl⟩ := List.append_eq_nil_iff.mp e1.symm
    obtain ⟨rfl, rfl⟩ := List.append_eq_nil_iff.mp e2.symm
    rw [List.zip_cons_cons] at pr
    cases pr with
    | cons h t =>
      exact ⟨_, _, [], [], rfl, rfl, ⟨_, [u, w], rfl, ⟨h.2, h.1⟩, ⟨u, [w], [], [], rfl, rfl, a1, w, [], [], [], rfl, rfl, b1, rfl, rfl⟩⟩, pr_dats a2 b2 t⟩
theorem j_listZip (hc : X.calm = true) (hm : X.mg "list" = none) (hm2 : X.mg "zip" = none) (ha : PA X [a, b] (tOs X.K cl W (vals [fa, fb]))) (hg : Gl X "list" := by rfl) (hg2 : Gl X "zip" := by rfl)
    (na : starEach [.Call (.Name "zip" p2) [a, b] [] q2] X.env = (false, eval (.Call (.Name "zip" p2) [a, b] [] q2) X.env) :: starEach [] X.env := by rfl)
    (hs : starEach [a, b] X.env = (false, eval a X.env) :: starEach [b] X.env := by rfl) (hpl : (backTo q2 (starEach [b] X.env)).any (·.1) = false := by rfl) :
    PE X (.Call (.Name "list" p) [.Call (.Name "zip" p2) [a, b] [] q2] [] pos) (tE X.K cl W (fLZip fa fb)) := PE.imp (pe_listZip hc hg hm hg2 hm2 ha na hs hpl) fun σ H Q ⟨τ, κ, env, r, l, q⟩ => by
  refine tA_os (os := vals [fa, fb]) ⟨τ, κ, env, r, l, ?_⟩
  unfold fLZip at q
  cases e1 : evs (vals [fa, fb]) env with
  | stuck => rw [e1] at q; exact q
  | exc _ _ _ _ => rw [e1] at q; exact q
  | ok ds env1 =>
    rw [e1, Rs.bind_ok] at q
    intro us vs H1 l2 r2 fu
    obtain ⟨rfl, l3⟩ := full_vals fu
    cases e2 : lzOf ds with
    | none => rw [e2] at q; exact q.elim
    | some items =>
      rw [e2] at q
      match ds, vs, e2, l2, r2 with
      | [x, y], [u, w], e2, l2, r2 =>
        simp only [lzOf, Option.bind_eq_some_iff] at e2
        obtain ⟨⟨k, xs⟩, ex, ⟨k2, ys⟩, ey, e2⟩ := e2
        obtain ⟨f, g, n, hh, hr⟩ := r2.split rfl
        obtain ⟨f1, f2, _, h1, h2⟩ := dats2 hh
        obtain ⟨A, us, ea, la, ta, d1⟩ := dat_seqK h1 ex
        obtain ⟨B, ws, eb, lb, tb, d2⟩ := dat_seqK h2 ey
        subst ea; subst eb
        cases k with
        | true => cases e2
        | false =>
          cases k2 with
          | false => cases e2
          | true =>
            cases e2
            refine ⟨A, B, us, ws, rfl, .of (la rfl), tb rfl, fun H2 p Ts ext hp pr h2p => q (.ref p) _ ?_⟩
            have nF : ∀ a ∈ f ++ g, H1 a ≠ none := fun a z => by
              obtain ⟨_, o, e⟩ := slots_in (slots_app (dats_slots hh) hr) a z
              rw [e]; exact fun q => nomatch q
            have np : p ∉ f ++ g := fun z => nF p z hp
            have pr' : Paired (fun (z : V × V) T => ¬ T ∈ p :: (f ++ g) ∧ H2 T = some (.tup [z.1, z.2])) (us.zip ws) Ts := Paired.mapP pr fun z T ⟨z1, z2, z3⟩ => ⟨fun m => (List.mem_cons.mp m).elim z2 fun m => nF T m z1, z3⟩
            have d1' : Dats X.K cl (· ∈ p :: (f ++ g)) H2 xs us [] := dats_tr d1 (fun a z => (List.mem_cons.mp z).elim (fun e => .inr (by rw [e]; exact hp)) .inl) (fun a z => nomatch z) fun a o e _ => ext a o e
            have d2' : Dats X.K cl (· ∈ p :: (f ++ g)) H2 ys ws [] := dats_tr d2 (fun a z => (List.mem_cons.mp z).elim (fun e => .inr (by rw [e]; exact hp)) .inl) (fun a z => nomatch z) fun a o e _ => ext a o e
            have R1 : Rel X.K cl H2 (some (.lst true (zipD xs ys)) :: (List.map some [x, y] ++ (κ ++ env1))) (some (.ref p) :: (List.map some [.ref A, .ref B] ++ (τ ++ σ))) := by
              refine ⟨p :: (f ++ g), List.nodup_cons.mpr ⟨np, n⟩, .ref p, _, [p], f ++ g, rfl, rfl, ⟨p, Ts.map V.ref, [], rfl, h2p, pr_dats d1' d2' pr', .inl ⟨rfl, List.mem_cons_self, rfl⟩⟩, ?_⟩
              exact slots_tr (slots_app (dats_slots hh) hr) (fun a z => (List.mem_cons.mp z).elim (fun e => .inr (by rw [e]; exact hp)) .inl) (fun a z => List.mem_cons_of_mem _ z) fun a o e _ => ext a o e
            have R2 := Rel.swap3 (A := [some (.lst true (zipD xs ys))]) (X := [some (.ref p)]) (B := List.map some [x, y]) (Y := List.map some [.ref A, .ref B]) R1 rfl rfl
            exact R2.pop.pop
def SameZ (z : List Int × Addr × V) (x : List Int × Addr × Value) : Prop := z.1 = x.1 ∧ z.2.1 = x.2.1 ∧ RelV z.2.2 x.2.2
def rDictT (K : PySem.W.Frag) : List V → Hp → VK → Prop := fun xs H Q => ∃ (a : Addr) (ps : List Addr) (kbv : List (List Int × Addr × V)), xs = [.ref a] ∧ SqL K H a (ps.map V.ref) ∧
  Paired (fun p (z : List Int × Addr × V) => SqT K H p [.ref z.2.1, z.2.2] ∧ SqT K H z.2.1 (z.1.map V.int)) ps kbv ∧ (kbv.map (·.1)).Nodup ∧ ∀ p xs', H p = none → Paired SameZ kbv xs' → Q (.ref p) (upd H p (DtO p xs'))
theorem pairs_raw {pins : List (Addr × Obj)} {σ : S} {s : Shared} (I : Inv X pins σ H s) : ∀ {ps : List Addr} {kbv : List (List Int × Addr × V)}, Paired (fun p (z : List Int × Addr × V) => SqT X.K H p [.ref z.2.1, z.2.2] ∧ SqT X.K H z.2.1 (z.1.map V.int)) ps kbv →
    ∃ xs' : List (List Int × Addr × Value), Paired SameZ kbv xs' ∧ Paired (fun p (x : List Int × Addr × Value) => IsTup s.heap p #[.ref x.2.1, x.2.2]) ps xs' ∧ ∀ x ∈ xs', SqT X.K H x.2.1 (x.1.map V.int)
  | _, _, .nil => ⟨[], .nil, .nil, fun x h => nomatch h⟩
  | _, _, .cons (a := p) (b := z) h t => by
    obtain ⟨xs', r, pr, hk⟩ := pairs_raw I t
    obtain ⟨its, rv, ht, _⟩ := I.tuple h.1
    obtain ⟨u, y, ei, ru, ry⟩ := vals2 rv
    subst ei
    obtain rfl : u = Value.ref z.2.1 := ru
    exact ⟨(z.1, z.2.1, y) :: xs', .cons ⟨rfl, rfl, ry⟩ r, .cons ht pr, fun x hx => (List.mem_cons.mp hx).elim (fun e => by rw [e]; exact h.2) (hk x)⟩
theorem paired_get {α β : Type} {F : α → β → Prop} : ∀ {l1 : List α} {l2 : List β} {j : Nat} {b : β}, Paired F l1 l2 → l2[j]? = some b → ∃ a, l1[j]? = some a ∧ F a b
  | _, _, _, _, .nil, e => by simp at e
  | _, _, 0, _, .cons h _, e => by simp at e; subst e; exact ⟨_, rfl, h⟩
  | _, _, j + 1, _, .cons _ t, e => by
    obtain ⟨a, h1, h2⟩ := paired_get (j := j) t (by simpa using e)
    exact ⟨a, by simpa using h1, h2⟩
theorem keysZ : ∀ {kbs : List (List Int × Addr × V)} {xs : List (List Int × Addr × Value)}, Paired SameZ kbs xs → xs.map (·.1) = kbs.map (·.1)
  | _, _, .nil => rfl
  | _, _, .cons h t => by rw [List.map_cons, List.map_cons, keysZ t, h.1]
theorem call_dictT (hcalm : X.calm = true) (hu : X.A.units + 64 < cLine) : CallR X (.type "dict") (rDictT X.K) := by
  intro pins s σ H xs us Q I r h
  obtain ⟨a, ps, kbv, rfl, hq, hp, nd, q⟩ := h
  obtain ⟨u, rfl, rx⟩ := vals1 r
  cases rx
  obtain ⟨its, rv, pl, hz⟩ := I.list hq
  have ei := refs_at rv
  subst ei
  rw [List.length_map] at hz
  obtain ⟨xs', sm, pr, hk⟩ := pairs_raw I hp
  have ke := keysZ sm
  have ln : ps.length = xs'.length := pr.length
  obtain ⟨o, n, ho, hc, hd, hdat⟩ := pl
  have nd' : ((xs'.map upT).map (·.1)).Nodup := nodup_up (by rw [ke]; exact nd)
  refine PySem.call_dict_pairsH (knd := tupleKind (mixKind X.prog X.w)) (ps := xs'.map upT) (PairArg.list (prog := X.prog) (w := X.w) a (ps.map Value.ref).toArray (fun j => ps.getD j 0) (xs'.map fun x => (Value.ref x.2.1, x.2.2))) (I.ok.hd hcalm) (show X.A.units + 1 + 1 < cLine by omega) ⟨⟨o, n, ho, hc, hd, hdat⟩, ?_, ?_⟩ ?_ ?_ ?_ fun h' tk dd hk' => ?_
  · rw [List.size_toArray, List.length_map, List.length_map, ln]
  · intro j k v e
    rw [List.getElem?_map] at e
    obtain ⟨x, ex, e⟩ := Option.map_eq_some_iff.mp e
    cases e
    obtain ⟨p, ep, ht⟩ := paired_get pr ex
    refine ⟨?_, .inl ?_⟩
    · have e1 : ps.getD j 0 = p := by rw [List.getD_eq_getElem?_getD, ep]; rfl
      show (List.map Value.ref ps).toArray[j]? = some (Value.ref (ps.getD j 0))
      rw [e1]
      simp [ep]
    · have e1 : ps.getD j 0 = p := by rw [List.getD_eq_getElem?_getD, ep]; rfl
      show s.heap.IsTuple (ps.getD j 0) _
      rw [e1]
      exact ht
  · refine ⟨by rw [List.length_map, List.length_map], fun j k v e => ?_⟩
    have e : (xs'.map fun x => (Value.ref x.2.1, x.2.2))[j]? = some (k, v) := e
    rw [List.getElem?_map] at e
    obtain ⟨x, ex, e⟩ := Option.map_eq_some_iff.mp e
    cases e
    exact ⟨x.1.map Sum.inl, x.2.1, by rw [List.getElem?_map, ex]; rfl, rfl⟩
  · intro h' hk2 y hy
    obtain ⟨x, hx, rfl⟩ := List.mem_map.mp hy
    obtain ⟨o1, it1, m1, g1, g2, g3, g4⟩ := key_sq I (hk x hx)
    exact ⟨o1, it1, m1, hk2 _ _ (Nat.ne_of_lt (Heap.lt_size g1)) (fun z => nomatch z) g1, g2, g3, g4⟩
  · rw [List.length_map, ← ln]; exact hz
  · rw [storedAllH_nil_of_nodup _ nd'] at dd
    obtain ⟨o', es', ep', g1, g2, g3, g4, _, g5⟩ := dd
    have hm : (s.heap.objs.size == sysModules) = false := beq_eq_false_iff_ne.mpr (Nat.ne_of_gt I.big)
    refine ⟨.ref s.heap.objs.size, upd H s.heap.objs.size (DtO s.heap.objs.size xs'), I.laid (t' := tk) (fun b o e => hk' b o (fun z => nomatch z) e) (Nat.le_refl _) ?_, rfl, q _ xs' (I.hok.fresh (Nat.le_refl _)) sm⟩
    refine (show ObjOk X.prog X.w _ h' _ (.ext (RawT s.heap.objs.size xs')) from ⟨⟨hm, o', es', ep', g1, g2, g3, ?_, by rw [ke]; exact nd⟩, ⟨o', g1⟩, fun h1 h2 ⟨hd, o, es, ep, a1, a2⟩ k => ⟨hd, o, es, ep, k o a1, a2⟩⟩)
    rw [g4, List.map_map]
    exact List.map_congr_left fun x _ => ent_up _ _ x
theorem pr2_eq {d : D} {z : D × D} (h : D.pr2 d = some z) : d = .pr [z.1, z.2] := by
  unfold D.pr2 at h
  split at h
  · cases h; rfl
  · cases h
theorem tupI_eq {d : D} {k : List Int} (h : D.tupI d = some k) : ∃ kd, d = .tup kd ∧ D.ints kd = some k := by
  unfold D.tupI at h
  split at h
  · exact ⟨_, rfl, h⟩
  · cases h
theorem kv_dats : ∀ {items : List D} {vs : List V} {g : List Addr} {q : List (List Int) × List D}, Dats K cl M H items vs g → kvsT items = some q →
    ∃ (ps : List Addr) (kbv : List (List Int × Addr × V)), vs = ps.map V.ref ∧ Paired (fun p (z : List Int × Addr × V) => SqT K H p [.ref z.2.1, z.2.2] ∧ SqT K H z.2.1 (z.1.map V.int)) ps kbv ∧ kbv.map (·.1) = q.1 ∧ Dats K cl M H q.2 (kbv.map (·.2.2)) [] ∧ ∀ z ∈ kbv, FzT K M H z.2.1 (z.1.map V.int)
  | [], vs, g, q, h, e => by
    cases e
    exact ⟨[], [], h.1, .nil, rfl, ⟨rfl, rfl⟩, fun z hz => nomatch hz⟩
  | d :: ds, _, _, q, h, e => by
    obtain ⟨v, vs', f1, f2, rfl, _, h1, h2⟩ := h
    simp only [kvsT, Option.bind_eq_some_iff] at e
    obtain ⟨⟨kd0, vd⟩, e1, k, e2, e⟩ := e
    have e1 := pr2_eq e1
    subst e1
    obtain ⟨kd, rfl, e3⟩ := tupI_eq e2
    split at e
    · rename_i ok
      obtain ⟨q', e4, rfl⟩ := Option.map_eq_some_iff.mp e
      obtain ⟨ps, kbv, rfl, pr, k1, k2, k3⟩ := kv_dats h2 e4
      obtain ⟨a, ws, rfl, ⟨t, _⟩, hd⟩ := h1
      obtain ⟨w1, wr, g1, g2, rfl, _, hk, hr⟩ := hd
      obtain ⟨w2, wr2, g3, g4, rfl, _, hv, hr2⟩ := hr
      obtain ⟨rfl, _⟩ := hr2
      obtain ⟨b, zs, rfl, t2, d2⟩ := hk
      have ez := ints_V d2 e3
      subst ez
      have ev := dat_ok hv ok
      subst ev
      refine ⟨a :: ps, (k, b, w2) :: kbv, rfl, .cons ⟨.inl (.inl t), t2.sq⟩ pr, by rw [List.map_cons, k1], ⟨w2, _, [], [], rfl, rfl, hv, k2⟩, fun z hz => ?_⟩
      rcases List.mem_cons.mp hz with rfl | hz
      · exact t2
      · exact k3 z hz
    · cases e
theorem fz_upd {K : PySem.W.Frag} {M : Addr → Prop} {H : Hp} {p a : Addr} {o : HO} {vs : List V} (h : FzT K M H a vs) (hp : H p = none) : FzT K M (upd H p o) a vs := by
  rcases h with ⟨its, t, n⟩ | t
  · exact .inl ⟨its, same_upd hp _ _ t, n⟩
  · exact .inr t
theorem same_mem : ∀ {kbv : List (List Int × Addr × V)} {xs : List (List Int × Addr × Value)}, Paired SameZ kbv xs → ∀ x ∈ xs, ∃ z ∈ kbv, z.1 = x.1 ∧ z.2.1 = x.2.1
  | _, _, .nil, x, h => nomatch h
  | _, _, .cons (a := a) h t, x, hx => by
    rcases List.mem_cons.mp hx with rfl | hx
    · exact ⟨a, List.mem_cons_self, h.1, h.2.1⟩
    · obtain ⟨z, hz, e⟩ := same_mem t x hx
      exact ⟨z, List.mem_cons_of_mem _ hz, e⟩
theorem same_vals : ∀ {kbv : List (List Int × Addr × V)} {xs : List (List Int × Addr × Value)}, Paired SameZ kbv xs → Vals (kbv.map (·.2.2)) (xs.map (·.2.2))
  | _, _, .nil => .nil
  | _, _, .cons h t => .cons h.2.2 (same_vals t)
theorem s_dictT : OpS K cl (rDictT K) gDictT := by
  intro as d vs H κ τ Q h l r q
  match as, h with
  | [.lst m items], h =>
    obtain ⟨v, rfl⟩ := one_of rfl l
    simp only [gDictT, Option.bind_eq_some_iff] at h
    obtain ⟨⟨ks, ds⟩, e, h⟩ := h
    split at h
    · rename_i nd
      cases h
      obtain ⟨f, g, n, hh, hr⟩ := r.split l
      have h1 := dats1 hh
      obtain ⟨a, us, g1, rfl, t1, d1, w⟩ := h1
      obtain ⟨ps, kbv, rfl, pr, k1, k2, k3⟩ := kv_dats d1 e
      refine ⟨a, ps, kbv, rfl, .of t1, pr, by rw [k1]; exact nd, fun p xs' hp sm => q (.ref p) _ ?_⟩
      have np : p ∉ f ++ g := fun z => by
        obtain ⟨_, o, e⟩ := slots_in (slots_app (dats_slots hh) hr) p z
        rw [hp] at e; cases e
      have tr : ∀ a o, H a = some o → upd H p (DtO p xs') a = some o := same_upd hp
      refine ⟨f ++ g, n, .ref p, _, [], f ++ g, rfl, rfl, ⟨p, kbv.map (·.2.2), xs', rfl, ⟨upd_same, np⟩, ⟨by rw [keysZ sm, k1], fun x hx => ?_, same_vals sm⟩, ?_⟩, ?_⟩
      · obtain ⟨z, hz, e1, e2⟩ := same_mem sm x hx
        rw [← e1, ← e2]
        exact fz_upd (k3 z hz) hp
      · exact dats_tr k2 (fun a z => .inl z) (fun a z => nomatch z) fun a o e _ => tr a o e
      · exact slots_tr (slots_app (dats_slots hh) hr) (fun a z => .inl z) (fun a z => z) fun a o e _ => tr a o e
    · cases h
theorem e_lz (fa fb : Ev) (env : Tw.Env) : fLZip fa fb env = (evs (vals [fa, fb]) env).bind fun ds env1 => match lzOf ds with
  | some q => .ok (.lst true q) env1
  | none => .stuck := (rfl)
theorem dictT_1 (m : Bool) (items : List D) : gDictT [.lst m items] = (kvsT items).bind fun q => if q.1.Nodup then some (.dtt q.1 q.2) else none := (rfl)
end
end Tw
namespace Tw
open PySem PySem.Spec PyProof.Rows L2
/-- all the words of reckoning -/
theorem ev : ((((((((type_of% @Tw.e_run ∧ type_of% @Tw.e_rtR) ∧ (type_of% @Tw.e_rtX ∧ (type_of% @Tw.e_rtN ∧ type_of% @Tw.e_io_nil))) ∧ ((type_of% @Tw.e_io_one ∧ (type_of% @Tw.e_ioR1 ∧ type_of% @Tw.e_seq)) ∧ (type_of% @Tw.e_seqN ∧ (type_of% @Tw.e_seqR ∧ type_of% @Tw.e_seqB)))) ∧ (((type_of% @Tw.e_seqC ∧ (type_of% @Tw.e_sNil ∧ type_of% @Tw.e_sBrk)) ∧ (type_of% @Tw.e_sCont ∧ (type_of% @Tw.e_sRet ∧ type_of% @Tw.e_sExpr))) ∧ ((type_of% @Tw.e_sIf ∧ (type_of% @Tw.e_sAsg ∧ type_of% @Tw.e_nxR)) ∧ (type_of% @Tw.e_bNm ∧ (type_of% @Tw.e_sPar ∧ type_of% @Tw.e_sFor))))) ∧ ((((type_of% @Tw.e_sAug ∧ (type_of% @Tw.e_augR ∧ type_of% @Tw.e_own)) ∧ (type_of% @Tw.e_ownR ∧ (type_of% @Tw.e_stR2 ∧ type_of% @Tw.e_sStore))) ∧ ((type_of% @Tw.e_stR ∧ (type_of% @Tw.e_stR3 ∧ type_of% @Tw.e_m1R)) ∧ (type_of% @Tw.e_m1S ∧ (type_of% @Tw.e_m1T ∧ type_of% @Tw.e_mt1)))) ∧ (((type_of% @Tw.e_m0S ∧ (type_of% @Tw.e_mt0 ∧ type_of% @Tw.e_var)) ∧ (type_of% @Tw.e_varR ∧ (type_of% @Tw.e_move ∧ type_of% @Tw.e_moveR))) ∧ ((type_of% @Tw.e_K ∧ (type_of% @Tw.e_nil ∧ type_of% @Tw.e_val)) ∧ (type_of% @Tw.e_slot ∧ (type_of% @Tw.e_slotR ∧ type_of% @Tw.e_gnil)))))) ∧ (((((type_of% @Tw.e_gval ∧ type_of% @Tw.e_gvR) ∧ (type_of% @Tw.e_gslot ∧ (type_of% @Tw.e_gsR ∧ type_of% @Tw.e_gR))) ∧ ((type_of% @Tw.e_gpR ∧ (type_of% @Tw.e_N ∧ type_of% @Tw.e_vals0)) ∧ (type_of% @Tw.e_vals1 ∧ (type_of% @Tw.e_tup ∧ type_of% @Tw.e_lst)))) ∧ (((type_of% @Tw.e_and ∧ (type_of% @Tw.e_andT ∧ type_of% @Tw.e_andF)) ∧ (type_of% @Tw.e_or ∧ (type_of% @Tw.e_orT ∧ type_of% @Tw.e_orF))) ∧ ((type_of% @Tw.e_not ∧ (type_of% @Tw.e_notR ∧ type_of% @Tw.e_bE)) ∧ (type_of% @Tw.e_bR ∧ (type_of% @Tw.e_bAnd ∧ type_of% @Tw.e_bOr))))) ∧ ((((type_of% @Tw.e_bNot ∧ (type_of% @Tw.e_bTrue ∧ type_of% @Tw.e_if)) ∧ (type_of% @Tw.e_chR2 ∧ (type_of% @Tw.e_chRT ∧ type_of% @Tw.e_chRF))) ∧ ((type_of% @Tw.e_chain ∧ (type_of% @Tw.e_part0 ∧ type_of% @Tw.e_part)) ∧ (type_of% @Tw.e_partR ∧ (type_of% @Tw.e_sl ∧ type_of% @Tw.e_rev)))) ∧ (((type_of% @Tw.e_kval ∧ (type_of% @Tw.e_kval2 ∧ type_of% @Tw.e_kN)) ∧ (type_of% @Tw.e_ktup ∧ (type_of% @Tw.e_klst ∧ type_of% @Tw.e_kand))) ∧ ((type_of% @Tw.e_kor ∧ (type_of% @Tw.e_knot ∧ type_of% @Tw.e_kbE)) ∧ (type_of% @Tw.e_kbAnd ∧ (type_of% @Tw.e_kbOr ∧ type_of% @Tw.e_kbNot))))))) ∧ ((((((type_of% @Tw.e_kif ∧ type_of% @Tw.e_kpart) ∧ (type_of% @Tw.e_krev ∧ (type_of% @Tw.e_kcall ∧ type_of% @Tw.e_ksRet))) ∧ ((type_of% @Tw.e_ksExpr ∧ (type_of% @Tw.e_ksIf ∧ type_of% @Tw.e_ksAsg)) ∧ (type_of% @Tw.e_ksFor ∧ (type_of% @Tw.e_ksStore ∧ type_of% @Tw.e_kstR)))) ∧ (((type_of% @Tw.e_km1T ∧ (type_of% @Tw.e_kiSeq ∧ type_of% @Tw.e_kiRng)) ∧ (type_of% @Tw.e_kiZip ∧ (type_of% @Tw.e_kmake ∧ type_of% @Tw.e_kfset))) ∧ ((type_of% @Tw.e_kchRT ∧ (type_of% @Tw.e_kchain2 ∧ type_of% @Tw.e_kchain)) ∧ (type_of% @Tw.e_ksl ∧ (type_of% @Tw.e_ksl2 ∧ type_of% @Tw.e_ksl3))))) ∧ ((((type_of% @Tw.e_ksPar ∧ (type_of% @Tw.e_ksPar2 ∧ type_of% @Tw.e_ksAug)) ∧ (type_of% @Tw.e_ksAug2 ∧ (type_of% @Tw.e_kcp3 ∧ type_of% @Tw.e_kcomp))) ∧ ((type_of% @Tw.e_kcomp2 ∧ (type_of% @Tw.e_coR ∧ type_of% @Tw.e_kco2)) ∧ (type_of% @Tw.e_kco ∧ (type_of% @Tw.e_co ∧ type_of% @Tw.e_callR)))) ∧ (((type_of% @Tw.e_call ∧ (type_of% @Tw.e_io0 ∧ type_of% @Tw.e_io1)) ∧ (type_of% @Tw.e_io1R ∧ (type_of% @Tw.e_itR ∧ type_of% @Tw.e_iSeq))) ∧ ((type_of% @Tw.e_rgR ∧ (type_of% @Tw.e_iRng ∧ type_of% @Tw.e_zpR)) ∧ (type_of% @Tw.e_iZip ∧ (type_of% @Tw.e_comp ∧ type_of% @Tw.e_comp2)))))) ∧ (((((type_of% @Tw.e_wipe0 ∧ type_of% @Tw.e_wipe1) ∧ (type_of% @Tw.e_bTp ∧ (type_of% @Tw.e_bTp2 ∧ type_of% @Tw.e_index))) ∧ ((type_of% @Tw.e_dnew ∧ (type_of% @Tw.ixD_1 ∧ type_of% @Tw.key_int)) ∧ (type_of% @Tw.key_str ∧ (type_of% @Tw.e_dstore ∧ type_of% @Tw.ownDAt_eq')))) ∧ (((type_of% @Tw.ownD_1 ∧ (type_of% @Tw.ixT_1 ∧ type_of% @Tw.frz_dtt)) ∧ (type_of% @Tw.ok_dtt ∧ (type_of% @Tw.sum_lst ∧ type_of% @Tw.e_lz))) ∧ ((type_of% @Tw.dictT_1 ∧ (type_of% @Tw.e_bNil ∧ type_of% @Tw.e_bCons)) ∧ (type_of% @Tw.e_mkR ∧ (type_of% @Tw.e_make ∧ type_of% @Tw.e_fset))))) ∧ ((((type_of% @Tw.e_fsR ∧ (type_of% @Tw.e_oo ∧ type_of% @Tw.e_ooR)) ∧ (type_of% @Tw.e_coR2 ∧ (type_of% @Tw.tru_non ∧ type_of% @Tw.tru_bl))) ∧ ((type_of% @Tw.tru_int ∧ (type_of% @Tw.tru_tup ∧ type_of% @Tw.tru_lst)) ∧ (type_of% @Tw.asI_int ∧ (type_of% @Tw.ints_nil ∧ type_of% @Tw.ints_cons)))) ∧ (((type_of% @Tw.items_lst ∧ (type_of% @Tw.items_tup ∧ type_of% @Tw.seqK_lst)) ∧ (type_of% @Tw.seqK_tup ∧ (type_of% @Tw.isN_int ∧ type_of% @Tw.isN_non))) ∧ ((type_of% @Tw.isN_tup ∧ (type_of% @Tw.notN_int ∧ type_of% @Tw.notN_non)) ∧ (type_of% @Tw.notN_tup ∧ (type_of% @Tw.mul_int ∧ type_of% @Tw.add_int)))))))) ∧ (((((((type_of% @Tw.sub_int ∧ type_of% @Tw.fdiv_int) ∧ (type_of% @Tw.mod_int ∧ (type_of% @Tw.pow_int ∧ type_of% @Tw.lt_int))) ∧ ((type_of% @Tw.le_int ∧ (type_of% @Tw.gt_int ∧ type_of% @Tw.ge_int)) ∧ (type_of% @Tw.neg_int ∧ (type_of% @Tw.imul_int ∧ type_of% @Tw.iadd_int)))) ∧ (((type_of% @Tw.len_lst ∧ (type_of% @Tw.len_tup ∧ type_of% @Tw.ix_lst)) ∧ (type_of% @Tw.ix_tup ∧ (type_of% @Tw.tuple_lst ∧ type_of% @Tw.tuple_tup))) ∧ ((type_of% @Tw.list_lst ∧ (type_of% @Tw.list_tup ∧ type_of% @Tw.list_scr)) ∧ (type_of% @Tw.abs_int ∧ (type_of% @Tw.intC_int ∧ type_of% @Tw.intC_bl))))) ∧ ((((type_of% @Tw.all_lst ∧ (type_of% @Tw.any_lst ∧ type_of% @Tw.isi_2)) ∧ (type_of% @Tw.tag_non ∧ (type_of% @Tw.tag_bl ∧ type_of% @Tw.tag_int))) ∧ ((type_of% @Tw.tag_str ∧ (type_of% @Tw.tag_tup ∧ type_of% @Tw.tag_lst)) ∧ (type_of% @Tw.tag_obj ∧ (type_of% @Tw.asT_ty ∧ type_of% @Tw.asT_cl)))) ∧ (((type_of% @Tw.frz_int ∧ (type_of% @Tw.frz_bl ∧ type_of% @Tw.frz_non)) ∧ (type_of% @Tw.frz_ty ∧ (type_of% @Tw.frz_cl ∧ type_of% @Tw.frz_scr))) ∧ ((type_of% @Tw.frz_tup ∧ (type_of% @Tw.frz_lst ∧ type_of% @Tw.frz_obj)) ∧ (type_of% @Tw.frzs_nil ∧ (type_of% @Tw.frzs_cons ∧ type_of% @Tw.ok_int)))))) ∧ (((((type_of% @Tw.ok_bl ∧ type_of% @Tw.ok_non) ∧ (type_of% @Tw.ok_tup ∧ (type_of% @Tw.ok_lst ∧ type_of% @Tw.ok_obj))) ∧ ((type_of% @Tw.doks_nil ∧ (type_of% @Tw.doks_cons ∧ type_of% @Tw.sl_scr)) ∧ (type_of% @Tw.sl_lst ∧ (type_of% @Tw.sl_tup ∧ type_of% @Tw.rev_lst)))) ∧ (((type_of% @Tw.rev_tup ∧ (type_of% @Tw.eq_int ∧ type_of% @Tw.ne_int)) ∧ (type_of% @Tw.sorted_2 ∧ (type_of% @Tw.e_lrR ∧ type_of% @Tw.e_klrg))) ∧ ((type_of% @Tw.e_lrg ∧ (type_of% @Tw.sorted_lst ∧ type_of% @Tw.min_int)) ∧ (type_of% @Tw.max_int ∧ (type_of% @Tw.e_enR ∧ type_of% @Tw.e_kiEnum))))) ∧ ((((type_of% @Tw.e_iEnum ∧ (type_of% @Tw.enumOf_1 ∧ type_of% @Tw.e_kcpB)) ∧ (type_of% @Tw.e_cpB ∧ (type_of% @Tw.e_compB ∧ type_of% @Tw.e_fgN))) ∧ ((type_of% @Tw.e_fgC ∧ (type_of% @Tw.e_fgB ∧ type_of% @Tw.e_fgRt)) ∧ (type_of% @Tw.e_fgR ∧ (type_of% @Tw.e_for0 ∧ type_of% @Tw.e_for1)))) ∧ (((type_of% @Tw.e_cgF ∧ (type_of% @Tw.e_cgT ∧ type_of% @Tw.e_cgR)) ∧ (type_of% @Tw.e_neo ∧ (type_of% @Tw.e_cg0 ∧ type_of% @Tw.e_cg1))) ∧ ((type_of% @Tw.e_c2A ∧ (type_of% @Tw.e_c2I ∧ type_of% @Tw.e_c2T)) ∧ (type_of% @Tw.e_c2R ∧ (type_of% @Tw.e_c20 ∧ type_of% @Tw.e_c21))))))) ∧ ((((((type_of% @Tw.at5_0 ∧ type_of% @Tw.at5_1) ∧ (type_of% @Tw.at5_2 ∧ (type_of% @Tw.at5_3 ∧ type_of% @Tw.at5_4))) ∧ ((type_of% @Tw.ix5_1 ∧ (type_of% @Tw.ix5_2 ∧ type_of% @Tw.ix5_3)) ∧ (type_of% @Tw.ix5_4 ∧ (type_of% @Tw.ints_map ∧ type_of% @Tw.e_frz)))) ∧ (((type_of% @Tw.e_kfrz ∧ (type_of% @Tw.e_fldO ∧ type_of% @Tw.e_Down)) ∧ (type_of% @Tw.e_mtF1S ∧ (type_of% @Tw.e_kmtF1 ∧ type_of% @Tw.e_mtF1R))) ∧ ((type_of% @Tw.e_mtF1 ∧ (type_of% @Tw.e_mtF0R ∧ type_of% @Tw.e_mtF0)) ∧ (type_of% @Tw.e_fldV ∧ (type_of% @Tw.e_augF ∧ type_of% @Tw.e_kfaug))))) ∧ ((((type_of% @Tw.e_faugR ∧ (type_of% @Tw.e_faug ∧ type_of% @Tw.e_methR)) ∧ (type_of% @Tw.e_meth ∧ (type_of% @Tw.e_mxR ∧ type_of% @Tw.e_kmaxD))) ∧ ((type_of% @Tw.e_maxD ∧ (type_of% @Tw.intsOf_lst ∧ type_of% @Tw.intsOf_tup)) ∧ (type_of% @Tw.e_mmR ∧ (type_of% @Tw.e_mm ∧ type_of% @Tw.mul_tup)))) ∧ (((type_of% @Tw.mul_lst ∧ (type_of% @Tw.frz_str ∧ type_of% @Tw.ok_str)) ∧ (type_of% @Tw.eq_str ∧ (type_of% @Tw.ne_str ∧ type_of% @Tw.eq_bool))) ∧ ((type_of% @Tw.lt_str ∧ (type_of% @Tw.le_str ∧ type_of% @Tw.items_str)) ∧ (type_of% @Tw.add_tup ∧ (type_of% @Tw.add_lst ∧ type_of% @Tw.oks_rows)))))) ∧ (((((type_of% @Tw.frzs_rows ∧ type_of% @Tw.rows_len) ∧ (type_of% @Tw.oks_int ∧ (type_of% @Tw.frzs_int ∧ type_of% @Tw.oks_tI))) ∧ ((type_of% @Tw.ok_tI ∧ (type_of% @Tw.frz_tI ∧ type_of% @Tw.e_bok)) ∧ (type_of% @Tw.e_sbok ∧ (type_of% @List.map_cons.{0,0} ∧ type_of% @List.map_nil.{0,0})))) ∧ (((type_of% @List.length_cons.{0} ∧ (type_of% @List.length_nil.{0} ∧ type_of% @List.cons_append.{0})) ∧ (type_of% @List.nil_append.{0} ∧ (type_of% @List.getElem?_cons_zero.{0} ∧ type_of% @List.getElem?_cons_succ.{0}))) ∧ ((type_of% @List.set_cons_zero.{0} ∧ (type_of% @List.set_cons_succ.{0} ∧ type_of% @Option.bind_some.{0,0})) ∧ (type_of% @Option.map_some.{0,0} ∧ (type_of% @Nat.zero_add ∧ type_of% @Nat.add_zero))))) ∧ ((((type_of% @Bool.and_true ∧ (type_of% @Bool.true_and ∧ type_of% @Bool.and_self)) ∧ (type_of% @Bool.not_true ∧ (type_of% @Bool.not_false ∧ type_of% @Bool.false_and))) ∧ ((type_of% @Bool.and_false ∧ (type_of% @Bool.or_true ∧ type_of% @Bool.true_or)) ∧ (type_of% @Bool.or_false ∧ (type_of% @Bool.false_or ∧ type_of% @if_true.{1})))) ∧ (((type_of% @if_false.{1} ∧ (type_of% @Bool.false_eq_true ∧ type_of% @ite_true.{1})) ∧ (type_of% @ite_false.{1} ∧ (type_of% @decide_true ∧ type_of% @decide_false))) ∧ ((type_of% @decide_eq_true_eq ∧ (type_of% @not_false_eq_true ∧ type_of% @not_true_eq_false)) ∧ (type_of% @List.length_map.{0,0} ∧ (type_of% @Option.map_none.{0,0} ∧ type_of% @and_self))))))))) := ⟨⟨⟨⟨⟨⟨⟨⟨@Tw.e_run, @Tw.e_rtR⟩, ⟨@Tw.e_rtX, ⟨@Tw.e_rtN, @Tw.e_io_nil⟩⟩⟩, ⟨⟨@Tw.e_io_one, ⟨@Tw.e_ioR1, @Tw.e_seq⟩⟩, ⟨@Tw.e_seqN, ⟨@Tw.e_seqR, @Tw.e_seqB⟩⟩⟩⟩, ⟨⟨⟨@Tw.e_seqC, ⟨@Tw.e_sNil, @Tw.e_sBrk⟩⟩, ⟨@Tw.e_sCont, ⟨@Tw.e_sRet, @Tw.e_sExpr⟩⟩⟩, ⟨⟨@Tw.e_sIf, ⟨@Tw.e_sAsg, @Tw.e_nxR⟩⟩, ⟨@Tw.e_bNm, ⟨@Tw.e_sPar, @Tw.e_sFor⟩⟩⟩⟩⟩, ⟨⟨⟨⟨@Tw.e_sAug, ⟨@Tw.e_augR, @Tw.e_own⟩⟩, ⟨@Tw.e_ownR, ⟨@Tw.e_stR2, @Tw.e_sStore⟩⟩⟩, ⟨⟨@Tw.e_stR, ⟨@Tw.e_stR3, @Tw.e_m1R⟩⟩, ⟨@Tw.e_m1S, ⟨@Tw.e_m1T, @Tw.e_mt1⟩⟩⟩⟩, ⟨⟨⟨@Tw.e_m0S, ⟨@Tw.e_mt0, @Tw.e_var⟩⟩, ⟨@Tw.e_varR, ⟨@Tw.e_move, @Tw.e_moveR⟩⟩⟩, ⟨⟨@Tw.e_K, ⟨@Tw.e_nil, @Tw.e_val⟩⟩, ⟨@Tw.e_slot, ⟨@Tw.e_slotR, @Tw.e_gnil⟩⟩⟩⟩⟩⟩, ⟨⟨⟨⟨⟨@Tw.e_gval, @Tw.e_gvR⟩, ⟨@Tw.e_gslot, ⟨@Tw.e_gsR, @Tw.e_gR⟩⟩⟩, ⟨⟨@Tw.e_gpR, ⟨@Tw.e_N, @Tw.e_vals0⟩⟩, ⟨@Tw.e_vals1, ⟨@Tw.e_tup, @Tw.e_lst⟩⟩⟩⟩, ⟨⟨⟨@Tw.e_and, ⟨@Tw.e_andT, @Tw.e_andF⟩⟩, ⟨@Tw.e_or, ⟨@Tw.e_orT, @Tw.e_orF⟩⟩⟩, ⟨⟨@Tw.e_not, ⟨@Tw.e_notR, @Tw.e_bE⟩⟩, ⟨@Tw.e_bR, ⟨@Tw.e_bAnd, @Tw.e_bOr⟩⟩⟩⟩⟩, ⟨⟨⟨⟨@Tw.e_bNot, ⟨@Tw.e_bTrue, @Tw.e_if⟩⟩, ⟨@Tw.e_chR2, ⟨@Tw.e_chRT, @Tw.e_chRF⟩⟩⟩, ⟨⟨@Tw.e_chain, ⟨@Tw.e_part0, @Tw.e_part⟩⟩, ⟨@Tw.e_partR, ⟨@Tw.e_sl, @Tw.e_rev⟩⟩⟩⟩, ⟨⟨⟨@Tw.e_kval, ⟨@Tw.e_kval2, @Tw.e_kN⟩⟩, ⟨@Tw.e_ktup, ⟨@Tw.e_klst, @Tw.e_kand⟩⟩⟩, ⟨⟨@Tw.e_kor, ⟨@Tw.e_knot, @Tw.e_kbE⟩⟩, ⟨@Tw.e_kbAnd, ⟨@Tw.e_kbOr, @Tw.e_kbNot⟩⟩⟩⟩⟩⟩⟩, ⟨⟨⟨⟨⟨⟨@Tw.e_kif, @Tw.e_kpart⟩, ⟨@Tw.e_krev, ⟨@Tw.e_kcall, @Tw.e_ksRet⟩⟩⟩, ⟨⟨@Tw.e_ksExpr, ⟨@Tw.e_ksIf, @Tw.e_ksAsg⟩⟩, ⟨@Tw.e_ksFor, ⟨@Tw.e_ksStore, @Tw.e_kstR⟩⟩⟩⟩, ⟨⟨⟨@Tw.e_km1T, ⟨@Tw.e_kiSeq, @Tw.e_kiRng⟩⟩, ⟨@Tw.e_kiZip, ⟨@Tw.e_kmake, @Tw.e_kfset⟩⟩⟩, ⟨⟨@Tw.e_kchRT, ⟨@Tw.e_kchain2, @Tw.e_kchain⟩⟩, ⟨@Tw.e_ksl, ⟨@Tw.e_ksl2, @Tw.e_ksl3⟩⟩⟩⟩⟩, ⟨⟨⟨⟨@Tw.e_ksPar, ⟨@Tw.e_ksPar2, @Tw.e_ksAug⟩⟩, ⟨@Tw.e_ksAug2, ⟨@Tw.e_kcp3, @Tw.e_kcomp⟩⟩⟩, ⟨⟨@Tw.e_kcomp2, ⟨@Tw.e_coR, @Tw.e_kco2⟩⟩, ⟨@Tw.e_kco, ⟨@Tw.e_co, @Tw.e_callR⟩⟩⟩⟩, ⟨⟨⟨@Tw.e_call, ⟨@Tw.e_io0, @Tw.e_io1⟩⟩, ⟨@Tw.e_io1R, ⟨@Tw.e_itR, @Tw.e_iSeq⟩⟩⟩, ⟨⟨@Tw.e_rgR, ⟨@Tw.e_iRng, @Tw.e_zpR⟩⟩, ⟨@Tw.e_iZip, ⟨@Tw.e_comp, @Tw.e_comp2⟩⟩⟩⟩⟩⟩, ⟨⟨⟨⟨⟨@Tw.e_wipe0, @Tw.e_wipe1⟩, ⟨@Tw.e_bTp, ⟨@Tw.e_bTp2, @Tw.e_index⟩⟩⟩, ⟨⟨@Tw.e_dnew, ⟨@Tw.ixD_1, @Tw.key_int⟩⟩, ⟨@Tw.key_str, ⟨@Tw.e_dstore, @Tw.ownDAt_eq'⟩⟩⟩⟩, ⟨⟨⟨@Tw.ownD_1, ⟨@Tw.ixT_1, @Tw.frz_dtt⟩⟩, ⟨@Tw.ok_dtt, ⟨@Tw.sum_lst, @Tw.e_lz⟩⟩⟩, ⟨⟨@Tw.dictT_1, ⟨@Tw.e_bNil, @Tw.e_bCons⟩⟩, ⟨@Tw.e_mkR, ⟨@Tw.e_make, @Tw.e_fset⟩⟩⟩⟩⟩, ⟨⟨⟨⟨@Tw.e_fsR, ⟨@Tw.e_oo, @Tw.e_ooR⟩⟩, ⟨@Tw.e_coR2, ⟨@Tw.tru_non, @Tw.tru_bl⟩⟩⟩, ⟨⟨@Tw.tru_int, ⟨@Tw.tru_tup, @Tw.tru_lst⟩⟩, ⟨@Tw.asI_int, ⟨@Tw.ints_nil, @Tw.ints_cons⟩⟩⟩⟩, ⟨⟨⟨@Tw.items_lst, ⟨@Tw.items_tup, @Tw.seqK_lst⟩⟩, ⟨@Tw.seqK_tup, ⟨@Tw.isN_int, @Tw.isN_non⟩⟩⟩, ⟨⟨@Tw.isN_tup, ⟨@Tw.notN_int, @Tw.notN_non⟩⟩, ⟨@Tw.notN_tup, ⟨@Tw.mul_int, @Tw.add_int⟩⟩⟩⟩⟩⟩⟩⟩, ⟨⟨⟨⟨⟨⟨⟨@Tw.sub_int, @Tw.fdiv_int⟩, ⟨@Tw.mod_int, ⟨@Tw.pow_int, @Tw.lt_int⟩⟩⟩, ⟨⟨@Tw.le_int, ⟨@Tw.gt_int, @Tw.ge_int⟩⟩, ⟨@Tw.neg_int, ⟨@Tw.imul_int, @Tw.iadd_int⟩⟩⟩⟩, ⟨⟨⟨@Tw.len_lst, ⟨@Tw.len_tup, @Tw.ix_lst⟩⟩, ⟨@Tw.ix_tup, ⟨@Tw.tuple_lst, @Tw.tuple_tup⟩⟩⟩, ⟨⟨@Tw.list_lst, ⟨@Tw.list_tup, @Tw.list_scr⟩⟩, ⟨@Tw.abs_int, ⟨@Tw.intC_int, @Tw.intC_bl⟩⟩⟩⟩⟩, ⟨⟨⟨⟨@Tw.all_lst, ⟨@Tw.any_lst, @Tw.isi_2⟩⟩, ⟨@Tw.tag_non, ⟨@Tw.tag_bl, @Tw.tag_int⟩⟩⟩, ⟨⟨@Tw.tag_str, ⟨@Tw.tag_tup, @Tw.tag_lst⟩⟩, ⟨@Tw.tag_obj, ⟨@Tw.asT_ty, @Tw.asT_cl⟩⟩⟩⟩, ⟨⟨⟨@Tw.frz_int, ⟨@Tw.frz_bl, @Tw.frz_non⟩⟩, ⟨@Tw.frz_ty, ⟨@Tw.frz_cl, @Tw.frz_scr⟩⟩⟩, ⟨⟨@Tw.frz_tup, ⟨@Tw.frz_lst, @Tw.frz_obj⟩⟩, ⟨@Tw.frzs_nil, ⟨@Tw.frzs_cons, @Tw.ok_int⟩⟩⟩⟩⟩⟩, ⟨⟨⟨⟨⟨@Tw.ok_bl, @Tw.ok_non⟩, ⟨@Tw.ok_tup, ⟨@Tw.ok_lst, @Tw.ok_obj⟩⟩⟩, ⟨⟨@Tw.doks_nil, ⟨@Tw.doks_cons, @Tw.sl_scr⟩⟩, ⟨@Tw.sl_lst, ⟨@Tw.sl_tup, @Tw.rev_lst⟩⟩⟩⟩, ⟨⟨⟨@Tw.rev_tup, ⟨@Tw.eq_int, @Tw.ne_int⟩⟩, ⟨@Tw.sorted_2, ⟨@Tw.e_lrR, @Tw.e_klrg⟩⟩⟩, ⟨⟨@Tw.e_lrg, ⟨@Tw.sorted_lst, @Tw.min_int⟩⟩, ⟨@Tw.max_int, ⟨@Tw.e_enR, @Tw.e_kiEnum⟩⟩⟩⟩⟩, ⟨⟨⟨⟨@Tw.e_iEnum, ⟨@Tw.enumOf_1, @Tw.e_kcpB⟩⟩, ⟨@Tw.e_cpB, ⟨@Tw.e_compB, @Tw.e_fgN⟩⟩⟩, ⟨⟨@Tw.e_fgC, ⟨@Tw.e_fgB, @Tw.e_fgRt⟩⟩, ⟨@Tw.e_fgR, ⟨@Tw.e_for0, @Tw.e_for1⟩⟩⟩⟩, ⟨⟨⟨@Tw.e_cgF, ⟨@Tw.e_cgT, @Tw.e_cgR⟩⟩, ⟨@Tw.e_neo, ⟨@Tw.e_cg0, @Tw.e_cg1⟩⟩⟩, ⟨⟨@Tw.e_c2A, ⟨@Tw.e_c2I, @Tw.e_c2T⟩⟩, ⟨@Tw.e_c2R, ⟨@Tw.e_c20, @Tw.e_c21⟩⟩⟩⟩⟩⟩⟩, ⟨⟨⟨⟨⟨⟨@Tw.at5_0, @Tw.at5_1⟩, ⟨@Tw.at5_2, ⟨@Tw.at5_3, @Tw.at5_4⟩⟩⟩, ⟨⟨@Tw.ix5_1, ⟨@Tw.ix5_2, @Tw.ix5_3⟩⟩, ⟨@Tw.ix5_4, ⟨@Tw.ints_map, @Tw.e_frz⟩⟩⟩⟩, ⟨⟨⟨@Tw.e_kfrz, ⟨@Tw.e_fldO, @Tw.e_Down⟩⟩, ⟨@Tw.e_mtF1S, ⟨@Tw.e_kmtF1, @Tw.e_mtF1R⟩⟩⟩, ⟨⟨@Tw.e_mtF1, ⟨@Tw.e_mtF0R, @Tw.e_mtF0⟩⟩, ⟨@Tw.e_fldV, ⟨@Tw.e_augF, @Tw.e_kfaug⟩⟩⟩⟩⟩, ⟨⟨⟨⟨@Tw.e_faugR, ⟨@Tw.e_faug, @Tw.e_methR⟩⟩, ⟨@Tw.e_meth, ⟨@Tw.e_mxR, @Tw.e_kmaxD⟩⟩⟩, ⟨⟨@Tw.e_maxD, ⟨@Tw.intsOf_lst, @Tw.intsOf_tup⟩⟩, ⟨@Tw.e_mmR, ⟨@Tw.e_mm, @Tw.mul_tup⟩⟩⟩⟩, ⟨⟨⟨@Tw.mul_lst, ⟨@Tw.frz_str, @Tw.ok_str⟩⟩, ⟨@Tw.eq_str, ⟨@Tw.ne_str, @Tw.eq_bool⟩⟩⟩, ⟨⟨@Tw.lt_str, ⟨@Tw.le_str, @Tw.items_str⟩⟩, ⟨@Tw.add_tup, ⟨@Tw.add_lst, @Tw.oks_rows⟩⟩⟩⟩⟩⟩, ⟨⟨⟨⟨⟨@Tw.frzs_rows, @Tw.rows_len⟩, ⟨@Tw.oks_int, ⟨@Tw.frzs_int, @Tw.oks_tI⟩⟩⟩, ⟨⟨@Tw.ok_tI, ⟨@Tw.frz_tI, @Tw.e_bok⟩⟩, ⟨@Tw.e_sbok, ⟨@List.map_cons.{0,0}, @List.map_nil.{0,0}⟩⟩⟩⟩, ⟨⟨⟨@List.length_cons.{0}, ⟨@List.length_nil.{0}, @List.cons_append.{0}⟩⟩, ⟨@List.nil_append.{0}, ⟨@List.getElem?_cons_zero.{0}, @List.getElem?_cons_succ.{0}⟩⟩⟩, ⟨⟨@List.set_cons_zero.{0}, ⟨@List.set_cons_succ.{0}, @Option.bind_some.{0,0}⟩⟩, ⟨@Option.map_some.{0,0}, ⟨@Nat.zero_add, @Nat.add_zero⟩⟩⟩⟩⟩, ⟨⟨⟨⟨@Bool.and_true, ⟨@Bool.true_and, @Bool.and_self⟩⟩, ⟨@Bool.not_true, ⟨@Bool.not_false, @Bool.false_and⟩⟩⟩, ⟨⟨@Bool.and_false, ⟨@Bool.or_true, @Bool.true_or⟩⟩, ⟨@Bool.or_false, ⟨@Bool.false_or, @if_true.{1}⟩⟩⟩⟩, ⟨⟨⟨@if_false.{1}, ⟨@Bool.false_eq_true, @ite_true.{1}⟩⟩, ⟨@ite_false.{1}, ⟨@decide_true, @decide_false⟩⟩⟩, ⟨⟨@decide_eq_true_eq, ⟨@not_false_eq_true, @not_true_eq_false⟩⟩, ⟨@List.length_map.{0,0}, ⟨@Option.map_none.{0,0}, @and_self⟩⟩⟩⟩⟩⟩⟩⟩⟩
end Tw
noncomputable section
namespace K29
open PySem PySem.Spec PyProof.Rows L2 Tw
def topS (i : Nat) : Stmt := PySem.Challenge.pw_twostandings_k29_whole_rounds_by_one_con.main.body.getD i (.Pass ⟨0, 0, 0, 0⟩)
def clNs : List Str := ["Row"]
abbrev s_is_integer : Stmt := topS 1
abbrev N_is_integer : List Str := ["thing"]
theorem sc_is_integer : FnScope N_is_integer ["thing"] (defScope s_is_integer) := ⟨rfl, rfl, rfl, by decide +kernel, rfl, by decide +kernel, by decide +kernel⟩
abbrev s_is_within : Stmt := topS 2
abbrev N_is_within : List Str := ["thing", "least", "most"]
theorem sc_is_within : FnScope N_is_within ["thing", "least", "most"] (defScope s_is_within) := ⟨rfl, rfl, rfl, by decide +kernel, rfl, by decide +kernel, by decide +kernel⟩
abbrev s_is_lot : Stmt := topS 3
abbrev N_is_lot : List Str := ["thing", "many", "last", "number"]
theorem sc_is_lot : FnScope N_is_lot ["thing", "many"] (defScope s_is_lot) := ⟨rfl, rfl, rfl, by decide +kernel, rfl, by decide +kernel, by decide +kernel⟩
abbrev s_is_pair : Stmt := topS 4
abbrev N_is_pair : List Str := ["thing"]
theorem sc_is_pair : FnScope N_is_pair ["thing"] (defScope s_is_pair) := ⟨rfl, rfl, rfl, by decide +kernel, rfl, by decide +kernel, by decide +kernel⟩
abbrev s_check_sizes : Stmt := topS 17
abbrev N_check_sizes : List Str := ["thing", "size"]
theorem sc_check_sizes : FnScope N_check_sizes ["thing"] (defScope s_check_sizes) := ⟨rfl, rfl, rfl, by decide +kernel, rfl, by decide +kernel, by decide +kernel⟩
abbrev s_tuples_of : Stmt := topS 18
abbrev N_tuples_of : List Str := ["sizes", "found", "size", "row", "worth"]
theorem sc_tuples_of : FnScope N_tuples_of ["sizes"] (defScope s_tuples_of) := ⟨rfl, rfl, rfl, by decide +kernel, rfl, by decide +kernel, by decide +kernel⟩
abbrev s_many_contents : Stmt := topS 19
abbrev N_many_contents : List Str := ["sizes", "found", "size"]
theorem sc_many_contents : FnScope N_many_contents ["sizes"] (defScope s_many_contents) := ⟨rfl, rfl, rfl, by decide +kernel, rfl, by decide +kernel, by decide +kernel⟩
abbrev s_is_content : Stmt := topS 20
abbrev N_is_content : List Str := ["sizes", "thing", "size", "worth"]
theorem sc_is_content : FnScope N_is_content ["sizes", "thing"] (defScope s_is_content) := ⟨rfl, rfl, rfl, by decide +kernel, rfl, by decide +kernel, by decide +kernel⟩
abbrev s_check_content : Stmt := topS 21
abbrev N_check_content : List Str := ["sizes", "thing"]
theorem sc_check_content : FnScope N_check_content ["sizes", "thing"] (defScope s_check_content) := ⟨rfl, rfl, rfl, by decide +kernel, rfl, by decide +kernel, by decide +kernel⟩
abbrev s_sizes_at : Stmt := topS 22
abbrev N_sizes_at : List Str := ["sizes", "lot", "pin"]
theorem sc_sizes_at : FnScope N_sizes_at ["sizes", "lot"] (defScope s_sizes_at) := ⟨rfl, rfl, rfl, by decide +kernel, rfl, by decide +kernel, by decide +kernel⟩
abbrev s_joints_of : Stmt := topS 23
abbrev N_joints_of : List Str := ["sizes", "lot"]
theorem sc_joints_of : FnScope N_joints_of ["sizes", "lot"] (defScope s_joints_of) := ⟨rfl, rfl, rfl, by decide +kernel, rfl, by decide +kernel, by decide +kernel⟩
abbrev s_is_map : Stmt := topS 27
abbrev N_is_map : List Str := ["standings", "thing", "standing"]
theorem sc_is_map : FnScope N_is_map ["standings", "thing"] (defScope s_is_map) := ⟨rfl, rfl, rfl, by decide +kernel, rfl, by decide +kernel, by decide +kernel⟩
abbrev s_is_look : Stmt := topS 28
abbrev N_is_look : List Str := ["sizes", "standings", "thing", "one"]
theorem sc_is_look : FnScope N_is_look ["sizes", "standings", "thing"] (defScope s_is_look) := ⟨rfl, rfl, rfl, by decide +kernel, rfl, by decide +kernel, by decide +kernel⟩
abbrev s_Row_init : Stmt := inClass (topS 29) 0
abbrev N_Row_init : List Str := ["self", "sizes", "standings", "looks", "at", "look"]
theorem sc_Row_init : FnScope N_Row_init ["self", "sizes", "standings", "looks"] (defScope s_Row_init) := ⟨rfl, rfl, rfl, by decide +kernel, rfl, by decide +kernel, by decide +kernel⟩
abbrev s_raw_row : Stmt := topS 30
abbrev N_raw_row : List Str := ["sizes", "standings", "looks", "found"]
theorem sc_raw_row : FnScope N_raw_row ["sizes", "standings", "looks"] (defScope s_raw_row) := ⟨rfl, rfl, rfl, by decide +kernel, rfl, by decide +kernel, by decide +kernel⟩
abbrev s_turned_back : Stmt := topS 31
abbrev N_turned_back : List Str := ["one", "standing"]
theorem sc_turned_back : FnScope N_turned_back ["one"] (defScope s_turned_back) := ⟨rfl, rfl, rfl, by decide +kernel, rfl, by decide +kernel, by decide +kernel⟩
abbrev s_one_look : Stmt := topS 33
abbrev N_one_look : List Str := ["sizes", "lot", "joint", "there", "elsewhere", "other"]
theorem sc_one_look : FnScope N_one_look ["sizes", "lot", "joint", "there", "elsewhere"] (defScope s_one_look) := ⟨rfl, rfl, rfl, by decide +kernel, rfl, by decide +kernel, by decide +kernel⟩
abbrev s_is_round : Stmt := topS 36
abbrev N_is_round : List Str := ["standings", "thing", "one"]
theorem sc_is_round : FnScope N_is_round ["standings", "thing"] (defScope s_is_round) := ⟨rfl, rfl, rfl, by decide +kernel, rfl, by decide +kernel, by decide +kernel⟩
abbrev s_led_round : Stmt := topS 37
abbrev N_led_round : List Str := ["standings", "some", "found", "one", "other"]
theorem sc_led_round : FnScope N_led_round ["standings", "some"] (defScope s_led_round) := ⟨rfl, rfl, rfl, by decide +kernel, rfl, by decide +kernel, by decide +kernel⟩
abbrev s_undone : Stmt := topS 38
abbrev N_undone : List Str := ["looks", "lot", "maps", "one"]
theorem sc_undone : FnScope N_undone ["looks"] (defScope s_undone) := ⟨rfl, rfl, rfl, by decide +kernel, rfl, by decide +kernel, by decide +kernel⟩
abbrev s_round_looks : Stmt := topS 39
abbrev N_round_looks : List Str := ["sizes", "content", "standings", "some", "still", "found", "swapped", "pin", "look"]
theorem sc_round_looks : FnScope N_round_looks ["sizes", "content", "standings", "some"] (defScope s_round_looks) := ⟨rfl, rfl, rfl, by decide +kernel, rfl, by decide +kernel, by decide +kernel⟩
abbrev s_check_standings : Stmt := topS 40
abbrev N_check_standings : List Str := ["thing", "least"]
theorem sc_check_standings : FnScope N_check_standings ["thing", "least"] (defScope s_check_standings) := ⟨rfl, rfl, rfl, by decide +kernel, rfl, by decide +kernel, by decide +kernel⟩
abbrev s_round_row : Stmt := topS 41
abbrev N_round_row : List Str := ["sizes", "content", "standings", "some"]
theorem sc_round_row : FnScope N_round_row ["sizes", "content", "standings", "some"] (defScope s_round_row) := ⟨rfl, rfl, rfl, by decide +kernel, rfl, by decide +kernel, by decide +kernel⟩
abbrev s__law_tape : Stmt := topS 43
abbrev N__law_tape : List Str := ["script"]
theorem sc__law_tape : FnScope N__law_tape ["script"] (defScope s__law_tape) := ⟨rfl, rfl, rfl, by decide +kernel, rfl, by decide +kernel, by decide +kernel⟩
abbrev s__law_pick : Stmt := topS 44
abbrev N__law_pick : List Str := ["tape", "many", "digit", "cell", "mixed"]
theorem sc__law_pick : FnScope N__law_pick ["tape", "many"] (defScope s__law_pick) := ⟨rfl, rfl, rfl, by decide +kernel, rfl, by decide +kernel, by decide +kernel⟩
abbrev s__law_any : Stmt := topS 45
abbrev N__law_any : List Str := ["tape", "things"]
theorem sc__law_any : FnScope N__law_any ["tape", "things"] (defScope s__law_any) := ⟨rfl, rfl, rfl, by decide +kernel, rfl, by decide +kernel, by decide +kernel⟩
abbrev s__law_mixed : Stmt := topS 46
abbrev N__law_mixed : List Str := ["tape", "things", "left", "at"]
theorem sc__law_mixed : FnScope N__law_mixed ["tape", "things"] (defScope s__law_mixed) := ⟨rfl, rfl, rfl, by decide +kernel, rfl, by decide +kernel, by decide +kernel⟩
abbrev s__law_contents : Stmt := topS 47
abbrev N__law_contents : List Str := ["sizes", "found", "size", "longer", "row", "worth"]
theorem sc__law_contents : FnScope N__law_contents ["sizes"] (defScope s__law_contents) := ⟨rfl, rfl, rfl, by decide +kernel, rfl, by decide +kernel, by decide +kernel⟩
abbrev s__law_joints : Stmt := topS 48
abbrev N__law_joints : List Str := ["sizes", "lot", "pin"]
theorem sc__law_joints : FnScope N__law_joints ["sizes", "lot"] (defScope s__law_joints) := ⟨rfl, rfl, rfl, by decide +kernel, rfl, by decide +kernel, by decide +kernel⟩
abbrev s__law_joint : Stmt := topS 49
abbrev N__law_joint : List Str := ["lot", "content", "pin"]
theorem sc__law_joint : FnScope N__law_joint ["lot", "content"] (defScope s__law_joint) := ⟨rfl, rfl, rfl, by decide +kernel, rfl, by decide +kernel, by decide +kernel⟩
abbrev s__law_sizes : Stmt := topS 50
abbrev N__law_sizes : List Str := ["tape", "most", "some", "sizes"]
theorem sc__law_sizes : FnScope N__law_sizes ["tape", "most"] (defScope s__law_sizes) := ⟨rfl, rfl, rfl, by decide +kernel, rfl, by decide +kernel, by decide +kernel⟩
abbrev s__law_ends : Stmt := topS 51
abbrev N__law_ends : List Str := ["looks", "sizes", "begin", "every", "here", "lot", "maps", "leads", "content", "standing"]
theorem sc__law_ends : FnScope N__law_ends ["looks", "sizes", "begin"] (defScope s__law_ends) := ⟨rfl, rfl, rfl, by decide +kernel, rfl, by decide +kernel, by decide +kernel⟩
abbrev s__law_is_turning : Stmt := topS 52
abbrev N__law_is_turning : List Str := ["looks", "lot", "maps", "one"]
theorem sc__law_is_turning : FnScope N__law_is_turning ["looks"] (defScope s__law_is_turning) := ⟨rfl, rfl, rfl, by decide +kernel, rfl, by decide +kernel, by decide +kernel⟩
abbrev s_law : Stmt := topS 53
abbrev N_law : List Str := ["script", "tape", "turn", "sizes", "content", "standings", "ring", "told", "every", "begin", "due", "lot", "maps"]
theorem sc_law : FnScope N_law ["script"] (defScope s_law) := ⟨rfl, rfl, rfl, by decide +kernel, rfl, by decide +kernel, by decide +kernel⟩
def isaT : List (Tg × Tg × Bool) := [(.ty "int", .ty "int", true), (.ty "bool", .ty "int", true), (.ty "str", .ty "int", false), (.ty "NoneType", .ty "int", false), (.ty "tuple", .ty "int", false), (.ty "list", .ty "int", false), (.ty "dict", .ty "int", false), (.cl 0, .ty "int", false), (.ty "int", .ty "bool", false), (.ty "bool", .ty "bool", true), (.ty "str", .ty "bool", false), (.ty "NoneType", .ty "bool", false), (.ty "tuple", .ty "bool", false), (.ty "list", .ty "bool", false), (.ty "dict", .ty "bool", false), (.cl 0, .ty "bool", false), (.ty "int", .ty "tuple", false), (.ty "bool", .ty "tuple", false), (.ty "str", .ty "tuple", false), (.ty "NoneType", .ty "tuple", false), (.ty "tuple", .ty "tuple", true), (.ty "list", .ty "tuple", false), (.ty "dict", .ty "tuple", false), (.cl 0, .ty "tuple", false), (.ty "int", .cl 0, false), (.ty "bool", .cl 0, false), (.ty "str", .cl 0, false), (.ty "NoneType", .cl 0, false), (.ty "tuple", .cl 0, false), (.ty "list", .cl 0, false), (.ty "dict", .cl 0, false), (.cl 0, .cl 0, true)]
def isa : Tg → Tg → Option Bool := isaBy isaT
theorem isa_int_int : isa (.ty "int") (.ty "int") = some true := (rfl)
theorem isa_bool_int : isa (.ty "bool") (.ty "int") = some true := (rfl)
theorem isa_str_int : isa (.ty "str") (.ty "int") = some false := (rfl)
theorem isa_NoneType_int : isa (.ty "NoneType") (.ty "int") = some false := (rfl)
theorem isa_tuple_int : isa (.ty "tuple") (.ty "int") = some false := (rfl)
theorem isa_list_int : isa (.ty "list") (.ty "int") = some false := (rfl)
theorem isa_dict_int : isa (.ty "dict") (.ty "int") = some false := (rfl)
theorem isa_Row_int : isa (.cl 0) (.ty "int") = some false := (rfl)
theorem isa_int_bool : isa (.ty "int") (.ty "bool") = some false := (rfl)
theorem isa_bool_bool : isa (.ty "bool") (.ty "bool") = some true := (rfl)
theorem isa_str_bool : isa (.ty "str") (.ty "bool") = some false := (rfl)
theorem isa_NoneType_bool : isa (.ty "NoneType") (.ty "bool") = some false := (rfl)
theorem isa_tuple_bool : isa (.ty "tuple") (.ty "bool") = some false := (rfl)
theorem isa_list_bool : isa (.ty "list") (.ty "bool") = some false := (rfl)
theorem isa_dict_bool : isa (.ty "dict") (.ty "bool") = some false := (rfl)
theorem isa_Row_bool : isa (.cl 0) (.ty "bool") = some false := (rfl)
theorem isa_int_tuple : isa (.ty "int") (.ty "tuple") = some false := (rfl)
theorem isa_bool_tuple : isa (.ty "bool") (.ty "tuple") = some false := (rfl)
theorem isa_str_tuple : isa (.ty "str") (.ty "tuple") = some false := (rfl)
theorem isa_NoneType_tuple : isa (.ty "NoneType") (.ty "tuple") = some false := (rfl)
theorem isa_tuple_tuple : isa (.ty "tuple") (.ty "tuple") = some true := (rfl)
theorem isa_list_tuple : isa (.ty "list") (.ty "tuple") = some false := (rfl)
theorem isa_dict_tuple : isa (.ty "dict") (.ty "tuple") = some false := (rfl)
theorem isa_Row_tuple : isa (.cl 0) (.ty "tuple") = some false := (rfl)
theorem isa_int_Row : isa (.ty "int") (.cl 0) = some false := (rfl)
theorem isa_bool_Row : isa (.ty "bool") (.cl 0) = some false := (rfl)
theorem isa_str_Row : isa (.ty "str") (.cl 0) = some false := (rfl)
theorem isa_NoneType_Row : isa (.ty "NoneType") (.cl 0) = some false := (rfl)
theorem isa_tuple_Row : isa (.ty "tuple") (.cl 0) = some false := (rfl)
theorem isa_list_Row : isa (.ty "list") (.cl 0) = some false := (rfl)
theorem isa_dict_Row : isa (.ty "dict") (.cl 0) = some false := (rfl)
theorem isa_Row_Row : isa (.cl 0) (.cl 0) = some true := (rfl)
def own_looks : Nat → Bool := fun c => c == 0
def own_sizes : Nat → Bool := fun c => c == 0
def own_standings : Nat → Bool := fun c => c == 0
structure Txt (K : PySem.W.Frag) (mg : Str → Option Value) (cl : Nat → Addr) : Prop where
  z_abs : mg "abs" = none
  z_all : mg "all" = none
  z_bool : mg "bool" = none
  z_dict : mg "dict" = none
  z_enumerate : mg "enumerate" = none
  z_int : mg "int" = none
  z_isinstance : mg "isinstance" = none
  z_len : mg "len" = none
  z_list : mg "list" = none
  z_max : mg "max" = none
  z_range : mg "range" = none
  z_set : mg "set" = none
  z_tuple : mg "tuple" = none
  z_zip : mg "zip" = none
  c_LEAST_STANDINGS : ∃ t, mg "LEAST_STANDINGS" = some (.int 3 t)
  c_LEAST_WORTHS : ∃ t, mg "LEAST_WORTHS" = some (.int 2 t)
  c_MOST_LOOKED : ∃ t, mg "MOST_LOOKED" = some (.int 3 t)
  c_MOST_LOOKS : ∃ t, mg "MOST_LOOKS" = some (.int 5000 t)
  c_MOST_PINS : ∃ t, mg "MOST_PINS" = some (.int 6 t)
  c_MOST_STANDINGS : ∃ t, mg "MOST_STANDINGS" = some (.int 8 t)
  c_MOST_WORTHS : ∃ t, mg "MOST_WORTHS" = some (.int 4 t)
  k_Row : mg "Row" = some (.ref (cl 0))
  isa : IsaOk K cl isa
  f_looks : FldOk K cl own_looks "looks"
  f_sizes : FldOk K cl own_sizes "sizes"
  f_standings : FldOk K cl own_standings "standings"
  F_is_integer : IsFn K mg "is_integer" "is_integer" s_is_integer ["thing"]
  F_is_within : IsFn K mg "is_within" "is_within" s_is_within ["thing", "least", "most"]
  F_is_lot : IsFn K mg "is_lot" "is_lot" s_is_lot ["thing", "many"]
  F_is_pair : IsFn K mg "is_pair" "is_pair" s_is_pair ["thing"]
  F_check_sizes : IsFn K mg "check_sizes" "check_sizes" s_check_sizes ["thing"]
  F_tuples_of : IsFn K mg "tuples_of" "tuples_of" s_tuples_of ["sizes"]
  F_many_contents : IsFn K mg "many_contents" "many_contents" s_many_contents ["sizes"]
  F_is_content : IsFn K mg "is_content" "is_content" s_is_content ["sizes", "thing"]
  F_check_content : IsFn K mg "check_content" "check_content" s_check_content ["sizes", "thing"]
  F_sizes_at : IsFn K mg "sizes_at" "sizes_at" s_sizes_at ["sizes", "lot"]
  F_joints_of : IsFn K mg "joints_of" "joints_of" s_joints_of ["sizes", "lot"]
  F_is_map : IsFn K mg "is_map" "is_map" s_is_map ["standings", "thing"]
  F_is_look : IsFn K mg "is_look" "is_look" s_is_look ["sizes", "standings", "thing"]
  F_Row_init : ∃ f, Mk K (cl 0) f ∧ IsM K f "__init__" "Row.__init__" s_Row_init ["self", "sizes", "standings", "looks"]
  F_raw_row : IsFn K mg "raw_row" "raw_row" s_raw_row ["sizes", "standings", "looks"]
  F_turned_back : IsFn K mg "turned_back" "turned_back" s_turned_back ["one"]
  F_one_look : IsFn K mg "one_look" "one_look" s_one_look ["sizes", "lot", "joint", "there", "elsewhere"]
  F_is_round : IsFn K mg "is_round" "is_round" s_is_round ["standings", "thing"]
  F_led_round : IsFn K mg "led_round" "led_round" s_led_round ["standings", "some"]
  F_undone : IsFn K mg "undone" "undone" s_undone ["looks"]
  F_round_looks : IsFn K mg "round_looks" "round_looks" s_round_looks ["sizes", "content", "standings", "some"]
  F_check_standings : IsFn K mg "check_standings" "check_standings" s_check_standings ["thing", "least"]
  F_round_row : IsFn K mg "round_row" "round_row" s_round_row ["sizes", "content", "standings", "some"]
  F__law_tape : IsFn K mg "_law_tape" "_law_tape" s__law_tape ["script"]
  F__law_pick : IsFn K mg "_law_pick" "_law_pick" s__law_pick ["tape", "many"]
  F__law_any : IsFn K mg "_law_any" "_law_any" s__law_any ["tape", "things"]
  F__law_mixed : IsFn K mg "_law_mixed" "_law_mixed" s__law_mixed ["tape", "things"]
  F__law_contents : IsFn K mg "_law_contents" "_law_contents" s__law_contents ["sizes"]
  F__law_joints : IsFn K mg "_law_joints" "_law_joints" s__law_joints ["sizes", "lot"]
  F__law_joint : IsFn K mg "_law_joint" "_law_joint" s__law_joint ["lot", "content"]
  F__law_sizes : IsFn K mg "_law_sizes" "_law_sizes" s__law_sizes ["tape", "most"]
  F__law_ends : IsFn K mg "_law_ends" "_law_ends" s__law_ends ["looks", "sizes", "begin"]
  F__law_is_turning : IsFn K mg "_law_is_turning" "_law_is_turning" s__law_is_turning ["looks"]
variable {P : Program} {w : World} {K : PySem.W.Frag} {mg : Str → Option Value} {base : Heap} {cl : Nat → Addr}
def b_is_integer : Sv := (sSeq (sRet (fAnd (fN (gIsi isa) [(.val (fVar 0)), (.val (fK (.ty "int")))]) (fNot (fN (gIsi isa) [(.val (fVar 0)), (.val (fK (.ty "bool")))]))))
    sNil)
def h_is_integer : List D → Rf := runB 1 [] b_is_integer
theorem ok_is_integer (T : Txt K mg cl) : FnD P w K mg base cl "is_integer" 1 1 [] h_is_integer := by
  obtain ⟨f, fd, gm, F, hb⟩ := T.F_is_integer
  refine def_ok (k := 0) F sc_is_integer gm hb (by decide) (by decide) (by decide) fun cdv A outer s H E hr tk hp => ?_
  have nd : N_is_integer.Nodup := by decide +kernel
  exact (ss_cons (s_ret (j_and (j_callB call_isi (s_isi T.isa) T.z_isinstance (by decide +kernel) (ja_cons (j_var (pv 0)) (ja_cons (j_ty T.z_int (by decide +kernel)) ja_nil))) (j_one (j_not (j_callB call_isi (s_isi T.isa) T.z_isinstance (by decide +kernel) (ja_cons (j_var (pv 0)) (ja_cons (j_ty T.z_bool (by decide +kernel)) ja_nil)))))))
      ss_nil)
def b_is_within : Sv := (sSeq (sRet (fAnd (fCall [] h_is_integer [(.val (fVar 0))]) (fChain gLe gLe (fVar 1) (fVar 0) (fVar 2))))
    sNil)
def h_is_within : List D → Rf := runB 3 [] b_is_within
theorem ok_is_within (T : Txt K mg cl) : FnD P w K mg base cl "is_within" 2 3 [] h_is_within := by
  obtain ⟨f, fd, gm, F, hb⟩ := T.F_is_within
  refine def_ok (k := 1) F sc_is_within gm hb (by decide) (by decide) (by decide) fun cdv A outer s H E hr tk hp => ?_
  have nd : N_is_within.Nodup := by decide +kernel
  exact (ss_cons (s_ret (j_and (j_call (ok_is_integer T) tk hr (by decide) rfl (ja_cons (o1 := .val _) (j_var (pv 0)) ja_nil)) (j_one (j_chain op_leA s_le op_leA s_le (j_var (pv 1)) (j_var (pv 0)) (j_var (pv 2))))))
      ss_nil)
abbrev l_is_lot_1 : Sv := (sSeq (sIf (bNot (bE (fCall [] h_is_within [(.val (fVar 3)), (.val (fN gAdd [(.val (fVar 2)), (.val (fK (.int 1)))])), (.val (fN gSub [(.val (fVar 1)), (.val (fK (.int 1)))]))]))) (sSeq (sRet (fK (.bl false)))
    sNil) sNil)
    (sSeq (sAsg (bNm 2) (fVar 3))
    sNil))
def b_is_lot : Sv := (sSeq (sIf (bNot (bE (fN (gIsi isa) [(.val (fVar 0)), (.val (fK (.ty "tuple")))]))) (sSeq (sRet (fK (.bl false)))
    sNil) sNil)
    (sSeq (sAsg (bNm 2) (fN gNeg [(.val (fK (.int 1)))]))
    (sSeq (sFor (iSeq (fVar 0)) (bNm 3) l_is_lot_1)
    (sSeq (sRet (fK (.bl true)))
    sNil))))
def h_is_lot : List D → Rf := runB 4 [] b_is_lot
theorem ok_is_lot (T : Txt K mg cl) : FnD P w K mg base cl "is_lot" 3 2 [] h_is_lot := by
  obtain ⟨f, fd, gm, F, hb⟩ := T.F_is_lot
  refine def_ok (k := 2) F sc_is_lot gm hb (by decide) (by decide) (by decide) fun cdv A outer s H E hr tk hp => ?_
  have nd : N_is_lot.Nodup := by decide +kernel
  exact (ss_cons (s_if (t_not (t_e (j_callB call_isi (s_isi T.isa) T.z_isinstance (by decide +kernel) (ja_cons (j_var (pv 0)) (ja_cons (j_ty T.z_tuple (by decide +kernel)) ja_nil))))) (ss_cons (s_ret j_bl)
      ss_nil) ss_nil)
      (ss_cons (s_set (i := 2) nd (j_un un_neg s_neg j_int))
      (ss_cons (s_for hp rfl (i_seq (j_var (pv 0))) (g_nm nd (i := 3))
      (ss_cons (s_if (t_not (t_e (j_call (ok_is_within T) tk hr (by decide) rfl (ja_cons (o1 := .val _) (j_var (pv 3)) (ja_cons (o1 := .val _) (j_bin op_addAll s_add (j_var (pv 2)) j_int) (ja_cons (o1 := .val _) (j_bin op_sub s_sub (j_var (pv 1)) j_int) ja_nil)))))) (ss_cons (s_ret j_bl)
      ss_nil) ss_nil)
      (ss_cons (s_set (i := 2) nd (j_var (pv 3)))
      ss_nil)))
      (ss_cons (s_ret j_bl)
      ss_nil))))
def b_is_pair : Sv := (sSeq (sRet (fAnd (fN (gIsi isa) [(.val (fVar 0)), (.val (fK (.ty "tuple")))]) (fN gEq [(.val (fN gLen [(.val (fVar 0))])), (.val (fK (.int 2)))])))
    sNil)
def h_is_pair : List D → Rf := runB 1 [] b_is_pair
theorem ok_is_pair (T : Txt K mg cl) : FnD P w K mg base cl "is_pair" 1 1 [] h_is_pair := by
  obtain ⟨f, fd, gm, F, hb⟩ := T.F_is_pair
  refine def_ok (k := 0) F sc_is_pair gm hb (by decide) (by decide) (by decide) fun cdv A outer s H E hr tk hp => ?_
  have nd : N_is_pair.Nodup := by decide +kernel
  exact (ss_cons (s_ret (j_and (j_callB call_isi (s_isi T.isa) T.z_isinstance (by decide +kernel) (ja_cons (j_var (pv 0)) (ja_cons (j_ty T.z_tuple (by decide +kernel)) ja_nil))) (j_one (j_cmp (op_eqD hr.units) s_eq (nomark _) (j_callB cr_len s_len T.z_len (by decide +kernel) (ja_cons (j_var (pv 0)) ja_nil)) j_int))))
      ss_nil)
abbrev c_check_sizes_1 : Ev := (fCall [] h_is_within [(.val (fVar 1)), (.val (fK (.int 2))), (.val (fK (.int 4)))])
def b_check_sizes : Sv := (sSeq (sIf (bOr (bNot (bE (fN (gIsi isa) [(.val (fVar 0)), (.val (fK (.ty "tuple")))]))) (bNot (bE (fChain gLe gLe (fK (.int 1)) (fN gLen [(.val (fVar 0))]) (fK (.int 6)))))) (sSeq sNever
    sNil) sNil)
    (sSeq (sIf (bNot (bE (fN gAll [(.val (fComp [1] (iSeq (fVar 0)) (bNm 1) bTrue c_check_sizes_1))]))) (sSeq sNever
    sNil) sNil)
    sNil))
def h_check_sizes : List D → Rf := runB 2 [] b_check_sizes
theorem ok_check_sizes (T : Txt K mg cl) : FnD P w K mg base cl "check_sizes" 3 1 [] h_check_sizes := by
  obtain ⟨f, fd, gm, F, hb⟩ := T.F_check_sizes
  refine def_ok (k := 2) F sc_check_sizes gm hb (by decide) (by decide) (by decide) fun cdv A outer s H E hr tk hp => ?_
  have nd : N_check_sizes.Nodup := by decide +kernel
  exact (ss_cons (s_if (PW.pt (t_or (t_not (t_e (j_callB call_isi (s_isi T.isa) T.z_isinstance (by decide +kernel) (ja_cons (j_var (pv 0)) (ja_cons (j_ty T.z_tuple (by decide +kernel)) ja_nil))))) (t_or1 (t_not (t_chain op_leA s_le op_leA s_le (fun _ _ z => cmp_bl z) j_int (j_callB cr_len s_len T.z_len (by decide +kernel) (ja_cons (j_var (pv 0)) ja_nil)) (j_gint T.c_MOST_PINS.choose_spec)))))) (ss_cons s_never
      ss_nil) ss_nil)
      (ss_cons (s_if (t_not (t_e (j_callB (cr_all rfl) s_all T.z_all (by decide +kernel) (ja_cons (j_comp (own := [("size", 1)]) rfl nd (i_seq (j_var (pv 0))) (blkOk_by (own := [("size", 1)]) (N := N_check_sizes) (sc := defScope s_check_sizes) (by decide +kernel)) (fun _ _ _ _ _ => (g_nm nd (i := 1))) (fun _ _ _ _ _ => c_nil) (fun _ _ _ _ _ => (j_call (ok_is_within T) takes0 hr (by decide) rfl (ja_cons (o1 := .val _) (j_var (pv 1)) (ja_cons (o1 := .val _) (j_gint T.c_LEAST_WORTHS.choose_spec) (ja_cons (o1 := .val _) (j_gint T.c_MOST_WORTHS.choose_spec) ja_nil))))) (by decide)) ja_nil)))) (ss_cons s_never
      ss_nil) ss_nil)
      ss_nil))
abbrev i_tuples_of_1 : Tw.Env → Rs (List D) := (iRng [(fVar 2)])
abbrev c_tuples_of_1 : Ev := (fN gAdd [(.val (fVar 3)), (.val (fTup [(fVar 4)]))])
abbrev l_tuples_of_1 : Sv := (sSeq (sAsg (bNm 1) (fComp2 [3, 4] [4] (iSeq (fVar 1)) (bNm 3) bTrue i_tuples_of_1 (bNm 4) bTrue c_tuples_of_1))
    sNil)
def b_tuples_of : Sv := (sSeq (sAsg (bNm 1) (fLst [(fTup [])]))
    (sSeq (sFor (iSeq (fVar 0)) (bNm 2) l_tuples_of_1)
    (sSeq (sRet (fMove 1))
    sNil)))
def h_tuples_of : List D → Rf := runB 5 [] b_tuples_of
theorem ok_tuples_of (T : Txt K mg cl) : FnD P w K mg base cl "tuples_of" 1 1 [] h_tuples_of := by
  obtain ⟨f, fd, gm, F, hb⟩ := T.F_tuples_of
  refine def_ok (k := 0) F sc_tuples_of gm hb (by decide) (by decide) (by decide) fun cdv A outer s H E hr tk hp => ?_
  have nd : N_tuples_of.Nodup := by decide +kernel
  exact (ss_cons (s_set (i := 1) nd (j_lst (fs := [(fTup [])]) (ja_cons (o1 := .val _) (j_tup (fs := []) ja_nil) ja_nil)))
      (ss_cons (s_for hp rfl (i_seq (j_var (pv 0))) (g_nm nd (i := 2))
      (ss_cons (s_setLc2 (i := 1) (own := [("row", 3), ("worth", 4)]) (vs1 := [4]) rfl nd rfl rfl (sw_true rfl rfl rfl rfl) (i_seq (j_var (pv 1))) (blkOk_by (own := [("row", 3), ("worth", 4)]) (N := N_tuples_of) (sc := defScope s_tuples_of) (by decide +kernel)) (by decide) (fun _ _ _ _ _ => (g_nm nd (i := 3))) (fun _ _ _ _ _ => c_nil) (fun _ _ _ _ _ => (i_rng1 T.z_range (ja_cons (o1 := .val _) (j_var (pv 2)) ja_nil))) (fun _ _ _ _ _ => (g_nm nd (i := 4))) (fun _ _ _ _ _ => c_nil) (fun _ _ _ _ _ => (j_bin op_addAll s_add (j_var (pv 3)) (j_tup (fs := [(fVar 4)]) (ja_cons (o1 := .val _) (j_var (pv 4)) ja_nil)))) (by decide))
      ss_nil))
      (ss_cons (s_ret (j_move (pv 1)))
      ss_nil)))
abbrev l_many_contents_1 : Sv := (sSeq (sAug 1 gIMul (fVar 2))
    sNil)
def b_many_contents : Sv := (sSeq (sAsg (bNm 1) (fK (.int 1)))
    (sSeq (sFor (iSeq (fVar 0)) (bNm 2) l_many_contents_1)
    (sSeq (sRet (fMove 1))
    sNil)))
def h_many_contents : List D → Rf := runB 3 [] b_many_contents
theorem ok_many_contents (T : Txt K mg cl) : FnD P w K mg base cl "many_contents" 1 1 [] h_many_contents := by
  obtain ⟨f, fd, gm, F, hb⟩ := T.F_many_contents
  refine def_ok (k := 0) F sc_many_contents gm hb (by decide) (by decide) (by decide) fun cdv A outer s H E hr tk hp => ?_
  have nd : N_many_contents.Nodup := by decide +kernel
  exact (ss_cons (s_set (i := 1) nd j_int)
      (ss_cons (s_for hp rfl (i_seq (j_var (pv 0))) (g_nm nd (i := 2))
      (ss_cons (s_aug (i := 1) nd iop_mulA s_imul (j_var (pv 2)))
      ss_nil))
      (ss_cons (s_ret (j_move (pv 1)))
      ss_nil)))
abbrev c_is_content_1 : Ev := (fCall [] h_is_within [(.val (fVar 3)), (.val (fK (.int 0))), (.val (fN gSub [(.val (fVar 2)), (.val (fK (.int 1)))]))])
def b_is_content : Sv := (sSeq (sIf (bOr (bNot (bE (fN (gIsi isa) [(.val (fVar 1)), (.val (fK (.ty "tuple")))]))) (bE (fN gNe [(.val (fN gLen [(.val (fVar 1))])), (.val (fN gLen [(.val (fVar 0))]))]))) (sSeq (sRet (fK (.bl false)))
    sNil) sNil)
    (sSeq (sRet (fN gAll [(.val (fComp [2, 3] (iZip [(fVar 0), (fVar 1)]) (bTp (bCons (bNm 2) (bCons (bNm 3) bNil))) bTrue c_is_content_1))]))
    sNil))
def h_is_content : List D → Rf := runB 4 [] b_is_content
theorem ok_is_content (T : Txt K mg cl) : FnD P w K mg base cl "is_content" 3 2 [] h_is_content := by
  obtain ⟨f, fd, gm, F, hb⟩ := T.F_is_content
  refine def_ok (k := 2) F sc_is_content gm hb (by decide) (by decide) (by decide) fun cdv A outer s H E hr tk hp => ?_
  have nd : N_is_content.Nodup := by decide +kernel
  exact (ss_cons (s_if (PW.pt (t_or (t_not (t_e (j_callB call_isi (s_isi T.isa) T.z_isinstance (by decide +kernel) (ja_cons (j_var (pv 1)) (ja_cons (j_ty T.z_tuple (by decide +kernel)) ja_nil))))) (t_or1 (t_cmp (op_neD hr.units) s_ne (fun _ _ z => ne_bl z) (nomark _) (j_callB cr_len s_len T.z_len (by decide +kernel) (ja_cons (j_var (pv 1)) ja_nil)) (j_callB cr_len s_len T.z_len (by decide +kernel) (ja_cons (j_var (pv 0)) ja_nil)))))) (ss_cons (s_ret j_bl)
      ss_nil) ss_nil)
      (ss_cons (s_ret (j_callB (cr_all rfl) s_all T.z_all (by decide +kernel) (ja_cons (j_comp (own := [("size", 2), ("worth", 3)]) rfl nd (i_zip T.z_zip (ja_cons (o1 := .val _) (j_var (pv 0)) (ja_cons (o1 := .val _) (j_var (pv 1)) ja_nil))) (blkOk_by (own := [("size", 2), ("worth", 3)]) (N := N_is_content) (sc := defScope s_is_content) (by decide +kernel)) (fun _ _ _ _ _ => (g_tp (n := 2) rfl (gs_cons (g_nm nd (i := 2)) (gs_cons (g_nm nd (i := 3)) gs_nil)) (fun _ _ _ z => bCons_len (fun _ _ _ z => bCons_len (fun _ _ _ z => bNil_len z) z) z))) (fun _ _ _ _ _ => c_nil) (fun _ _ _ _ _ => (j_call (ok_is_within T) takes0 hr (by decide) rfl (ja_cons (o1 := .val _) (j_var (pv 3)) (ja_cons (o1 := .val _) j_int (ja_cons (o1 := .val _) (j_bin op_sub s_sub (j_var (pv 2)) j_int) ja_nil))))) (by decide)) ja_nil)))
      ss_nil))
def b_check_content : Sv := (sSeq (sIf (bNot (bE (fCall [] h_is_content [(.val (fVar 0)), (.val (fVar 1))]))) (sSeq sNever
    sNil) sNil)
    sNil)
def h_check_content : List D → Rf := runB 2 [] b_check_content
theorem ok_check_content (T : Txt K mg cl) : FnD P w K mg base cl "check_content" 4 2 [] h_check_content := by
  obtain ⟨f, fd, gm, F, hb⟩ := T.F_check_content
  refine def_ok (k := 3) F sc_check_content gm hb (by decide) (by decide) (by decide) fun cdv A outer s H E hr tk hp => ?_
  have nd : N_check_content.Nodup := by decide +kernel
  exact (ss_cons (s_if (t_not (t_e (j_call (ok_is_content T) tk hr (by decide) rfl (ja_cons (o1 := .val _) (j_var (pv 0)) (ja_cons (o1 := .val _) (j_var (pv 1)) ja_nil))))) (ss_cons s_never
      ss_nil) ss_nil)
      ss_nil)
abbrev c_sizes_at_1 : Ev := (fN gIx [(.val (fVar 0)), (.val (fVar 2))])
def b_sizes_at : Sv := (sSeq (sRet (fN gTuple [(.val (fComp [2] (iSeq (fVar 1)) (bNm 2) bTrue c_sizes_at_1))]))
    sNil)
def h_sizes_at : List D → Rf := runB 3 [] b_sizes_at
theorem ok_sizes_at (T : Txt K mg cl) : FnD P w K mg base cl "sizes_at" 1 2 [] h_sizes_at := by
  obtain ⟨f, fd, gm, F, hb⟩ := T.F_sizes_at
  refine def_ok (k := 0) F sc_sizes_at gm hb (by decide) (by decide) (by decide) fun cdv A outer s H E hr tk hp => ?_
  have nd : N_sizes_at.Nodup := by decide +kernel
  exact (ss_cons (s_ret (j_callTy call_tupleF s_tuple T.z_tuple (by decide +kernel) (ja_cons (j_comp (own := [("pin", 2)]) rfl nd (i_seq (j_var (pv 1))) (blkOk_by (own := [("pin", 2)]) (N := N_sizes_at) (sc := defScope s_sizes_at) (by decide +kernel)) (fun _ _ _ _ _ => (g_nm nd (i := 2))) (fun _ _ _ _ _ => c_nil) (fun _ _ _ _ _ => (j_ix ix_seq s_ix (fun _ _ => rfl) (j_var (pv 0)) (j_var (pv 2)))) (by decide)) ja_nil)))
      ss_nil)
def b_joints_of : Sv := (sSeq (sRet (fCall [] h_tuples_of [(.val (fCall [] h_sizes_at [(.val (fVar 0)), (.val (fVar 1))]))]))
    sNil)
def h_joints_of : List D → Rf := runB 2 [] b_joints_of
theorem ok_joints_of (T : Txt K mg cl) : FnD P w K mg base cl "joints_of" 2 2 [] h_joints_of := by
  obtain ⟨f, fd, gm, F, hb⟩ := T.F_joints_of
  refine def_ok (k := 1) F sc_joints_of gm hb (by decide) (by decide) (by decide) fun cdv A outer s H E hr tk hp => ?_
  have nd : N_joints_of.Nodup := by decide +kernel
  exact (ss_cons (s_ret (j_call (ok_tuples_of T) tk hr (by decide) rfl (ja_cons (o1 := .val _) (j_call (ok_sizes_at T) tk hr (by decide) rfl (ja_cons (o1 := .val _) (j_var (pv 0)) (ja_cons (o1 := .val _) (j_var (pv 1)) ja_nil))) ja_nil)))
      ss_nil)
abbrev c_is_map_1 : Ev := (fCall [] h_is_within [(.val (fVar 2)), (.val (fK (.int 0))), (.val (fN gSub [(.val (fVar 0)), (.val (fK (.int 1)))]))])
def b_is_map : Sv := (sSeq (sIf (bOr (bNot (bE (fN (gIsi isa) [(.val (fVar 1)), (.val (fK (.ty "tuple")))]))) (bE (fN gNe [(.val (fN gLen [(.val (fVar 1))])), (.val (fVar 0))]))) (sSeq (sRet (fK (.bl false)))
    sNil) sNil)
    (sSeq (sRet (fN gAll [(.val (fComp [2] (iSeq (fVar 1)) (bNm 2) bTrue c_is_map_1))]))
    sNil))
def h_is_map : List D → Rf := runB 3 [] b_is_map
theorem ok_is_map (T : Txt K mg cl) : FnD P w K mg base cl "is_map" 3 2 [] h_is_map := by
  obtain ⟨f, fd, gm, F, hb⟩ := T.F_is_map
  refine def_ok (k := 2) F sc_is_map gm hb (by decide) (by decide) (by decide) fun cdv A outer s H E hr tk hp => ?_
  have nd : N_is_map.Nodup := by decide +kernel
  exact (ss_cons (s_if (PW.pt (t_or (t_not (t_e (j_callB call_isi (s_isi T.isa) T.z_isinstance (by decide +kernel) (ja_cons (j_var (pv 1)) (ja_cons (j_ty T.z_tuple (by decide +kernel)) ja_nil))))) (t_or1 (t_cmp (op_neD hr.units) s_ne (fun _ _ z => ne_bl z) (nomark _) (j_callB cr_len s_len T.z_len (by decide +kernel) (ja_cons (j_var (pv 1)) ja_nil)) (j_var (pv 0)))))) (ss_cons (s_ret j_bl)
      ss_nil) ss_nil)
      (ss_cons (s_ret (j_callB (cr_all rfl) s_all T.z_all (by decide +kernel) (ja_cons (j_comp (own := [("standing", 2)]) rfl nd (i_seq (j_var (pv 1))) (blkOk_by (own := [("standing", 2)]) (N := N_is_map) (sc := defScope s_is_map) (by decide +kernel)) (fun _ _ _ _ _ => (g_nm nd (i := 2))) (fun _ _ _ _ _ => c_nil) (fun _ _ _ _ _ => (j_call (ok_is_within T) takes0 hr (by decide) rfl (ja_cons (o1 := .val _) (j_var (pv 2)) (ja_cons (o1 := .val _) j_int (ja_cons (o1 := .val _) (j_bin op_sub s_sub (j_var (pv 0)) j_int) ja_nil))))) (by decide)) ja_nil)))
      ss_nil))
abbrev c_is_look_1 : Ev := (fCall [] h_is_map [(.val (fVar 1)), (.val (fVar 3))])
def b_is_look : Sv := (sSeq (sIf (bOr (bNot (bE (fCall [] h_is_pair [(.val (fVar 2))]))) (bOr (bNot (bE (fCall [] h_is_lot [(.val (fN gIx [(.val (fVar 2)), (.val (fK (.int 0)))])), (.val (fN gLen [(.val (fVar 0))]))]))) (bE (fN gGt [(.val (fN gLen [(.val (fN gIx [(.val (fVar 2)), (.val (fK (.int 0)))]))])), (.val (fK (.int 3)))])))) (sSeq (sRet (fK (.bl false)))
    sNil) sNil)
    (sSeq (sIf (bOr (bNot (bE (fN (gIsi isa) [(.val (fN gIx [(.val (fVar 2)), (.val (fK (.int 1)))])), (.val (fK (.ty "tuple")))]))) (bE (fN gNe [(.val (fN gLen [(.val (fN gIx [(.val (fVar 2)), (.val (fK (.int 1)))]))])), (.val (fCall [] h_many_contents [(.val (fCall [] h_sizes_at [(.val (fVar 0)), (.val (fN gIx [(.val (fVar 2)), (.val (fK (.int 0)))]))]))]))]))) (sSeq (sRet (fK (.bl false)))
    sNil) sNil)
    (sSeq (sRet (fN gAll [(.val (fComp [3] (iSeq (fN gIx [(.val (fVar 2)), (.val (fK (.int 1)))])) (bNm 3) bTrue c_is_look_1))]))
    sNil)))
def h_is_look : List D → Rf := runB 4 [] b_is_look
theorem ok_is_look (T : Txt K mg cl) : FnD P w K mg base cl "is_look" 4 3 [] h_is_look := by
  obtain ⟨f, fd, gm, F, hb⟩ := T.F_is_look
  refine def_ok (k := 3) F sc_is_look gm hb (by decide) (by decide) (by decide) fun cdv A outer s H E hr tk hp => ?_
  have nd : N_is_look.Nodup := by decide +kernel
  exact (ss_cons (s_if (PW.pt (t_or (t_not (t_e (j_call (ok_is_pair T) tk hr (by decide) rfl (ja_cons (o1 := .val _) (j_var (pv 2)) ja_nil)))) (t_or (t_not (t_e (j_call (ok_is_lot T) tk hr (by decide) rfl (ja_cons (o1 := .val _) (j_ix ix_seq s_ix (fun _ _ => rfl) (j_var (pv 2)) j_int) (ja_cons (o1 := .val _) (j_callB cr_len s_len T.z_len (by decide +kernel) (ja_cons (j_var (pv 0)) ja_nil)) ja_nil))))) (t_or1 (t_cmp op_gtA s_gt (fun _ _ z => cmp_bl z) (nomark _) (j_callB cr_len s_len T.z_len (by decide +kernel) (ja_cons (j_ix ix_seq s_ix (fun _ _ => rfl) (j_var (pv 2)) j_int) ja_nil)) (j_gint T.c_MOST_LOOKED.choose_spec)))))) (ss_cons (s_ret j_bl)
      ss_nil) ss_nil)
      (ss_cons (s_if (PW.pt (t_or (t_not (t_e (j_callB call_isi (s_isi T.isa) T.z_isinstance (by decide +kernel) (ja_cons (j_ix ix_seq s_ix (fun _ _ => rfl) (j_var (pv 2)) j_int) (ja_cons (j_ty T.z_tuple (by decide +kernel)) ja_nil))))) (t_or1 (t_cmp (op_neD hr.units) s_ne (fun _ _ z => ne_bl z) (nomark _) (j_callB cr_len s_len T.z_len (by decide +kernel) (ja_cons (j_ix ix_seq s_ix (fun _ _ => rfl) (j_var (pv 2)) j_int) ja_nil)) (j_call (ok_many_contents T) tk hr (by decide) rfl (ja_cons (o1 := .val _) (j_call (ok_sizes_at T) tk hr (by decide) rfl (ja_cons (o1 := .val _) (j_var (pv 0)) (ja_cons (o1 := .val _) (j_ix ix_seq s_ix (fun _ _ => rfl) (j_var (pv 2)) j_int) ja_nil))) ja_nil)))))) (ss_cons (s_ret j_bl)
      ss_nil) ss_nil)
      (ss_cons (s_ret (j_callB (cr_all rfl) s_all T.z_all (by decide +kernel) (ja_cons (j_comp (own := [("one", 3)]) rfl nd (i_seq (j_ix ix_seq s_ix (fun _ _ => rfl) (j_var (pv 2)) j_int)) (blkOk_by (own := [("one", 3)]) (N := N_is_look) (sc := defScope s_is_look) (by decide +kernel)) (fun _ _ _ _ _ => (g_nm nd (i := 3))) (fun _ _ _ _ _ => c_nil) (fun _ _ _ _ _ => (j_call (ok_is_map T) takes0 hr (by decide) rfl (ja_cons (o1 := .val _) (j_var (pv 1)) (ja_cons (o1 := .val _) (j_var (pv 3)) ja_nil)))) (by decide)) ja_nil)))
      ss_nil)))
abbrev l_Row_init_1 : Sv := (sSeq (sIf (bNot (bE (fCall [] h_is_look [(.val (fVar 1)), (.val (fVar 2)), (.val (fVar 5))]))) (sSeq sNever
    sNil) sNil)
    sNil)
def b_Row_init : Sv := (sSeq (sExpr (fCall [] h_check_sizes [(.val (fVar 1))]))
    (sSeq (sIf (bNot (bE (fCall [] h_is_within [(.val (fVar 2)), (.val (fK (.int 1))), (.val (fK (.int 8)))]))) (sSeq sNever
    sNil) sNil)
    (sSeq (sIf (bOr (bNot (bE (fN (gIsi isa) [(.val (fVar 3)), (.val (fK (.ty "tuple")))]))) (bE (fN gGt [(.val (fN gLen [(.val (fVar 3))])), (.val (fK (.int 5000)))]))) (sSeq sNever
    sNil) sNil)
    (sSeq (sFor (iEnum [(fVar 3)]) (bTp (bCons (bNm 4) (bCons (bNm 5) bNil))) l_Row_init_1)
    (sSeq (sFSet 0 own_sizes "sizes" (fVar 1))
    (sSeq (sFSet 0 own_standings "standings" (fVar 2))
    (sSeq (sFSet 0 own_looks "looks" (fVar 3))
    sNil)))))))
def h_Row_init : List D → Rf := runB 6 [0] b_Row_init
theorem ok_Row_init (T : Txt K mg cl) {f : Addr} (M : IsM K f "__init__" "Row.__init__" s_Row_init ["self", "sizes", "standings", "looks"]) : FnM P w K mg base cl f 5 4 [0] h_Row_init := by
  obtain ⟨fd, F, hb⟩ := M
  refine meth_ok (k := 4) F sc_Row_init hb (by decide) (by decide) (by decide) fun cdv A outer s H E hr tk hp => ?_
  have nd : N_Row_init.Nodup := by decide +kernel
  exact (ss_cons (s_expr (j_call (ok_check_sizes T) tk hr (by decide) rfl (ja_cons (o1 := .val _) (j_var (pv 1)) ja_nil)))
      (ss_cons (s_if (t_not (t_e (j_call (ok_is_within T) tk hr (by decide) rfl (ja_cons (o1 := .val _) (j_var (pv 2)) (ja_cons (o1 := .val _) j_int (ja_cons (o1 := .val _) (j_gint T.c_MOST_STANDINGS.choose_spec) ja_nil)))))) (ss_cons s_never
      ss_nil) ss_nil)
      (ss_cons (s_if (PW.pt (t_or (t_not (t_e (j_callB call_isi (s_isi T.isa) T.z_isinstance (by decide +kernel) (ja_cons (j_var (pv 3)) (ja_cons (j_ty T.z_tuple (by decide +kernel)) ja_nil))))) (t_or1 (t_cmp op_gtA s_gt (fun _ _ z => cmp_bl z) (nomark _) (j_callB cr_len s_len T.z_len (by decide +kernel) (ja_cons (j_var (pv 3)) ja_nil)) (j_gint T.c_MOST_LOOKS.choose_spec))))) (ss_cons s_never
      ss_nil) ss_nil)
      (ss_cons (s_for hp rfl (i_enum T.z_enumerate (ja_cons (o1 := .val _) (j_var (pv 3)) ja_nil)) (g_tp (n := 2) rfl (gs_cons (g_nm nd (i := 4)) (gs_cons (g_nm nd (i := 5)) gs_nil)) (fun _ _ _ z => bCons_len (fun _ _ _ z => bCons_len (fun _ _ _ z => bNil_len z) z) z))
      (ss_cons (s_if (t_not (t_e (j_call (ok_is_look T) tk hr (by decide) rfl (ja_cons (o1 := .val _) (j_var (pv 1)) (ja_cons (o1 := .val _) (j_var (pv 2)) (ja_cons (o1 := .val _) (j_var (pv 5)) ja_nil)))))) (ss_cons s_never
      ss_nil) ss_nil)
      ss_nil))
      (ss_cons (s_fset (i := 0) T.f_sizes (pv 0) (j_var (pv 1)))
      (ss_cons (s_fset (i := 0) T.f_standings (pv 0) (j_var (pv 2)))
      (ss_cons (s_fset (i := 0) T.f_looks (pv 0) (j_var (pv 3)))
      ss_nil)))))))
theorem mk_Row (T : Txt K mg cl) : mg "Row" = some (.ref (cl 0)) ∧ ∃ f, Mk K (cl 0) f ∧ ∃ fd ps, Binds K fd ps [] ∧ FnOk P w K mg base (L2.CX P w) 5 f fd ps (spD K cl 4 [0] h_Row_init) := by
  obtain ⟨f, M, I⟩ := T.F_Row_init
  obtain ⟨fd, ps, hb, F⟩ := ok_Row_init (P := P) (w := w) (base := base) T I
  exact ⟨T.k_Row, f, M, fd, ps, hb, F⟩
def b_raw_row : Sv := (sSeq (sAsg (bNm 3) (fMake 0 h_Row_init [(fVar 0), (fVar 1), (fTup [])]))
    (sSeq (sFSet 3 own_looks "looks" (fN gTuple [(.val (fVar 2))]))
    (sSeq (sRet (fMove 3))
    sNil)))
def h_raw_row : List D → Rf := runB 4 [] b_raw_row
theorem ok_raw_row (T : Txt K mg cl) : FnD P w K mg base cl "raw_row" 7 3 [] h_raw_row := by
  obtain ⟨f, fd, gm, F, hb⟩ := T.F_raw_row
  refine def_ok (k := 6) F sc_raw_row gm hb (by decide) (by decide) (by decide) fun cdv A outer s H E hr tk hp => ?_
  have nd : N_raw_row.Nodup := by decide +kernel
  exact (ss_cons (s_set (i := 3) nd (j_make (n := 0) (mk_Row T) tk hr (by decide) rfl (fun _ _ _ _ _ z => z) (ja_cons (o1 := .val _) (j_var (pv 0)) (ja_cons (o1 := .val _) (j_var (pv 1)) (ja_cons (o1 := .val _) (j_tup (fs := []) ja_nil) ja_nil)))))
      (ss_cons (s_fset (i := 3) T.f_looks (pv 3) (j_callTy call_tupleF s_tuple T.z_tuple (by decide +kernel) (ja_cons (j_var (pv 2)) ja_nil)))
      (ss_cons (s_ret (j_move (pv 3)))
      ss_nil)))
abbrev c_turned_back_1 : Ev := (fIndex (fVar 0) (fVar 1))
def b_turned_back : Sv := (sSeq (sRet (fN gTuple [(.val (fComp [1] (iRng [(fN gLen [(.val (fVar 0))])]) (bNm 1) bTrue c_turned_back_1))]))
    sNil)
def h_turned_back : List D → Rf := runB 2 [] b_turned_back
theorem ok_turned_back (T : Txt K mg cl) : FnD P w K mg base cl "turned_back" 1 1 [] h_turned_back := by
  obtain ⟨f, fd, gm, F, hb⟩ := T.F_turned_back
  refine def_ok (k := 0) F sc_turned_back gm hb (by decide) (by decide) (by decide) fun cdv A outer s H E hr tk hp => ?_
  have nd : N_turned_back.Nodup := by decide +kernel
  exact (ss_cons (s_ret (j_callTy call_tupleF s_tuple T.z_tuple (by decide +kernel) (ja_cons (j_comp (own := [("standing", 1)]) rfl nd (i_rng1 T.z_range (ja_cons (o1 := .val _) (j_callB cr_len s_len T.z_len (by decide +kernel) (ja_cons (j_var (pv 0)) ja_nil)) ja_nil)) (blkOk_by (own := [("standing", 1)]) (N := N_turned_back) (sc := defScope s_turned_back) (by decide +kernel)) (fun _ _ _ _ _ => (g_nm nd (i := 1))) (fun _ _ _ _ _ => c_nil) (fun _ _ _ _ _ => (j_index hr.units (j_var (pv 0)) (ja_cons (o1 := .val _) (j_var (pv 1)) ja_nil))) (by decide)) ja_nil)))
      ss_nil)
abbrev c_one_look_1 : Ev := (fIf (bE (fN gEq [(.val (fVar 5)), (.val (fVar 2))])) (fVar 3) (fVar 4))
def b_one_look : Sv := (sSeq (sRet (fTup [(fVar 1), (fN gTuple [(.val (fComp [5] (iSeq (fCall [] h_joints_of [(.val (fVar 0)), (.val (fVar 1))])) (bNm 5) bTrue c_one_look_1))])]))
    sNil)
def h_one_look : List D → Rf := runB 6 [] b_one_look
theorem ok_one_look (T : Txt K mg cl) : FnD P w K mg base cl "one_look" 3 5 [] h_one_look := by
  obtain ⟨f, fd, gm, F, hb⟩ := T.F_one_look
  refine def_ok (k := 2) F sc_one_look gm hb (by decide) (by decide) (by decide) fun cdv A outer s H E hr tk hp => ?_
  have nd : N_one_look.Nodup := by decide +kernel
  exact (ss_cons (s_ret (j_tup (fs := [(fVar 1), (fN gTuple [(.val (fComp [5] (iSeq (fCall [] h_joints_of [(.val (fVar 0)), (.val (fVar 1))])) (bNm 5) bTrue c_one_look_1))])]) (ja_cons (o1 := .val _) (j_var (pv 1)) (ja_cons (o1 := .val _) (j_callTy call_tupleF s_tuple T.z_tuple (by decide +kernel) (ja_cons (j_comp (own := [("other", 5)]) rfl nd (i_seq (j_call (ok_joints_of T) tk hr (by decide) rfl (ja_cons (o1 := .val _) (j_var (pv 0)) (ja_cons (o1 := .val _) (j_var (pv 1)) ja_nil)))) (blkOk_by (own := [("other", 5)]) (N := N_one_look) (sc := defScope s_one_look) (by decide +kernel)) (fun _ _ _ _ _ => (g_nm nd (i := 5))) (fun _ _ _ _ _ => c_nil) (fun _ _ _ _ _ => (j_if (t_cmp (op_eqD hr.units) s_eq (fun _ _ z => eq_bl z) (nomark _) (j_var (pv 5)) (j_var (pv 2))) (j_var (pv 3)) (j_var (pv 4)))) (by decide)) ja_nil)) ja_nil))))
      ss_nil)
abbrev c_is_round_1 : Ev := (fCall [] h_is_within [(.val (fVar 2)), (.val (fK (.int 0))), (.val (fN gSub [(.val (fVar 0)), (.val (fK (.int 1)))]))])
def b_is_round : Sv := (sSeq (sIf (bOr (bNot (bE (fN (gIsi isa) [(.val (fVar 1)), (.val (fK (.ty "tuple")))]))) (bE (fN gNe [(.val (fN gLen [(.val (fVar 1))])), (.val (fK (.int 3)))]))) (sSeq (sRet (fK (.bl false)))
    sNil) sNil)
    (sSeq (sRet (fAnd (fN gAll [(.val (fComp [2] (iSeq (fVar 1)) (bNm 2) bTrue c_is_round_1))]) (fN gEq [(.val (fLenSet (fVar 1))), (.val (fK (.int 3)))])))
    sNil))
def h_is_round : List D → Rf := runB 3 [] b_is_round
theorem ok_is_round (T : Txt K mg cl) : FnD P w K mg base cl "is_round" 3 2 [] h_is_round := by
  obtain ⟨f, fd, gm, F, hb⟩ := T.F_is_round
  refine def_ok (k := 2) F sc_is_round gm hb (by decide) (by decide) (by decide) fun cdv A outer s H E hr tk hp => ?_
  have nd : N_is_round.Nodup := by decide +kernel
  exact (ss_cons (s_if (PW.pt (t_or (t_not (t_e (j_callB call_isi (s_isi T.isa) T.z_isinstance (by decide +kernel) (ja_cons (j_var (pv 1)) (ja_cons (j_ty T.z_tuple (by decide +kernel)) ja_nil))))) (t_or1 (t_cmp (op_neD hr.units) s_ne (fun _ _ z => ne_bl z) (nomark _) (j_callB cr_len s_len T.z_len (by decide +kernel) (ja_cons (j_var (pv 1)) ja_nil)) j_int)))) (ss_cons (s_ret j_bl)
      ss_nil) ss_nil)
      (ss_cons (s_ret (j_and (j_callB (cr_all rfl) s_all T.z_all (by decide +kernel) (ja_cons (j_comp (own := [("one", 2)]) rfl nd (i_seq (j_var (pv 1))) (blkOk_by (own := [("one", 2)]) (N := N_is_round) (sc := defScope s_is_round) (by decide +kernel)) (fun _ _ _ _ _ => (g_nm nd (i := 2))) (fun _ _ _ _ _ => c_nil) (fun _ _ _ _ _ => (j_call (ok_is_within T) takes0 hr (by decide) rfl (ja_cons (o1 := .val _) (j_var (pv 2)) (ja_cons (o1 := .val _) j_int (ja_cons (o1 := .val _) (j_bin op_sub s_sub (j_var (pv 0)) j_int) ja_nil))))) (by decide)) ja_nil)) (j_one (j_cmp (op_eqD hr.units) s_eq (nomark _) (j_lenSet T.z_len T.z_set rfl (j_var (pv 1))) j_int))))
      ss_nil))
abbrev l_led_round_1 : Sv := (sSeq (sStore 2 (fVar 3) (fVar 4))
    sNil)
def b_led_round : Sv := (sSeq (sAsg (bNm 2) (fLRg false (fVar 0)))
    (sSeq (sFor (iZip [(fVar 1), (fN gAdd [(.val (fSl (fVar 1) (some (fK (.int 1))) none)), (.val (fSl (fVar 1) none (some (fK (.int 1)))))])]) (bTp (bCons (bNm 3) (bCons (bNm 4) bNil))) l_led_round_1)
    (sSeq (sRet (fN gTuple [(.slot 2)]))
    sNil)))
def h_led_round : List D → Rf := runB 5 [] b_led_round
theorem ok_led_round (T : Txt K mg cl) : FnD P w K mg base cl "led_round" 1 2 [] h_led_round := by
  obtain ⟨f, fd, gm, F, hb⟩ := T.F_led_round
  refine def_ok (k := 0) F sc_led_round gm hb (by decide) (by decide) (by decide) fun cdv A outer s H E hr tk hp => ?_
  have nd : N_led_round.Nodup := by decide +kernel
  exact (ss_cons (s_set (i := 2) nd (j_listRg rfl T.z_list T.z_range (j_var (pv 0))))
      (ss_cons (s_for hp rfl (i_zip T.z_zip (ja_cons (o1 := .val _) (j_var (pv 1)) (ja_cons (o1 := .val _) (j_bin op_addAll s_add (j_sl (j_var (pv 1)) (part_some j_int) part_none) (j_sl (j_var (pv 1)) part_none (part_some j_int))) ja_nil))) (g_tp (n := 2) rfl (gs_cons (g_nm nd (i := 3)) (gs_cons (g_nm nd (i := 4)) gs_nil)) (fun _ _ _ z => bCons_len (fun _ _ _ z => bCons_len (fun _ _ _ z => bNil_len z) z) z))
      (ss_cons (s_store (i := 2) (pg_sub (pv 2) (j_var (pv 3)) set_list) (j_var (pv 4)))
      ss_nil))
      (ss_cons (s_ret (j_callTy call_tupleF s_tuple T.z_tuple (by decide +kernel) (ja_cons (pv 2) ja_nil)))
      ss_nil)))
abbrev c_undone_1 : Ev := (fCall [] h_turned_back [(.val (fVar 3))])
abbrev c_undone_2 : Ev := (fTup [(fVar 1), (fN gTuple [(.val (fComp [3] (iSeq (fVar 2)) (bNm 3) bTrue c_undone_1))])])
def b_undone : Sv := (sSeq (sRet (fComp [1, 2] (iSeq (fRev (fVar 0))) (bTp (bCons (bNm 1) (bCons (bNm 2) bNil))) bTrue c_undone_2))
    sNil)
def h_undone : List D → Rf := runB 4 [] b_undone
theorem ok_undone (T : Txt K mg cl) : FnD P w K mg base cl "undone" 2 1 [] h_undone := by
  obtain ⟨f, fd, gm, F, hb⟩ := T.F_undone
  refine def_ok (k := 1) F sc_undone gm hb (by decide) (by decide) (by decide) fun cdv A outer s H E hr tk hp => ?_
  have nd : N_undone.Nodup := by decide +kernel
  exact (ss_cons (s_ret (j_comp (own := [("lot", 1), ("maps", 2)]) rfl nd (i_seq (j_rev (j_var (pv 0)))) (blkOk_by (own := [("lot", 1), ("maps", 2)]) (N := N_undone) (sc := defScope s_undone) (by decide +kernel)) (fun _ _ _ _ _ => (g_tp (n := 2) rfl (gs_cons (g_nm nd (i := 1)) (gs_cons (g_nm nd (i := 2)) gs_nil)) (fun _ _ _ z => bCons_len (fun _ _ _ z => bCons_len (fun _ _ _ z => bNil_len z) z) z))) (fun _ _ _ _ _ => c_nil) (fun _ _ _ _ _ => (j_tup (fs := [(fVar 1), (fN gTuple [(.val (fComp [3] (iSeq (fVar 2)) (bNm 3) bTrue c_undone_1))])]) (ja_cons (o1 := .val _) (j_var (pv 1)) (ja_cons (o1 := .val _) (j_callTy call_tupleF s_tuple T.z_tuple (by decide +kernel) (ja_cons (j_comp (own := [("one", 3)]) rfl nd (i_seq (j_var (pv 2))) (blkOk_by (own := [("one", 3)]) (N := N_undone) (sc := relS _ (defScope s_undone)) (by decide +kernel)) (fun _ _ _ _ _ => (g_nm nd (i := 3))) (fun _ _ _ _ _ => c_nil) (fun _ _ _ _ _ => (j_call (ok_turned_back T) takes0 hr (by decide) rfl (ja_cons (o1 := .val _) (j_var (pv 3)) ja_nil))) (by decide)) ja_nil)) ja_nil)))) (by decide)))
      ss_nil)
abbrev l_round_looks_1 : Sv := (sSeq (sAsg (bNm 8) (fCall [] h_one_look [(.val (fVar 0)), (.val (fTup [(fVar 7)])), (.val (fSl (fVar 1) (some (fVar 7)) (some (fN gAdd [(.val (fVar 7)), (.val (fK (.int 1)))])))), (.val (fVar 6)), (.val (fVar 4))]))
    (sSeq (sAsg (bNm 5) (fN gAdd [(.val (fN gAdd [(.val (fN gAdd [(.val (fCall [] h_undone [(.val (fVar 5))])), (.val (fLst [(fVar 8)]))])), (.val (fVar 5))])), (.val (fLst [(fVar 8)]))]))
    sNil))
def b_round_looks : Sv := (sSeq (sAsg (bNm 4) (fLRg true (fVar 2)))
    (sSeq (sAsg (bNm 5) (fLst [(fCall [] h_one_look [(.val (fVar 0)), (.val (fTup [(fK (.int 0))])), (.val (fSl (fVar 1) none (some (fK (.int 1))))), (.val (fCall [] h_led_round [(.val (fVar 2)), (.val (fVar 3))])), (.val (fVar 4))])]))
    (sSeq (sAsg (bNm 6) (fCall [] h_led_round [(.val (fVar 2)), (.val (fSl (fVar 3) (some (fK (.int 1))) none))]))
    (sSeq (sFor (iRng [(fK (.int 1)), (fN gLen [(.val (fVar 0))])]) (bNm 7) l_round_looks_1)
    (sSeq (sRet (fMove 5))
    sNil)))))
def h_round_looks : List D → Rf := runB 9 [] b_round_looks
theorem ok_round_looks (T : Txt K mg cl) : FnD P w K mg base cl "round_looks" 4 4 [] h_round_looks := by
  obtain ⟨f, fd, gm, F, hb⟩ := T.F_round_looks
  refine def_ok (k := 3) F sc_round_looks gm hb (by decide) (by decide) (by decide) fun cdv A outer s H E hr tk hp => ?_
  have nd : N_round_looks.Nodup := by decide +kernel
  exact (ss_cons (s_set (i := 4) nd (j_tupRg rfl T.z_tuple T.z_range (j_var (pv 2))))
      (ss_cons (s_set (i := 5) nd (j_lst (fs := [(fCall [] h_one_look [(.val (fVar 0)), (.val (fTup [(fK (.int 0))])), (.val (fSl (fVar 1) none (some (fK (.int 1))))), (.val (fCall [] h_led_round [(.val (fVar 2)), (.val (fVar 3))])), (.val (fVar 4))])]) (ja_cons (o1 := .val _) (j_call (ok_one_look T) tk hr (by decide) rfl (ja_cons (o1 := .val _) (j_var (pv 0)) (ja_cons (o1 := .val _) (j_tup (fs := [(fK (.int 0))]) (ja_cons (o1 := .val _) j_int ja_nil)) (ja_cons (o1 := .val _) (j_sl (j_var (pv 1)) part_none (part_some j_int)) (ja_cons (o1 := .val _) (j_call (ok_led_round T) tk hr (by decide) rfl (ja_cons (o1 := .val _) (j_var (pv 2)) (ja_cons (o1 := .val _) (j_var (pv 3)) ja_nil))) (ja_cons (o1 := .val _) (j_var (pv 4)) ja_nil)))))) ja_nil)))
      (ss_cons (s_set (i := 6) nd (j_call (ok_led_round T) tk hr (by decide) rfl (ja_cons (o1 := .val _) (j_var (pv 2)) (ja_cons (o1 := .val _) (j_sl (j_var (pv 3)) (part_some j_int) part_none) ja_nil))))
      (ss_cons (s_for hp rfl (i_rng2 T.z_range (ja_cons (o1 := .val _) j_int (ja_cons (o1 := .val _) (j_callB cr_len s_len T.z_len (by decide +kernel) (ja_cons (j_var (pv 0)) ja_nil)) ja_nil))) (g_nm nd (i := 7))
      (ss_cons (s_set (i := 8) nd (j_call (ok_one_look T) tk hr (by decide) rfl (ja_cons (o1 := .val _) (j_var (pv 0)) (ja_cons (o1 := .val _) (j_tup (fs := [(fVar 7)]) (ja_cons (o1 := .val _) (j_var (pv 7)) ja_nil)) (ja_cons (o1 := .val _) (j_sl (j_var (pv 1)) (part_some (j_var (pv 7))) (part_some (j_bin op_addAll s_add (j_var (pv 7)) j_int))) (ja_cons (o1 := .val _) (j_var (pv 6)) (ja_cons (o1 := .val _) (j_var (pv 4)) ja_nil)))))))
      (ss_cons (s_set (i := 5) nd (j_bin op_addAll s_add (j_bin op_addAll s_add (j_bin op_addAll s_add (j_call (ok_undone T) tk hr (by decide) rfl (ja_cons (o1 := .val _) (j_var (pv 5)) ja_nil)) (j_lst (fs := [(fVar 8)]) (ja_cons (o1 := .val _) (j_var (pv 8)) ja_nil))) (j_var (pv 5))) (j_lst (fs := [(fVar 8)]) (ja_cons (o1 := .val _) (j_var (pv 8)) ja_nil))))
      ss_nil)))
      (ss_cons (s_ret (j_move (pv 5)))
      ss_nil)))))
def b_check_standings : Sv := (sSeq (sIf (bNot (bE (fCall [] h_is_within [(.val (fVar 0)), (.val (fN gMax2 [(.val (fK (.int 3))), (.val (fVar 1))])), (.val (fK (.int 8)))]))) (sSeq sNever
    sNil) sNil)
    sNil)
def h_check_standings : List D → Rf := runB 2 [] b_check_standings
theorem ok_check_standings (T : Txt K mg cl) : FnD P w K mg base cl "check_standings" 3 2 [] h_check_standings := by
  obtain ⟨f, fd, gm, F, hb⟩ := T.F_check_standings
  refine def_ok (k := 2) F sc_check_standings gm hb (by decide) (by decide) (by decide) fun cdv A outer s H E hr tk hp => ?_
  have nd : N_check_standings.Nodup := by decide +kernel
  exact (ss_cons (s_if (t_not (t_e (j_call (ok_is_within T) tk hr (by decide) rfl (ja_cons (o1 := .val _) (j_var (pv 0)) (ja_cons (o1 := .val _) (j_callB (call_max2 rfl) s_max2 T.z_max (by decide +kernel) (ja_cons (j_gint T.c_LEAST_STANDINGS.choose_spec) (ja_cons (j_var (pv 1)) ja_nil))) (ja_cons (o1 := .val _) (j_gint T.c_MOST_STANDINGS.choose_spec) ja_nil)))))) (ss_cons s_never
      ss_nil) ss_nil)
      ss_nil)
def b_round_row : Sv := (sSeq (sExpr (fCall [] h_check_sizes [(.val (fVar 0))]))
    (sSeq (sExpr (fCall [] h_check_content [(.val (fVar 0)), (.val (fVar 1))]))
    (sSeq (sExpr (fCall [] h_check_standings [(.val (fVar 2)), (.val (fK (.int 0)))]))
    (sSeq (sIf (bNot (bE (fCall [] h_is_round [(.val (fVar 2)), (.val (fVar 3))]))) (sSeq sNever
    sNil) sNil)
    (sSeq (sRet (fCall [] h_raw_row [(.val (fVar 0)), (.val (fVar 2)), (.val (fCall [] h_round_looks [(.val (fVar 0)), (.val (fVar 1)), (.val (fVar 2)), (.val (fVar 3))]))]))
    sNil)))))
def h_round_row : List D → Rf := runB 4 [] b_round_row
theorem ok_round_row (T : Txt K mg cl) : FnD P w K mg base cl "round_row" 8 4 [] h_round_row := by
  obtain ⟨f, fd, gm, F, hb⟩ := T.F_round_row
  refine def_ok (k := 7) F sc_round_row gm hb (by decide) (by decide) (by decide) fun cdv A outer s H E hr tk hp => ?_
  have nd : N_round_row.Nodup := by decide +kernel
  exact (ss_cons (s_expr (j_call (ok_check_sizes T) tk hr (by decide) rfl (ja_cons (o1 := .val _) (j_var (pv 0)) ja_nil)))
      (ss_cons (s_expr (j_call (ok_check_content T) tk hr (by decide) rfl (ja_cons (o1 := .val _) (j_var (pv 0)) (ja_cons (o1 := .val _) (j_var (pv 1)) ja_nil))))
      (ss_cons (s_expr (j_call (ok_check_standings T) tk hr (by decide) rfl (ja_cons (o1 := .val _) (j_var (pv 2)) (ja_cons (o1 := .val _) j_int ja_nil))))
      (ss_cons (s_if (t_not (t_e (j_call (ok_is_round T) tk hr (by decide) rfl (ja_cons (o1 := .val _) (j_var (pv 2)) (ja_cons (o1 := .val _) (j_var (pv 3)) ja_nil))))) (ss_cons s_never
      ss_nil) ss_nil)
      (ss_cons (s_ret (j_call (ok_raw_row T) tk hr (by decide) rfl (ja_cons (o1 := .val _) (j_var (pv 0)) (ja_cons (o1 := .val _) (j_var (pv 2)) (ja_cons (o1 := .val _) (j_call (ok_round_looks T) tk hr (by decide) rfl (ja_cons (o1 := .val _) (j_var (pv 0)) (ja_cons (o1 := .val _) (j_var (pv 1)) (ja_cons (o1 := .val _) (j_var (pv 2)) (ja_cons (o1 := .val _) (j_var (pv 3)) ja_nil))))) ja_nil)))))
      ss_nil)))))
def b__law_tape : Sv := (sSeq (sRet (fLst [(fFrz (fN gList [(.val (fVar 0))])), (fK (.int 0)), (fK (.int 0)), (fK (.int 1)), (fK (.int 0))]))
    sNil)
def h__law_tape : List D → Rf := runB 1 [] b__law_tape
theorem ok__law_tape (T : Txt K mg cl) : FnD P w K mg base cl "_law_tape" 1 1 [] h__law_tape := by
  obtain ⟨f, fd, gm, F, hb⟩ := T.F__law_tape
  refine def_ok (k := 0) F sc__law_tape gm hb (by decide) (by decide) (by decide) fun cdv A outer s H E hr tk hp => ?_
  have nd : N__law_tape.Nodup := by decide +kernel
  exact (ss_cons (s_ret (j_lst (fs := [(fFrz (fN gList [(.val (fVar 0))])), (fK (.int 0)), (fK (.int 0)), (fK (.int 1)), (fK (.int 0))]) (ja_cons (o1 := .val _) (j_frz (j_callTy call_list_of s_list T.z_list (by decide +kernel) (ja_cons (j_var (pv 0)) ja_nil))) (ja_cons (o1 := .val _) j_int (ja_cons (o1 := .val _) j_int (ja_cons (o1 := .val _) j_int (ja_cons (o1 := .val _) j_int ja_nil)))))))
      ss_nil)
def b__law_pick : Sv := (sSeq (sIf (bE (fN gGt [(.val (fN gIx [(.slot 0), (.val (fK (.int 2)))])), (.val (fK (.int 1)))])) (sSeq (sAsg (bNm 2) (fN gMod [(.val (fN gIntC [(.val (fN gIx [(.slot 0), (.val (fK (.int 2)))]))])), (.val (fVar 1))]))
    (sSeq (sStore 0 (fK (.int 2)) (fN gFdiv [(.val (fN gIx [(.slot 0), (.val (fK (.int 2)))])), (.val (fVar 1))]))
    (sSeq (sRet (fMove 2))
    sNil))) sNil)
    (sSeq (sStore 0 (fK (.int 4)) (fN gAdd [(.val (fN gIx [(.slot 0), (.val (fK (.int 4)))])), (.val (fK (.int 1)))]))
    (sSeq (sAsg (bNm 3) (fK (.int 0)))
    (sSeq (sIf (bE (fN gLt [(.val (fN gIx [(.slot 0), (.val (fK (.int 1)))])), (.val (fN gLen [(.val (fN gIx [(.slot 0), (.val (fK (.int 0)))]))]))])) (sSeq (sAsg (bNm 3) (fN gAbs [(.val (fN gIntC [(.val (fN gIx [(.val (fN gIx [(.slot 0), (.val (fK (.int 0)))])), (.val (fN gIx [(.slot 0), (.val (fK (.int 1)))]))]))]))]))
    (sSeq (sStore 0 (fK (.int 1)) (fN gAdd [(.val (fN gIx [(.slot 0), (.val (fK (.int 1)))])), (.val (fK (.int 1)))]))
    sNil)) sNil)
    (sSeq (sIf (bE (fN gGe [(.val (fVar 3)), (.val (fN gPow [(.val (fK (.int 10))), (.val (fK (.int 18)))]))])) (sSeq (sStore 0 (fK (.int 2)) (fN gFdiv [(.val (fVar 3)), (.val (fVar 1))]))
    (sSeq (sRet (fN gMod [(.val (fN gIntC [(.val (fVar 3))])), (.val (fVar 1))]))
    sNil)) sNil)
    (sSeq (sAsg (bNm 4) (fN gMod [(.val (fN gIntC [(.val (fN gAdd [(.val (fN gAdd [(.val (fN gMul [(.val (fN gIx [(.slot 0), (.val (fK (.int 3)))])), (.val (fK (.int 48271)))])), (.val (fN gMod [(.val (fN gIntC [(.val (fVar 3))])), (.val (fK (.int 2147483629)))]))])), (.val (fN gMul [(.val (fN gIx [(.slot 0), (.val (fK (.int 4)))])), (.val (fK (.int 69621)))]))]))])), (.val (fK (.int 2147483647)))]))
    (sSeq (sAsg (bNm 4) (fN gMod [(.val (fN gIntC [(.val (fN gMul [(.val (fVar 4)), (.val (fN gAdd [(.val (fN gFdiv [(.val (fVar 4)), (.val (fK (.int 1009)))])), (.val (fK (.int 40692)))]))]))])), (.val (fK (.int 2147483399)))]))
    (sSeq (sStore 0 (fK (.int 3)) (fVar 4))
    (sSeq (sRet (fN gMod [(.val (fN gIntC [(.val (fN gFdiv [(.val (fVar 4)), (.val (fK (.int 16)))]))])), (.val (fVar 1))]))
    sNil)))))))))
def h__law_pick : List D → Rf := runB 5 [0] b__law_pick
theorem ok__law_pick (T : Txt K mg cl) : FnD P w K mg base cl "_law_pick" 1 2 [0] h__law_pick := by
  obtain ⟨f, fd, gm, F, hb⟩ := T.F__law_pick
  refine def_ok (k := 0) F sc__law_pick gm hb (by decide) (by decide) (by decide) fun cdv A outer s H E hr tk hp => ?_
  have nd : N__law_pick.Nodup := by decide +kernel
  exact (ss_cons (s_if (t_cmp op_gtA s_gt (fun _ _ z => cmp_bl z) (nomark _) (j_ix ix_seq s_ix (fun _ _ => rfl) (pv 0) j_int) j_int) (ss_cons (s_set (i := 2) nd (j_bin op_modN s_mod (j_callTy call_int1 s_intC T.z_int (by decide +kernel) (ja_cons (j_ix ix_seq s_ix (fun _ _ => rfl) (pv 0) j_int) ja_nil)) (j_var (pv 1))))
      (ss_cons (s_store (i := 0) (pg_sub (pv 0) j_int set_list) (j_bin op_fdivN s_fdiv (j_ix ix_seq s_ix (fun _ _ => rfl) (pv 0) j_int) (j_var (pv 1))))
      (ss_cons (s_ret (j_move (pv 2)))
      ss_nil))) ss_nil)
      (ss_cons (s_store (i := 0) (pg_sub (pv 0) j_int set_list) (j_bin op_addAll s_add (j_ix ix_seq s_ix (fun _ _ => rfl) (pv 0) j_int) j_int))
      (ss_cons (s_set (i := 3) nd j_int)
      (ss_cons (s_if (t_cmp op_ltA s_lt (fun _ _ z => cmp_bl z) (nomark _) (j_ix ix_seq s_ix (fun _ _ => rfl) (pv 0) j_int) (j_callB cr_len s_len T.z_len (by decide +kernel) (ja_cons (j_ix ix_seq s_ix (fun _ _ => rfl) (pv 0) j_int) ja_nil))) (ss_cons (s_set (i := 3) nd (j_callB call_abs s_abs T.z_abs (by decide +kernel) (ja_cons (j_callTy call_int1 s_intC T.z_int (by decide +kernel) (ja_cons (j_ix ix_seq s_ix (fun _ _ => rfl) (j_ix ix_seq s_ix (fun _ _ => rfl) (pv 0) j_int) (j_ix ix_seq s_ix (fun _ _ => rfl) (pv 0) j_int)) ja_nil)) ja_nil)))
      (ss_cons (s_store (i := 0) (pg_sub (pv 0) j_int set_list) (j_bin op_addAll s_add (j_ix ix_seq s_ix (fun _ _ => rfl) (pv 0) j_int) j_int))
      ss_nil)) ss_nil)
      (ss_cons (s_if (t_cmp op_geA s_ge (fun _ _ z => cmp_bl z) (nomark _) (j_var (pv 3)) (j_bin op_pow s_pow j_int j_int)) (ss_cons (s_store (i := 0) (pg_sub (pv 0) j_int set_list) (j_bin op_fdivN s_fdiv (j_var (pv 3)) (j_var (pv 1))))
      (ss_cons (s_ret (j_bin op_modN s_mod (j_callTy call_int1 s_intC T.z_int (by decide +kernel) (ja_cons (j_var (pv 3)) ja_nil)) (j_var (pv 1))))
      ss_nil)) ss_nil)
      (ss_cons (s_set (i := 4) nd (j_bin op_modN s_mod (j_callTy call_int1 s_intC T.z_int (by decide +kernel) (ja_cons (j_bin op_addAll s_add (j_bin op_addAll s_add (j_bin op_mulAll s_mul (j_ix ix_seq s_ix (fun _ _ => rfl) (pv 0) j_int) j_int) (j_bin op_modN s_mod (j_callTy call_int1 s_intC T.z_int (by decide +kernel) (ja_cons (j_var (pv 3)) ja_nil)) j_int)) (j_bin op_mulAll s_mul (j_ix ix_seq s_ix (fun _ _ => rfl) (pv 0) j_int) j_int)) ja_nil)) j_int))
      (ss_cons (s_set (i := 4) nd (j_bin op_modN s_mod (j_callTy call_int1 s_intC T.z_int (by decide +kernel) (ja_cons (j_bin op_mulAll s_mul (j_var (pv 4)) (j_bin op_addAll s_add (j_bin op_fdivN s_fdiv (j_var (pv 4)) j_int) j_int)) ja_nil)) j_int))
      (ss_cons (s_store (i := 0) (pg_sub (pv 0) j_int set_list) (j_var (pv 4)))
      (ss_cons (s_ret (j_bin op_modN s_mod (j_callTy call_int1 s_intC T.z_int (by decide +kernel) (ja_cons (j_bin op_fdivN s_fdiv (j_var (pv 4)) j_int) ja_nil)) (j_var (pv 1))))
      ss_nil)))))))))
def b__law_any : Sv := (sSeq (sRet (fN gIx [(.val (fVar 1)), (.val (fCall [0] h__law_pick [(.slot 0), (.val (fN gLen [(.val (fVar 1))]))]))]))
    sNil)
def h__law_any : List D → Rf := runB 2 [0] b__law_any
theorem ok__law_any (T : Txt K mg cl) : FnD P w K mg base cl "_law_any" 2 2 [0] h__law_any := by
  obtain ⟨f, fd, gm, F, hb⟩ := T.F__law_any
  refine def_ok (k := 1) F sc__law_any gm hb (by decide) (by decide) (by decide) fun cdv A outer s H E hr tk hp => ?_
  have nd : N__law_any.Nodup := by decide +kernel
  exact (ss_cons (s_ret (j_ix ix_seq s_ix (fun _ _ => rfl) (j_var (pv 1)) (j_call (ok__law_pick T) tk hr (by decide) rfl (ja_cons (o1 := .slot _) (pv 0) (ja_cons (o1 := .val _) (j_callB cr_len s_len T.z_len (by decide +kernel) (ja_cons (j_var (pv 1)) ja_nil)) ja_nil)))))
      ss_nil)
abbrev c__law_mixed_1 : Ev := (fMt1 2 gPopAt (fCall [0] h__law_pick [(.slot 0), (.val (fN gLen [(.slot 2)]))]))
def b__law_mixed : Sv := (sSeq (sAsg (bNm 2) (fN gList [(.val (fVar 1))]))
    (sSeq (sRet (fComp [3] (iRng [(fN gLen [(.val (fVar 1))])]) (bNm 3) bTrue c__law_mixed_1))
    sNil))
def h__law_mixed : List D → Rf := runB 4 [0] b__law_mixed
theorem ok__law_mixed (T : Txt K mg cl) : FnD P w K mg base cl "_law_mixed" 2 2 [0] h__law_mixed := by
  obtain ⟨f, fd, gm, F, hb⟩ := T.F__law_mixed
  refine def_ok (k := 1) F sc__law_mixed gm hb (by decide) (by decide) (by decide) fun cdv A outer s H E hr tk hp => ?_
  have nd : N__law_mixed.Nodup := by decide +kernel
  exact (ss_cons (s_set (i := 2) nd (j_callTy call_list_of s_list T.z_list (by decide +kernel) (ja_cons (j_var (pv 1)) ja_nil)))
      (ss_cons (s_ret (j_comp (own := [("at", 3)]) rfl nd (i_rng1 T.z_range (ja_cons (o1 := .val _) (j_callB cr_len s_len T.z_len (by decide +kernel) (ja_cons (j_var (pv 1)) ja_nil)) ja_nil)) (blkOk_by (own := [("at", 3)]) (N := N__law_mixed) (sc := defScope s__law_mixed) (by decide +kernel)) (fun _ _ _ _ _ => (g_nm nd (i := 3))) (fun _ _ _ _ _ => c_nil) (fun _ _ _ _ _ => (j_popAt (pv 2) (ja_cons (o1 := .val _) (j_call (ok__law_pick T) takes0 hr (by decide) rfl (ja_cons (o1 := .slot _) (pv 0) (ja_cons (o1 := .val _) (j_callB cr_len s_len T.z_len (by decide +kernel) (ja_cons (pv 2) ja_nil)) ja_nil))) ja_nil))) (by decide)))
      ss_nil))
abbrev c__law_contents_1 : Ev := (fN gAdd [(.val (fVar 4)), (.val (fTup [(fVar 5)]))])
abbrev l__law_contents_1 : Sv := (sSeq (sExpr (fMt1 3 gExtend (fComp [5] (iRng [(fVar 2)]) (bNm 5) bTrue c__law_contents_1)))
    sNil)
abbrev l__law_contents_2 : Sv := (sSeq (sAsg (bNm 3) (fLst []))
    (sSeq (sFor (iSeq (fVar 1)) (bNm 4) l__law_contents_1)
    (sSeq (sAsg (bNm 1) (fVar 3))
    sNil)))
def b__law_contents : Sv := (sSeq (sAsg (bNm 1) (fLst [(fTup [])]))
    (sSeq (sFor (iSeq (fVar 0)) (bNm 2) l__law_contents_2)
    (sSeq (sRet (fMove 1))
    sNil)))
def h__law_contents : List D → Rf := runB 6 [] b__law_contents
theorem ok__law_contents (T : Txt K mg cl) : FnD P w K mg base cl "_law_contents" 1 1 [] h__law_contents := by
  obtain ⟨f, fd, gm, F, hb⟩ := T.F__law_contents
  refine def_ok (k := 0) F sc__law_contents gm hb (by decide) (by decide) (by decide) fun cdv A outer s H E hr tk hp => ?_
  have nd : N__law_contents.Nodup := by decide +kernel
  exact (ss_cons (s_set (i := 1) nd (j_lst (fs := [(fTup [])]) (ja_cons (o1 := .val _) (j_tup (fs := []) ja_nil) ja_nil)))
      (ss_cons (s_for hp rfl (i_seq (j_var (pv 0))) (g_nm nd (i := 2))
      (ss_cons (s_set (i := 3) nd (j_lst (fs := []) ja_nil))
      (ss_cons (s_for hp rfl (i_seq (j_var (pv 1))) (g_nm nd (i := 4))
      (ss_cons (s_expr (j_extend (pv 3) (ja_cons (o1 := .val _) (j_comp (own := [("worth", 5)]) rfl nd (i_rng1 T.z_range (ja_cons (o1 := .val _) (j_var (pv 2)) ja_nil)) (blkOk_by (own := [("worth", 5)]) (N := N__law_contents) (sc := defScope s__law_contents) (by decide +kernel)) (fun _ _ _ _ _ => (g_nm nd (i := 5))) (fun _ _ _ _ _ => c_nil) (fun _ _ _ _ _ => (j_bin op_addAll s_add (j_var (pv 4)) (j_tup (fs := [(fVar 5)]) (ja_cons (o1 := .val _) (j_var (pv 5)) ja_nil)))) (by decide)) ja_nil)))
      ss_nil))
      (ss_cons (s_set (i := 1) nd (j_var (pv 3)))
      ss_nil))))
      (ss_cons (s_ret (j_move (pv 1)))
      ss_nil)))
abbrev c__law_joints_1 : Ev := (fN gIx [(.val (fVar 0)), (.val (fVar 2))])
def b__law_joints : Sv := (sSeq (sRet (fCall [] h__law_contents [(.val (fComp [2] (iSeq (fVar 1)) (bNm 2) bTrue c__law_joints_1))]))
    sNil)
def h__law_joints : List D → Rf := runB 3 [] b__law_joints
theorem ok__law_joints (T : Txt K mg cl) : FnD P w K mg base cl "_law_joints" 2 2 [] h__law_joints := by
  obtain ⟨f, fd, gm, F, hb⟩ := T.F__law_joints
  refine def_ok (k := 1) F sc__law_joints gm hb (by decide) (by decide) (by decide) fun cdv A outer s H E hr tk hp => ?_
  have nd : N__law_joints.Nodup := by decide +kernel
  exact (ss_cons (s_ret (j_call (ok__law_contents T) tk hr (by decide) rfl (ja_cons (o1 := .val _) (j_comp (own := [("pin", 2)]) rfl nd (i_seq (j_var (pv 1))) (blkOk_by (own := [("pin", 2)]) (N := N__law_joints) (sc := defScope s__law_joints) (by decide +kernel)) (fun _ _ _ _ _ => (g_nm nd (i := 2))) (fun _ _ _ _ _ => c_nil) (fun _ _ _ _ _ => (j_ix ix_seq s_ix (fun _ _ => rfl) (j_var (pv 0)) (j_var (pv 2)))) (by decide)) ja_nil)))
      ss_nil)
abbrev c__law_joint_1 : Ev := (fN gIx [(.val (fVar 1)), (.val (fVar 2))])
def b__law_joint : Sv := (sSeq (sRet (fN gTuple [(.val (fComp [2] (iSeq (fVar 0)) (bNm 2) bTrue c__law_joint_1))]))
    sNil)
def h__law_joint : List D → Rf := runB 3 [] b__law_joint
theorem ok__law_joint (T : Txt K mg cl) : FnD P w K mg base cl "_law_joint" 1 2 [] h__law_joint := by
  obtain ⟨f, fd, gm, F, hb⟩ := T.F__law_joint
  refine def_ok (k := 0) F sc__law_joint gm hb (by decide) (by decide) (by decide) fun cdv A outer s H E hr tk hp => ?_
  have nd : N__law_joint.Nodup := by decide +kernel
  exact (ss_cons (s_ret (j_callTy call_tupleF s_tuple T.z_tuple (by decide +kernel) (ja_cons (j_comp (own := [("pin", 2)]) rfl nd (i_seq (j_var (pv 0))) (blkOk_by (own := [("pin", 2)]) (N := N__law_joint) (sc := defScope s__law_joint) (by decide +kernel)) (fun _ _ _ _ _ => (g_nm nd (i := 2))) (fun _ _ _ _ _ => c_nil) (fun _ _ _ _ _ => (j_ix ix_seq s_ix (fun _ _ => rfl) (j_var (pv 1)) (j_var (pv 2)))) (by decide)) ja_nil)))
      ss_nil)
abbrev t__law_sizes_1 : EvB := (bE (fN gLe [(.val (fN gLen [(.val (fCall [] h__law_contents [(.val (fVar 3))]))])), (.val (fVar 1))]))
abbrev c__law_sizes_1 : Ev := (fVar 3)
def b__law_sizes : Sv := (sSeq (sAsg (bNm 2) (fLst [(fTup [(fK (.int 2))]), (fTup [(fK (.int 2)), (fK (.int 2))]), (fTup [(fK (.int 2)), (fK (.int 2))]), (fTup [(fK (.int 2)), (fK (.int 2)), (fK (.int 2))]), (fTup [(fK (.int 2)), (fK (.int 2)), (fK (.int 2))]), (fTup [(fK (.int 3)), (fK (.int 2))]), (fTup [(fK (.int 2)), (fK (.int 3))]), (fTup [(fK (.int 4)), (fK (.int 2))]), (fTup [(fK (.int 3)), (fK (.int 3))]), (fTup [(fK (.int 2)), (fK (.int 2)), (fK (.int 2)), (fK (.int 2))]), (fTup [(fK (.int 3)), (fK (.int 2)), (fK (.int 2))]), (fTup [(fK (.int 4)), (fK (.int 4))])]))
    (sSeq (sAsg (bNm 2) (fN gAdd [(.val (fVar 2)), (.val (fLst [(fTup [(fK (.int 2)), (fK (.int 2)), (fK (.int 2)), (fK (.int 2)), (fK (.int 2))]), (fTup [(fK (.int 3)), (fK (.int 3)), (fK (.int 3))]), (fTup [(fK (.int 2)), (fK (.int 2)), (fK (.int 2)), (fK (.int 2)), (fK (.int 2)), (fK (.int 2))]), (fTup [(fK (.int 4)), (fK (.int 2)), (fK (.int 3)), (fK (.int 2))])]))]))
    (sSeq (sRet (fCall [0] h__law_any [(.slot 0), (.val (fComp [3] (iSeq (fVar 2)) (bNm 3) t__law_sizes_1 c__law_sizes_1))]))
    sNil)))
def h__law_sizes : List D → Rf := runB 4 [0] b__law_sizes
theorem ok__law_sizes (T : Txt K mg cl) : FnD P w K mg base cl "_law_sizes" 3 2 [0] h__law_sizes := by
  obtain ⟨f, fd, gm, F, hb⟩ := T.F__law_sizes
  refine def_ok (k := 2) F sc__law_sizes gm hb (by decide) (by decide) (by decide) fun cdv A outer s H E hr tk hp => ?_
  have nd : N__law_sizes.Nodup := by decide +kernel
  exact (ss_cons (s_set (i := 2) nd (j_lst (fs := [(fTup [(fK (.int 2))]), (fTup [(fK (.int 2)), (fK (.int 2))]), (fTup [(fK (.int 2)), (fK (.int 2))]), (fTup [(fK (.int 2)), (fK (.int 2)), (fK (.int 2))]), (fTup [(fK (.int 2)), (fK (.int 2)), (fK (.int 2))]), (fTup [(fK (.int 3)), (fK (.int 2))]), (fTup [(fK (.int 2)), (fK (.int 3))]), (fTup [(fK (.int 4)), (fK (.int 2))]), (fTup [(fK (.int 3)), (fK (.int 3))]), (fTup [(fK (.int 2)), (fK (.int 2)), (fK (.int 2)), (fK (.int 2))]), (fTup [(fK (.int 3)), (fK (.int 2)), (fK (.int 2))]), (fTup [(fK (.int 4)), (fK (.int 4))])]) (ja_cons (o1 := .val _) (j_tup (fs := [(fK (.int 2))]) (ja_cons (o1 := .val _) j_int ja_nil)) (ja_cons (o1 := .val _) (j_tup (fs := [(fK (.int 2)), (fK (.int 2))]) (ja_cons (o1 := .val _) j_int (ja_cons (o1 := .val _) j_int ja_nil))) (ja_cons (o1 := .val _) (j_tup (fs := [(fK (.int 2)), (fK (.int 2))]) (ja_cons (o1 := .val _) j_int (ja_cons (o1 := .val _) j_int ja_nil))) (ja_cons (o1 := .val _) (j_tup (fs := [(fK (.int 2)), (fK (.int 2)), (fK (.int 2))]) (ja_cons (o1 := .val _) j_int (ja_cons (o1 := .val _) j_int (ja_cons (o1 := .val _) j_int ja_nil)))) (ja_cons (o1 := .val _) (j_tup (fs := [(fK (.int 2)), (fK (.int 2)), (fK (.int 2))]) (ja_cons (o1 := .val _) j_int (ja_cons (o1 := .val _) j_int (ja_cons (o1 := .val _) j_int ja_nil)))) (ja_cons (o1 := .val _) (j_tup (fs := [(fK (.int 3)), (fK (.int 2))]) (ja_cons (o1 := .val _) j_int (ja_cons (o1 := .val _) j_int ja_nil))) (ja_cons (o1 := .val _) (j_tup (fs := [(fK (.int 2)), (fK (.int 3))]) (ja_cons (o1 := .val _) j_int (ja_cons (o1 := .val _) j_int ja_nil))) (ja_cons (o1 := .val _) (j_tup (fs := [(fK (.int 4)), (fK (.int 2))]) (ja_cons (o1 := .val _) j_int (ja_cons (o1 := .val _) j_int ja_nil))) (ja_cons (o1 := .val _) (j_tup (fs := [(fK (.int 3)), (fK (.int 3))]) (ja_cons (o1 := .val _) j_int (ja_cons (o1 := .val _) j_int ja_nil))) (ja_cons (o1 := .val _) (j_tup (fs := [(fK (.int 2)), (fK (.int 2)), (fK (.int 2)), (fK (.int 2))]) (ja_cons (o1 := .val _) j_int (ja_cons (o1 := .val _) j_int (ja_cons (o1 := .val _) j_int (ja_cons (o1 := .val _) j_int ja_nil))))) (ja_cons (o1 := .val _) (j_tup (fs := [(fK (.int 3)), (fK (.int 2)), (fK (.int 2))]) (ja_cons (o1 := .val _) j_int (ja_cons (o1 := .val _) j_int (ja_cons (o1 := .val _) j_int ja_nil)))) (ja_cons (o1 := .val _) (j_tup (fs := [(fK (.int 4)), (fK (.int 4))]) (ja_cons (o1 := .val _) j_int (ja_cons (o1 := .val _) j_int ja_nil))) ja_nil))))))))))))))
      (ss_cons (s_set (i := 2) nd (j_bin op_addAll s_add (j_var (pv 2)) (j_lst (fs := [(fTup [(fK (.int 2)), (fK (.int 2)), (fK (.int 2)), (fK (.int 2)), (fK (.int 2))]), (fTup [(fK (.int 3)), (fK (.int 3)), (fK (.int 3))]), (fTup [(fK (.int 2)), (fK (.int 2)), (fK (.int 2)), (fK (.int 2)), (fK (.int 2)), (fK (.int 2))]), (fTup [(fK (.int 4)), (fK (.int 2)), (fK (.int 3)), (fK (.int 2))])]) (ja_cons (o1 := .val _) (j_tup (fs := [(fK (.int 2)), (fK (.int 2)), (fK (.int 2)), (fK (.int 2)), (fK (.int 2))]) (ja_cons (o1 := .val _) j_int (ja_cons (o1 := .val _) j_int (ja_cons (o1 := .val _) j_int (ja_cons (o1 := .val _) j_int (ja_cons (o1 := .val _) j_int ja_nil)))))) (ja_cons (o1 := .val _) (j_tup (fs := [(fK (.int 3)), (fK (.int 3)), (fK (.int 3))]) (ja_cons (o1 := .val _) j_int (ja_cons (o1 := .val _) j_int (ja_cons (o1 := .val _) j_int ja_nil)))) (ja_cons (o1 := .val _) (j_tup (fs := [(fK (.int 2)), (fK (.int 2)), (fK (.int 2)), (fK (.int 2)), (fK (.int 2)), (fK (.int 2))]) (ja_cons (o1 := .val _) j_int (ja_cons (o1 := .val _) j_int (ja_cons (o1 := .val _) j_int (ja_cons (o1 := .val _) j_int (ja_cons (o1 := .val _) j_int (ja_cons (o1 := .val _) j_int ja_nil))))))) (ja_cons (o1 := .val _) (j_tup (fs := [(fK (.int 4)), (fK (.int 2)), (fK (.int 3)), (fK (.int 2))]) (ja_cons (o1 := .val _) j_int (ja_cons (o1 := .val _) j_int (ja_cons (o1 := .val _) j_int (ja_cons (o1 := .val _) j_int ja_nil))))) ja_nil)))))))
      (ss_cons (s_ret (j_call (ok__law_any T) tk hr (by decide) rfl (ja_cons (o1 := .slot _) (pv 0) (ja_cons (o1 := .val _) (j_comp (own := [("sizes", 3)]) rfl nd (i_seq (j_var (pv 2))) (blkOk_by (own := [("sizes", 3)]) (N := N__law_sizes) (sc := defScope s__law_sizes) (by decide +kernel)) (fun _ _ _ _ _ => (g_nm nd (i := 3))) (fun _ _ _ _ _ => (c_one (t_cmp op_leA s_le (fun _ _ z => cmp_bl z) (nomark _) (j_callB cr_len s_len T.z_len (by decide +kernel) (ja_cons (j_call (ok__law_contents T) takes0 hr (by decide) rfl (ja_cons (o1 := .val _) (j_var (pv 3)) ja_nil)) ja_nil)) (j_var (pv 1))))) (fun _ _ _ _ _ => (j_var (pv 3))) (by decide)) ja_nil))))
      ss_nil)))
abbrev c__law_ends_1 : Ev := (fN gIx [(.val (fN gIxT [(.val (fVar 7)), (.val (fCall [] h__law_joint [(.val (fVar 5)), (.val (fVar 8))]))])), (.val (fVar 9))])
abbrev l__law_ends_1 : Sv := (sSeq (sAsg (bNm 7) (fN gDictT [(.val (fLZip (fCall [] h__law_joints [(.val (fVar 1)), (.val (fVar 5))]) (fVar 6)))]))
    (sSeq (sAsg (bNm 4) (fComp [8, 9] (iZip [(fVar 3), (fVar 4)]) (bTp (bCons (bNm 8) (bCons (bNm 9) bNil))) bTrue c__law_ends_1))
    sNil))
def b__law_ends : Sv := (sSeq (sAsg (bNm 3) (fCall [] h__law_contents [(.val (fVar 1))]))
    (sSeq (sAsg (bNm 4) (fN gMul [(.val (fLst [(fVar 2)])), (.val (fN gLen [(.val (fVar 3))]))]))
    (sSeq (sFor (iSeq (fVar 0)) (bTp (bCons (bNm 5) (bCons (bNm 6) bNil))) l__law_ends_1)
    (sSeq (sRet (fMove 4))
    sNil))))
def h__law_ends : List D → Rf := runB 10 [] b__law_ends
theorem ok__law_ends (T : Txt K mg cl) : FnD P w K mg base cl "_law_ends" 3 3 [] h__law_ends := by
  obtain ⟨f, fd, gm, F, hb⟩ := T.F__law_ends
  refine def_ok (k := 2) F sc__law_ends gm hb (by decide) (by decide) (by decide) fun cdv A outer s H E hr tk hp => ?_
  have nd : N__law_ends.Nodup := by decide +kernel
  exact (ss_cons (s_set (i := 3) nd (j_call (ok__law_contents T) tk hr (by decide) rfl (ja_cons (o1 := .val _) (j_var (pv 1)) ja_nil)))
      (ss_cons (s_set (i := 4) nd (j_bin op_mulAll s_mul (j_lst (fs := [(fVar 2)]) (ja_cons (o1 := .val _) (j_var (pv 2)) ja_nil)) (j_callB cr_len s_len T.z_len (by decide +kernel) (ja_cons (j_var (pv 3)) ja_nil))))
      (ss_cons (s_for hp rfl (i_seq (j_var (pv 0))) (g_tp (n := 2) rfl (gs_cons (g_nm nd (i := 5)) (gs_cons (g_nm nd (i := 6)) gs_nil)) (fun _ _ _ z => bCons_len (fun _ _ _ z => bCons_len (fun _ _ _ z => bNil_len z) z) z))
      (ss_cons (s_set (i := 7) nd (j_callTy (call_dictT rfl hr.units) s_dictT T.z_dict (by decide +kernel) (ja_cons (j_listZip rfl T.z_list T.z_zip (ja_cons (o1 := .val _) (j_call (ok__law_joints T) tk hr (by decide) rfl (ja_cons (o1 := .val _) (j_var (pv 1)) (ja_cons (o1 := .val _) (j_var (pv 5)) ja_nil))) (ja_cons (o1 := .val _) (j_var (pv 6)) ja_nil))) ja_nil)))
      (ss_cons (s_setLc (i := 4) (own := [("content", 8), ("standing", 9)]) rfl nd rfl rfl (sw_true rfl rfl rfl rfl) (i_zip T.z_zip (ja_cons (o1 := .val _) (j_var (pv 3)) (ja_cons (o1 := .val _) (j_var (pv 4)) ja_nil))) (blkOk_by (own := [("content", 8), ("standing", 9)]) (N := N__law_ends) (sc := defScope s__law_ends) (by decide +kernel)) (fun _ _ _ _ _ => (g_tp (n := 2) rfl (gs_cons (g_nm nd (i := 8)) (gs_cons (g_nm nd (i := 9)) gs_nil)) (fun _ _ _ z => bCons_len (fun _ _ _ z => bCons_len (fun _ _ _ z => bNil_len z) z) z))) (fun _ _ _ _ _ => c_nil) (fun _ _ _ _ _ => (j_ix ix_seq s_ix (fun _ _ => rfl) (j_ix (ix_dt hr.units) s_ixT (fun _ _ => rfl) (j_var (pv 7)) (j_call (ok__law_joint T) takes0 hr (by decide) rfl (ja_cons (o1 := .val _) (j_var (pv 5)) (ja_cons (o1 := .val _) (j_var (pv 8)) ja_nil)))) (j_var (pv 9)))) (by decide))
      ss_nil)))
      (ss_cons (s_ret (j_move (pv 4)))
      ss_nil))))
abbrev c__law_is_turning_1 : Ev := (fN gEq [(.val (fLenSet (fVar 3))), (.val (fN gLen [(.val (fVar 3))]))])
abbrev l__law_is_turning_1 : Sv := (sSeq (sIf (bNot (bE (fN gAll [(.val (fComp [3] (iSeq (fVar 2)) (bNm 3) bTrue c__law_is_turning_1))]))) (sSeq (sRet (fK (.bl false)))
    sNil) sNil)
    sNil)
def b__law_is_turning : Sv := (sSeq (sFor (iSeq (fVar 0)) (bTp (bCons (bNm 1) (bCons (bNm 2) bNil))) l__law_is_turning_1)
    (sSeq (sRet (fK (.bl true)))
    sNil))
def h__law_is_turning : List D → Rf := runB 4 [] b__law_is_turning
theorem ok__law_is_turning (T : Txt K mg cl) : FnD P w K mg base cl "_law_is_turning" 1 1 [] h__law_is_turning := by
  obtain ⟨f, fd, gm, F, hb⟩ := T.F__law_is_turning
  refine def_ok (k := 0) F sc__law_is_turning gm hb (by decide) (by decide) (by decide) fun cdv A outer s H E hr tk hp => ?_
  have nd : N__law_is_turning.Nodup := by decide +kernel
  exact (ss_cons (s_for hp rfl (i_seq (j_var (pv 0))) (g_tp (n := 2) rfl (gs_cons (g_nm nd (i := 1)) (gs_cons (g_nm nd (i := 2)) gs_nil)) (fun _ _ _ z => bCons_len (fun _ _ _ z => bCons_len (fun _ _ _ z => bNil_len z) z) z))
      (ss_cons (s_if (t_not (t_e (j_callB (cr_all rfl) s_all T.z_all (by decide +kernel) (ja_cons (j_comp (own := [("one", 3)]) rfl nd (i_seq (j_var (pv 2))) (blkOk_by (own := [("one", 3)]) (N := N__law_is_turning) (sc := defScope s__law_is_turning) (by decide +kernel)) (fun _ _ _ _ _ => (g_nm nd (i := 3))) (fun _ _ _ _ _ => c_nil) (fun _ _ _ _ _ => (j_cmp (op_eqD hr.units) s_eq (nomark _) (j_lenSet T.z_len T.z_set rfl (j_var (pv 3))) (j_callB cr_len s_len T.z_len (by decide +kernel) (ja_cons (j_var (pv 3)) ja_nil)))) (by decide)) ja_nil)))) (ss_cons (s_ret j_bl)
      ss_nil) ss_nil)
      ss_nil))
      (ss_cons (s_ret j_bl)
      ss_nil))
abbrev c_law_1 : Ev := (fN gEq [(.val (fN gLen [(.val (fVar 11))])), (.val (fK (.int 1)))])
abbrev l_law_1 : Sv := (sSeq (sAsg (bNm 10) (fN gMul [(.val (fLst [(fVar 9)])), (.val (fN gLen [(.val (fVar 8))]))]))
    (sSeq (sIf (bE (fN gIn [(.val (fVar 9)), (.val (fVar 6))])) (sSeq (sStore 10 (fIndex (fVar 8) (fVar 4)) (fN gIx [(.val (fN gAdd [(.val (fVar 6)), (.val (fSl (fVar 6) none (some (fK (.int 1)))))])), (.val (fN gAdd [(.val (fIndex (fVar 6) (fVar 9))), (.val (fK (.int 1)))]))]))
    sNil) sNil)
    (sSeq (sIf (bE (fN gNe [(.val (fCall [] h__law_ends [(.val (fN (gFld own_looks "looks") [(.val (fVar 7))])), (.val (fVar 3)), (.val (fVar 9))])), (.slot 10)])) (sSeq (sRet (fK (.bl false)))
    sNil) sNil)
    sNil)))
abbrev l_law_2 : Sv := (sSeq (sAsg (bNm 3) (fCall [0] h__law_sizes [(.slot 1), (.val (fN gIx [(.val (fLst [(fK (.int 8)), (fK (.int 8)), (fK (.int 9)), (fK (.int 16)), (fK (.int 32)), (fK (.int 64))])), (.val (fCall [0] h__law_pick [(.slot 1), (.val (fK (.int 6)))]))]))]))
    (sSeq (sAsg (bNm 4) (fCall [0] h__law_any [(.slot 1), (.val (fCall [] h__law_contents [(.val (fVar 3))]))]))
    (sSeq (sAsg (bNm 5) (fN gAdd [(.val (fK (.int 3))), (.val (fCall [0] h__law_pick [(.slot 1), (.val (fK (.int 6)))]))]))
    (sSeq (sAsg (bNm 6) (fN gTuple [(.val (fSl (fCall [0] h__law_mixed [(.slot 1), (.val (fLRg false (fVar 5)))]) none (some (fK (.int 3)))))]))
    (sSeq (sAsg (bNm 7) (fCall [] h_round_row [(.val (fVar 3)), (.val (fVar 4)), (.val (fVar 5)), (.val (fVar 6))]))
    (sSeq (sIf (bOr (bNot (bE (fN (gIsi isa) [(.val (fVar 7)), (.val (fK (.cl 0)))]))) (bE (fN gNe [(.val (fTup [(fN (gFld own_sizes "sizes") [(.val (fVar 7))]), (fN (gFld own_standings "standings") [(.val (fVar 7))])])), (.val (fTup [(fVar 3), (fVar 5)]))]))) (sSeq (sRet (fK (.bl false)))
    sNil) sNil)
    (sSeq (sIf (bOr (bNot (bE (fN gAll [(.val (fComp [11, 12] (iSeq (fN (gFld own_looks "looks") [(.val (fVar 7))])) (bTp (bCons (bNm 11) (bCons (bNm 12) bNil))) bTrue c_law_1))]))) (bNot (bE (fCall [] h__law_is_turning [(.val (fN (gFld own_looks "looks") [(.val (fVar 7))]))])))) (sSeq (sRet (fK (.bl false)))
    sNil) sNil)
    (sSeq (sIf (bE (fN gNe [(.val (fN gLen [(.val (fN (gFld own_looks "looks") [(.val (fVar 7))]))])), (.val (fN gIx [(.val (fLst [(fK (.int 1)), (fK (.int 4)), (fK (.int 10)), (fK (.int 22)), (fK (.int 46)), (fK (.int 94))])), (.val (fN gSub [(.val (fN gLen [(.val (fVar 3))])), (.val (fK (.int 1)))]))]))])) (sSeq (sRet (fK (.bl false)))
    sNil) sNil)
    (sSeq (sAsg (bNm 8) (fCall [] h__law_contents [(.val (fVar 3))]))
    (sSeq (sFor (iSeq (fN gAdd [(.val (fN gList [(.val (fVar 6))])), (.val (fLst [(fCall [0] h__law_pick [(.slot 1), (.val (fVar 5))])]))])) (bNm 9) l_law_1)
    sNil))))))))))
def b_law : Sv := (sSeq (sAsg (bNm 1) (fCall [] h__law_tape [(.val (fVar 0))]))
    (sSeq (sFor (iRng [(fK (.int 3))]) (bNm 2) l_law_2)
    (sSeq (sRet (fK (.bl true)))
    sNil)))
def h_law : List D → Rf := runB 13 [] b_law
theorem ok_law (T : Txt K mg cl) {f : Addr} {fd : FuncData} (F : Fun K "law" "law" s_law f fd) : FnOk P w K mg base (L2.CX P w) 9 f fd ["script"] (spD K cl 1 [] h_law) := by
  refine def_okF (k := 8) F sc_law (by decide) (by decide) (by decide) fun cdv A outer s H E hr tk hp => ?_
  have nd : N_law.Nodup := by decide +kernel
  exact (ss_cons (s_set (i := 1) nd (j_call (ok__law_tape T) tk hr (by decide) rfl (ja_cons (o1 := .val _) (j_var (pv 0)) ja_nil)))
      (ss_cons (s_for hp rfl (i_rng1 T.z_range (ja_cons (o1 := .val _) j_int ja_nil)) (g_nm nd (i := 2))
      (ss_cons (s_set (i := 3) nd (j_call (ok__law_sizes T) tk hr (by decide) rfl (ja_cons (o1 := .slot _) (pv 1) (ja_cons (o1 := .val _) (j_ix ix_seq s_ix (fun _ _ => rfl) (j_lst (fs := [(fK (.int 8)), (fK (.int 8)), (fK (.int 9)), (fK (.int 16)), (fK (.int 32)), (fK (.int 64))]) (ja_cons (o1 := .val _) j_int (ja_cons (o1 := .val _) j_int (ja_cons (o1 := .val _) j_int (ja_cons (o1 := .val _) j_int (ja_cons (o1 := .val _) j_int (ja_cons (o1 := .val _) j_int ja_nil))))))) (j_call (ok__law_pick T) tk hr (by decide) rfl (ja_cons (o1 := .slot _) (pv 1) (ja_cons (o1 := .val _) j_int ja_nil)))) ja_nil))))
      (ss_cons (s_set (i := 4) nd (j_call (ok__law_any T) tk hr (by decide) rfl (ja_cons (o1 := .slot _) (pv 1) (ja_cons (o1 := .val _) (j_call (ok__law_contents T) tk hr (by decide) rfl (ja_cons (o1 := .val _) (j_var (pv 3)) ja_nil)) ja_nil))))
      (ss_cons (s_set (i := 5) nd (j_bin op_addAll s_add j_int (j_call (ok__law_pick T) tk hr (by decide) rfl (ja_cons (o1 := .slot _) (pv 1) (ja_cons (o1 := .val _) j_int ja_nil)))))
      (ss_cons (s_set (i := 6) nd (j_callTy call_tupleF s_tuple T.z_tuple (by decide +kernel) (ja_cons (j_sl (j_call (ok__law_mixed T) tk hr (by decide) rfl (ja_cons (o1 := .slot _) (pv 1) (ja_cons (o1 := .val _) (j_listRg rfl T.z_list T.z_range (j_var (pv 5))) ja_nil))) part_none (part_some j_int)) ja_nil)))
      (ss_cons (s_set (i := 7) nd (j_call (ok_round_row T) tk hr (by decide) rfl (ja_cons (o1 := .val _) (j_var (pv 3)) (ja_cons (o1 := .val _) (j_var (pv 4)) (ja_cons (o1 := .val _) (j_var (pv 5)) (ja_cons (o1 := .val _) (j_var (pv 6)) ja_nil))))))
      (ss_cons (s_if (PW.pt (t_or (t_not (t_e (j_callB call_isi (s_isi T.isa) T.z_isinstance (by decide +kernel) (ja_cons (j_var (pv 7)) (ja_cons (j_cl (n := 0) T.k_Row) ja_nil))))) (t_or1 (t_cmp (op_neD hr.units) s_ne (fun _ _ z => ne_bl z) (nomark _) (j_tup (fs := [(fN (gFld own_sizes "sizes") [(.val (fVar 7))]), (fN (gFld own_standings "standings") [(.val (fVar 7))])]) (ja_cons (o1 := .val _) (j_fld T.f_sizes (j_var (pv 7))) (ja_cons (o1 := .val _) (j_fld T.f_standings (j_var (pv 7))) ja_nil))) (j_tup (fs := [(fVar 3), (fVar 5)]) (ja_cons (o1 := .val _) (j_var (pv 3)) (ja_cons (o1 := .val _) (j_var (pv 5)) ja_nil))))))) (ss_cons (s_ret j_bl)
      ss_nil) ss_nil)
      (ss_cons (s_if (PW.pt (t_or (t_not (t_e (j_callB (cr_all rfl) s_all T.z_all (by decide +kernel) (ja_cons (j_comp (own := [("lot", 11), ("maps", 12)]) rfl nd (i_seq (j_fld T.f_looks (j_var (pv 7)))) (blkOk_by (own := [("lot", 11), ("maps", 12)]) (N := N_law) (sc := defScope s_law) (by decide +kernel)) (fun _ _ _ _ _ => (g_tp (n := 2) rfl (gs_cons (g_nm nd (i := 11)) (gs_cons (g_nm nd (i := 12)) gs_nil)) (fun _ _ _ z => bCons_len (fun _ _ _ z => bCons_len (fun _ _ _ z => bNil_len z) z) z))) (fun _ _ _ _ _ => c_nil) (fun _ _ _ _ _ => (j_cmp (op_eqD hr.units) s_eq (nomark _) (j_callB cr_len s_len T.z_len (by decide +kernel) (ja_cons (j_var (pv 11)) ja_nil)) j_int)) (by decide)) ja_nil)))) (t_or1 (t_not (t_e (j_call (ok__law_is_turning T) tk hr (by decide) rfl (ja_cons (o1 := .val _) (j_fld T.f_looks (j_var (pv 7))) ja_nil))))))) (ss_cons (s_ret j_bl)
      ss_nil) ss_nil)
      (ss_cons (s_if (t_cmp (op_neD hr.units) s_ne (fun _ _ z => ne_bl z) (nomark _) (j_callB cr_len s_len T.z_len (by decide +kernel) (ja_cons (j_fld T.f_looks (j_var (pv 7))) ja_nil)) (j_ix ix_seq s_ix (fun _ _ => rfl) (j_lst (fs := [(fK (.int 1)), (fK (.int 4)), (fK (.int 10)), (fK (.int 22)), (fK (.int 46)), (fK (.int 94))]) (ja_cons (o1 := .val _) j_int (ja_cons (o1 := .val _) j_int (ja_cons (o1 := .val _) j_int (ja_cons (o1 := .val _) j_int (ja_cons (o1 := .val _) j_int (ja_cons (o1 := .val _) j_int ja_nil))))))) (j_bin op_sub s_sub (j_callB cr_len s_len T.z_len (by decide +kernel) (ja_cons (j_var (pv 3)) ja_nil)) j_int))) (ss_cons (s_ret j_bl)
      ss_nil) ss_nil)
      (ss_cons (s_set (i := 8) nd (j_call (ok__law_contents T) tk hr (by decide) rfl (ja_cons (o1 := .val _) (j_var (pv 3)) ja_nil)))
      (ss_cons (s_for hp rfl (i_seq (j_bin op_addAll s_add (j_callTy call_list_of s_list T.z_list (by decide +kernel) (ja_cons (j_var (pv 6)) ja_nil)) (j_lst (fs := [(fCall [0] h__law_pick [(.slot 1), (.val (fVar 5))])]) (ja_cons (o1 := .val _) (j_call (ok__law_pick T) tk hr (by decide) rfl (ja_cons (o1 := .slot _) (pv 1) (ja_cons (o1 := .val _) (j_var (pv 5)) ja_nil))) ja_nil)))) (g_nm nd (i := 9))
      (ss_cons (s_set (i := 10) nd (j_bin op_mulAll s_mul (j_lst (fs := [(fVar 9)]) (ja_cons (o1 := .val _) (j_var (pv 9)) ja_nil)) (j_callB cr_len s_len T.z_len (by decide +kernel) (ja_cons (j_var (pv 8)) ja_nil))))
      (ss_cons (s_if (t_cmp op_inA s_in (fun _ _ z => in_bl z) (by rfl) (j_var (pv 9)) (j_var (pv 6))) (ss_cons (s_store (i := 10) (pg_sub (pv 10) (j_index hr.units (j_var (pv 8)) (ja_cons (o1 := .val _) (j_var (pv 4)) ja_nil)) set_list) (j_ix ix_seq s_ix (fun _ _ => rfl) (j_bin op_addAll s_add (j_var (pv 6)) (j_sl (j_var (pv 6)) part_none (part_some j_int))) (j_bin op_addAll s_add (j_index hr.units (j_var (pv 6)) (ja_cons (o1 := .val _) (j_var (pv 9)) ja_nil)) j_int)))
      ss_nil) ss_nil)
      (ss_cons (s_if (t_cmp (op_neD hr.units) s_ne (fun _ _ z => ne_bl z) (nomark _) (j_call (ok__law_ends T) tk hr (by decide) rfl (ja_cons (o1 := .val _) (j_fld T.f_looks (j_var (pv 7))) (ja_cons (o1 := .val _) (j_var (pv 3)) (ja_cons (o1 := .val _) (j_var (pv 9)) ja_nil)))) (pv 10)) (ss_cons (s_ret j_bl)
      ss_nil) ss_nil)
      ss_nil))))
      ss_nil)))))))))))
      (ss_cons (s_ret j_bl)
      ss_nil)))
end K29
namespace K29
open PySem PySem.Spec PyProof.Rows L2 Tw
theorem int_ok (a : Int) : h_is_integer [.int a] = .ret (.bl true) [] := by
  simp only [h_is_integer, b_is_integer, isa_int_int, isa_int_bool, Tw.ev, List.replicate, ne_eq, reduceCtorEq, Nat.reduceAdd, Nat.reduceSub, Nat.reduceLT, Nat.reduceLeDiff, Int.reduceEq, Int.reduceNeg, Int.reduceLT, Int.reduceLE, Int.reduceAdd, Int.reduceMul, Int.reduceSub]
theorem within_ok (a b c : Int) : h_is_within [.int a, .int b, .int c] = .ret (.bl (decide (b ≤ a) && decide (a ≤ c))) [] := by
  simp only [h_is_within, b_is_within, int_ok, Tw.ev, List.replicate, ne_eq, reduceCtorEq, Nat.reduceAdd, Nat.reduceSub, Nat.reduceLT, Nat.reduceLeDiff, Int.reduceEq, Int.reduceNeg, Int.reduceLT, Int.reduceLE, Int.reduceAdd, Int.reduceMul, Int.reduceSub]
  by_cases h : b ≤ a <;> simp only [h, decide_true, decide_false]
  · simp only [Tw.ev, List.replicate, ne_eq, reduceCtorEq, Nat.reduceAdd, Nat.reduceSub, Nat.reduceLT, Nat.reduceLeDiff, Int.reduceEq, Int.reduceNeg, Int.reduceLT, Int.reduceLE, Int.reduceAdd, Int.reduceMul, Int.reduceSub]
  · simp only [Tw.ev, List.replicate, ne_eq, reduceCtorEq, Nat.reduceAdd, Nat.reduceSub, Nat.reduceLT, Nat.reduceLeDiff, Int.reduceEq, Int.reduceNeg, Int.reduceLT, Int.reduceLE, Int.reduceAdd, Int.reduceMul, Int.reduceSub]
def Sz (ns : List Int) : Prop := 1 ≤ ns.length ∧ ns.length ≤ 6 ∧ ∀ n ∈ ns, 2 ≤ n ∧ n ≤ 4
theorem check_sizes_ok {ns : List Int} (h : Sz ns) : h_check_sizes [.tup (ns.map .int)] = .ret .non [] := by
  obtain ⟨h1, h2, h3⟩ := h
  have c1 : (1 : Int) ≤ (ns.length : Int) := by omega
  have c2 : (ns.length : Int) ≤ 6 := by omega
  have l : lenOk ns.length = true := lenOk_of (by omega)
  have key : compGo [1] (bNm 1) bTrue (fCall [] h_is_within [.val (fVar 1), .val (fK (.int 2)), .val (fK (.int 4))]) (ns.map .int) [] [some (.tup (ns.map .int)), none] = .ok (ns.map fun _ => .bl true) [some (.tup (ns.map .int)), none] := by
    refine comp_map1 (fun _ => .bl true) ns fun x hx ds acc => ?_
    have a1 := (h3 x hx).1
    have a2 := (h3 x hx).2
    simp only [within_ok, a1, a2, Tw.ev, List.replicate, ne_eq, reduceCtorEq, Nat.reduceAdd, Nat.reduceSub, Nat.reduceLT, Nat.reduceLeDiff, Int.reduceEq, Int.reduceNeg, Int.reduceLT, Int.reduceLE, Int.reduceAdd, Int.reduceMul, Int.reduceSub]
  simp only [h_check_sizes, b_check_sizes, isa_tuple_tuple, c1, c2, l, key, bools_mapP, Tw.ev, List.replicate, ne_eq, reduceCtorEq, Nat.reduceAdd, Nat.reduceSub, Nat.reduceLT, Nat.reduceLeDiff, Int.reduceEq, Int.reduceNeg, Int.reduceLT, Int.reduceLE, Int.reduceAdd, Int.reduceMul, Int.reduceSub]
  have e : (ns.map fun _ => true).all id = true := by simp
  simp only [e, Tw.ev, List.replicate, ne_eq, reduceCtorEq, Nat.reduceAdd, Nat.reduceSub, Nat.reduceLT, Nat.reduceLeDiff, Int.reduceEq, Int.reduceNeg, Int.reduceLT, Int.reduceLE, Int.reduceAdd, Int.reduceMul, Int.reduceSub]
def grow (acc : List (List Int)) (s : Int) : List (List Int) := acc.flatMap fun row => (List.range s.toNat).map fun w : Nat => row ++ [(w : Int)]
def allOf (sizes : List Int) : List (List Int) := sizes.foldl grow [[]]
theorem grow_len {s : Int} (acc : List (List Int)) : (grow acc s).length = acc.length * s.toNat := by
  unfold grow
  induction acc with
  | nil => simp
  | cons a acc ih => rw [List.flatMap_cons, List.length_append, ih]; simp [Nat.add_mul, Nat.add_comm]
theorem row_ok {acc : List (List Int)} {s : Int} {row : List Int} (h : row ∈ grow acc s) : ∃ r ∈ acc, ∃ w : Int, row = r ++ [w] ∧ 0 ≤ w ∧ w < s := by
  unfold grow at h
  obtain ⟨r, hr, h2⟩ := List.mem_flatMap.mp h
  obtain ⟨w, hw, rfl⟩ := List.mem_map.mp h2
  have := List.mem_range.mp hw
  exact ⟨r, hr, w, rfl, by omega, by omega⟩
theorem allOf_app (a : List Int) (s : Int) : allOf (a ++ [s]) = grow (allOf a) s := by unfold allOf; rw [List.foldl_append]; rfl
theorem foldl_len : ∀ (sizes : List Int) (acc : List (List Int)), (∀ s ∈ sizes, s ≤ 4) → (sizes.foldl grow acc).length ≤ acc.length * 4 ^ sizes.length
  | [], acc, _ => by simp
  | s :: r, acc, h => by
    have ih := foldl_len r (grow acc s) fun x hx => h x (List.mem_cons_of_mem _ hx)
    rw [grow_len] at ih
    have : s.toNat ≤ 4 := by have := h s List.mem_cons_self; omega
    rw [List.foldl_cons, List.length_cons, Nat.pow_succ]
    refine Nat.le_trans ih ?_
    rw [show acc.length * (4 ^ r.length * 4) = acc.length * 4 * 4 ^ r.length by rw [Nat.mul_comm (4 ^ r.length) 4, Nat.mul_assoc]]
    exact Nat.mul_le_mul_right _ (Nat.mul_le_mul_left _ this)
theorem allOf_len {sizes : List Int} (h : ∀ s ∈ sizes, s ≤ 4) (hl : sizes.length ≤ 6) : (allOf sizes).length ≤ 4096 := by
  have e := foldl_len sizes [[]] h
  have e2 : 4 ^ sizes.length ≤ 4 ^ 6 := Nat.pow_le_pow_right (by decide) hl
  have e3 : (4 : Nat) ^ 6 = 4096 := by decide
  rw [e3] at e2
  exact Nat.le_trans e (by rw [List.length_singleton, Nat.one_mul]; exact e2)
theorem take_more {sizes : List Int} {i : Nat} {s : Int} (e : sizes[i]? = some s) : allOf (sizes.take (i + 1)) = grow (allOf (sizes.take i)) s := by
  rw [List.take_add_one, e]
  exact allOf_app _ _
theorem row_len : ∀ (sizes : List Int) (row : List Int), row ∈ allOf sizes → row.length = sizes.length := by
  intro sizes
  have key : ∀ (r : List Int) (acc : List (List Int)) (n : Nat), (∀ x ∈ acc, x.length = n) → ∀ x ∈ r.foldl grow acc, x.length = n + r.length := by
    intro r
    induction r with
    | nil => intro acc n h x hx; exact h x hx
    | cons s r ih =>
      intro acc n h x hx
      have := ih (grow acc s) (n + 1) (fun y hy => by
        obtain ⟨q, hq, w, rfl, _⟩ := row_ok hy
        rw [List.length_append, h q hq]; rfl) x hx
      rw [List.length_cons]; omega
  intro row h
  have := key sizes [[]] 0 (fun x hx => by rw [List.mem_singleton.mp hx]; rfl) row h
  omega
theorem rows_grow (acc : List (List Int)) (s : Int) : (acc.flatMap fun row => rows ((List.range s.toNat).map fun w : Nat => row ++ [(w : Int)])) = rows (grow acc s) := by
  unfold grow rows
  rw [List.map_flatMap]
theorem tuples_ok {sizes : List Int} (h : ∀ s ∈ sizes, 0 ≤ s ∧ s ≤ 4) (hl : sizes.length ≤ 6) : h_tuples_of [.tup (sizes.map .int)] = .ret (.lst true (rows (allOf sizes))) [] := by
  have loop := for_ind (bd := bNm 2) (g := D.int) (body := sSeq (sAsg (bNm 1) (fComp2 [3, 4] [4] (iSeq (fVar 1)) (bNm 3) bTrue (iRng [fVar 2]) (bNm 4) bTrue (fN gAdd [.val (fVar 3), .val (fTup [fVar 4])]))) sNil)
    (fun i env => ∃ y, env = [some (.tup (sizes.map .int)), some (.lst true (rows (allOf (sizes.take i)))), y, none, none]) sizes 0 [some (.tup (sizes.map .int)), some (.lst true (rows (allOf []))), none, none, none] ⟨none, by rw [List.take_zero]⟩ ?_
  · obtain ⟨env', ⟨y, rfl⟩, e⟩ := loop
    rw [Nat.zero_add, List.take_length] at e
    have e0 : rows (allOf []) = [.tup []] := rfl
    rw [e0] at e
    simp only [h_tuples_of, b_tuples_of, e, Tw.ev, List.replicate, ne_eq, reduceCtorEq, Nat.reduceAdd, Nat.reduceSub, Nat.reduceLT, Nat.reduceLeDiff, Int.reduceEq, Int.reduceNeg, Int.reduceLT, Int.reduceLE, Int.reduceAdd, Int.reduceMul, Int.reduceSub]
  · rintro i s env hi ⟨y, rfl⟩
    rw [Nat.zero_add]
    have hs := h s (List.mem_of_getElem? hi)
    have il : i < sizes.length := (List.getElem?_eq_some_iff.mp hi).1
    refine ⟨_, ⟨some (.int s), rfl⟩, fun ds => ?_⟩
    have hr : rngOf [s] = some (0, s.toNat) := rngOf_1 (by omega)
    have lenA : (grow (allOf (sizes.take i)) s).length ≤ 4096 := by
      rw [← take_more hi]
      exact allOf_len (fun x hx => (h x (List.mem_of_mem_take hx)).2) (by rw [List.length_take]; omega)
    have c2 := comp2_map (vs := [3, 4]) (vs1 := [4]) (b := bNm 3) (t := bTrue) (fi1 := iRng [fVar 2]) (b1 := bNm 4) (t1 := bTrue) (f := fN gAdd [.val (fVar 3), .val (fTup [fVar 4])]) (g := fun ns : List Int => D.tup (ns.map .int))
      (env := [some (.tup (sizes.map .int)), some (.lst false (rows (allOf (sizes.take i)))), some (.int s), none, none]) 4096 (fun row => rows ((List.range s.toNat).map fun w : Nat => row ++ [(w : Int)])) (allOf (sizes.take i)) [] (by
        rw [rows_grow, rows_len]; simpa using lenA) ?_
    · rw [rows_grow, List.nil_append] at c2
      have c3 : comp2Go [3, 4] [4] (bNm 3) bTrue (iRng [fVar 2]) (bNm 4) bTrue (fN gAdd [.val (fVar 3), .val (fTup [fVar 4])]) (rows (allOf (sizes.take i))) [] [some (.tup (sizes.map .int)), some (.lst false (rows (allOf (sizes.take i)))), some (.int s), none, none] = _ := c2
      rw [take_more hi]
      simp only [c3, Tw.ev, List.replicate, ne_eq, reduceCtorEq, Nat.reduceAdd, Nat.reduceSub, Nat.reduceLT, Nat.reduceLeDiff, Int.reduceEq, Int.reduceNeg, Int.reduceLT, Int.reduceLE, Int.reduceAdd, Int.reduceMul, Int.reduceSub]
    · intro row hrow ds acc hacc
      rw [rows_len, List.length_map, List.length_range] at hacc
      have rl := row_len _ _ hrow
      rw [List.length_take] at rl
      have l1 : lenOk (acc.length + s.toNat) = true := lenOk_of (by omega)
      have l2 : lenOk (row.length + 1) = true := lenOk_of (by omega)
      have key := comp_map (vs := [4]) (b := bNm 4) (t := bTrue) (f := fN gAdd [.val (fVar 3), .val (fTup [fVar 4])]) (g := fun w : Nat => D.int (w : Int)) (env := [some (.tup (sizes.map .int)), some (.lst false (rows (allOf (sizes.take i)))), some (.int s), some (.tup (row.map .int)), none])
        (fun w : Nat => rows [row ++ [(w : Int)]]) (List.range s.toNat) acc fun w hw ds acc => by
          have er : rows [row ++ [(w : Int)]] = [.tup (row.map .int ++ [.int (w : Int)])] := by simp [rows]
          rw [er]
          simp only [l2, Tw.ev, List.replicate, ne_eq, reduceCtorEq, Nat.reduceAdd, Nat.reduceSub, Nat.reduceLT, Nat.reduceLeDiff, Int.reduceEq, Int.reduceNeg, Int.reduceLT, Int.reduceLE, Int.reduceAdd, Int.reduceMul, Int.reduceSub]
      have ef : ((List.range s.toNat).flatMap fun w : Nat => rows [row ++ [(w : Int)]]) = rows ((List.range s.toNat).map fun w : Nat => row ++ [(w : Int)]) := by
        unfold rows; rw [List.map_map]; induction (List.range s.toNat) with
        | nil => rfl
        | cons a l ih => rw [List.flatMap_cons, ih]; rfl
      rw [ef] at key
      simp only [hr, rngD_0, l1, key, List.length_range, Tw.ev, List.replicate, ne_eq, reduceCtorEq, Nat.reduceAdd, Nat.reduceSub, Nat.reduceLT, Nat.reduceLeDiff, Int.reduceEq, Int.reduceNeg, Int.reduceLT, Int.reduceLE, Int.reduceAdd, Int.reduceMul, Int.reduceSub]
theorem Sz.b {ns : List Int} (h : Sz ns) : ∀ s ∈ ns, 0 ≤ s ∧ s ≤ 4 := fun s hs => by have := h.2.2 s hs; omega
theorem rngOf_n {n : Nat} (h : n ≤ 1000000) : rngOf [(n : Int)] = some (0, n) := by
  have e := rngOf_1 (j := (n : Int)) ⟨by omega, by omega⟩
  rwa [Int.toNat_natCast] at e
def atLot (sizes lot : List Int) : List Int := lot.map fun p => sizes.getD p.toNat 0
theorem at_comp {sizes lot : List Int} {vs : List Nat} (hl : ∀ p ∈ lot, 0 ≤ p ∧ p < sizes.length) : compGo [2] (bNm 2) bTrue (fN gIx [.val (fVar 0), .val (fVar 2)]) (lot.map .int) [] [some (.tup (sizes.map .int)), some (.tup (lot.map .int)), none] = .ok ((atLot sizes lot).map .int) [some (.tup (sizes.map .int)), some (.tup (lot.map .int)), none] := by
  unfold atLot
  rw [List.map_map]
  refine comp_map1 (fun p => .int (sizes.getD p.toNat 0)) lot fun x hx ds acc => ?_
  have a := atI_map (hl x hx).1 (hl x hx).2
  simp only [a, Tw.ev, List.replicate, ne_eq, reduceCtorEq, Nat.reduceAdd, Nat.reduceSub, Nat.reduceLT, Nat.reduceLeDiff, Int.reduceEq, Int.reduceNeg, Int.reduceLT, Int.reduceLE, Int.reduceAdd, Int.reduceMul, Int.reduceSub]
theorem sizes_at_ok {sizes lot : List Int} (hl : ∀ p ∈ lot, 0 ≤ p ∧ p < sizes.length) (l : lot.length ≤ 1000) : h_sizes_at [.tup (sizes.map .int), .tup (lot.map .int)] = .ret (.tup ((atLot sizes lot).map .int)) [] := by
  have l : lenOk lot.length = true := lenOk_of (by omega)
  have key := at_comp (vs := []) hl
  simp only [h_sizes_at, b_sizes_at, l, key, Tw.ev, List.replicate, ne_eq, reduceCtorEq, Nat.reduceAdd, Nat.reduceSub, Nat.reduceLT, Nat.reduceLeDiff, Int.reduceEq, Int.reduceNeg, Int.reduceLT, Int.reduceLE, Int.reduceAdd, Int.reduceMul, Int.reduceSub]
def Up : Int → List Int → Int → Prop
  | _, [], _ => True
  | a, x :: r, m => a + 1 ≤ x ∧ x ≤ m - 1 ∧ Up x r m
theorem is_lot_loop {m : Int} {A : D} : ∀ (lot : List Int) (a : Int) (y : Option D), Up a lot m → ∃ env', forGo (bNm 3) (sSeq (sIf (bNot (bE (fCall [] h_is_within [(.val (fVar 3)), (.val (fN gAdd [(.val (fVar 2)), (.val (fK (.int 1)))])), (.val (fN Tw.gSub [(.val (fVar 1)), (.val (fK (.int 1)))]))]))) (sSeq (sRet (fK (.bl false))) sNil) sNil) (sSeq (sAsg (bNm 2) (fVar 3)) sNil)) (lot.map .int) [some A, some (.int m), some (.int a), y] = .next env'
  | [], a, y, _ => ⟨_, rfl⟩
  | x :: r, a, y, h => by
    obtain ⟨h1, h2, h3⟩ := h
    obtain ⟨env', e⟩ := is_lot_loop (A := A) r x (some (.int x)) h3
    refine ⟨env', ?_⟩
    rw [List.map_cons]
    simp only [within_ok, h1, h2, e, Tw.ev, List.replicate, ne_eq, reduceCtorEq, Nat.reduceAdd, Nat.reduceSub, Nat.reduceLT, Nat.reduceLeDiff, Int.reduceEq, Int.reduceNeg, Int.reduceLT, Int.reduceLE, Int.reduceAdd, Int.reduceMul, Int.reduceSub]
theorem is_lot_ok {lot : List Int} {m : Int} (h : Up (-1) lot m) : h_is_lot [.tup (lot.map .int), .int m] = .ret (.bl true) [] := by
  obtain ⟨env', e⟩ := is_lot_loop (A := .tup (lot.map .int)) lot (-1) none h
  simp only [h_is_lot, b_is_lot, isa_tuple_tuple, e, Tw.ev, List.replicate, ne_eq, reduceCtorEq, Nat.reduceAdd, Nat.reduceSub, Nat.reduceLT, Nat.reduceLeDiff, Int.reduceEq, Int.reduceNeg, Int.reduceLT, Int.reduceLE, Int.reduceAdd, Int.reduceMul, Int.reduceSub]
theorem up_in : ∀ {lot : List Int} {a m : Int}, Up a lot m → ∀ p ∈ lot, a < p ∧ p < m
  | x :: r, a, m, h, p, hp => by
    obtain ⟨h1, h2, h3⟩ := h
    rcases List.mem_cons.mp hp with rfl | hp
    · omega
    · have := up_in h3 p hp; omega
theorem up_len : ∀ {lot : List Int} {a m : Int}, Up a lot m → a ≤ m - 1 → (lot.length : Int) ≤ m - 1 - a
  | [], a, m, _, h => by simp; omega
  | x :: r, a, m, h, _ => by
    obtain ⟨h1, h2, h3⟩ := h
    have := up_len h3 (by omega)
    rw [List.length_cons]; omega
theorem at_b {sizes lot : List Int} (hb : ∀ s ∈ sizes, 0 ≤ s ∧ s ≤ 4) (hl : ∀ p ∈ lot, 0 ≤ p ∧ p < sizes.length) : ∀ s ∈ atLot sizes lot, 0 ≤ s ∧ s ≤ 4 := fun s hs => by
  obtain ⟨p, hp, rfl⟩ := List.mem_map.mp hs
  have := hl p hp
  have h2 : p.toNat < sizes.length := by omega
  rw [List.getD_eq_getElem?_getD, List.getElem?_eq_getElem h2]
  exact hb _ (List.getElem_mem h2)
theorem many_ok {sizes : List Int} (h : Sz sizes) : h_many_contents [.tup (sizes.map .int)] = .ret (.int (sizes.foldl (· * ·) 1)) [] := by
  obtain ⟨env', ⟨y, rfl⟩, e⟩ := for_fold (bd := bNm 2) (g := D.int) (body := sSeq (sAug 1 gIMul (fVar 2)) sNil) (fun (b : Int) env => ∃ y, env = [some (.tup (sizes.map .int)), some (.int b), y]) (· * ·) sizes 1 [some (.tup (sizes.map .int)), some (.int 1), none] ⟨none, rfl⟩ fun s hs b env he => by
    obtain ⟨y, rfl⟩ := he
    refine ⟨_, ⟨some (.int s), rfl⟩, fun ds => ?_⟩
    have := h.2.2 s hs
    have c : CMul b s := cm_lit _ _ (by omega)
    simp only [c, Tw.ev, List.replicate, ne_eq, reduceCtorEq, Nat.reduceAdd, Nat.reduceSub, Nat.reduceLT, Nat.reduceLeDiff, Int.reduceEq, Int.reduceNeg, Int.reduceLT, Int.reduceLE, Int.reduceAdd, Int.reduceMul, Int.reduceSub]
  simp only [h_many_contents, b_many_contents, e, Tw.ev, List.replicate, ne_eq, reduceCtorEq, Nat.reduceAdd, Nat.reduceSub, Nat.reduceLT, Nat.reduceLeDiff, Int.reduceEq, Int.reduceNeg, Int.reduceLT, Int.reduceLE, Int.reduceAdd, Int.reduceMul, Int.reduceSub]
theorem ext_lst (ds : List D) (m : Bool) (ys : List D) : gExtend ds (.lst m ys) = if D.oks ds && D.oks ys && lenOk (ds.length + ys.length) then some (.non, ds ++ ys) else none := rfl
theorem grow_more {acc : List (List Int)} {j : Nat} {row : List Int} {s : Int} (e : acc[j]? = some row) : grow (acc.take (j + 1)) s = grow (acc.take j) s ++ (List.range s.toNat).map fun w : Nat => row ++ [(w : Int)] := by
  unfold grow
  rw [List.take_add_one, e, List.flatMap_append]
  simp
theorem row_of {sizes : List Int} {i : Nat} {row : List Int} (il : i ≤ sizes.length) (h : row ∈ allOf (sizes.take i)) : row.length = i := by
  have := row_len _ _ h
  rw [List.length_take] at this
  omega
theorem range_rows (s : Int) (row : List Int) : rows ((List.range s.toNat).map fun w : Nat => row ++ [(w : Int)]) = (List.range s.toNat).map fun w : Nat => D.tup (row.map .int ++ [.int (w : Int)]) := by
  unfold rows
  rw [List.map_map]
  exact List.map_congr_left fun w _ => by simp
def lots : Nat → List (List Int)
  | 0 => [[]]
  | k + 1 => lots k ++ (lots k).map fun l => l ++ [(k : Int)]
theorem lots_len : ∀ k, (lots k).length = 2 ^ k
  | 0 => rfl
  | k + 1 => by rw [lots, List.length_append, List.length_map, lots_len k, Nat.pow_succ]; omega
theorem up_more : ∀ {l : List Int} {a m m' : Int}, Up a l m → a + 1 ≤ m → m + 1 ≤ m' → Up a (l ++ [m]) m'
  | [], a, m, m', _, h, h2 => ⟨h, by omega, trivial⟩
  | x :: r, a, m, m', ⟨h1, h2, h3⟩, h, h4 => ⟨h1, by omega, up_more h3 (by omega) h4⟩
theorem up_mono : ∀ {l : List Int} {a m m' : Int}, Up a l m → m ≤ m' → Up a l m'
  | [], _, _, _, _, _ => trivial
  | x :: r, a, m, m', ⟨h1, h2, h3⟩, h => ⟨h1, by omega, up_mono h3 h⟩
theorem lots_up : ∀ (k : Nat) (l : List Int), l ∈ lots k → Up (-1) l k
  | 0, l, h => by rw [List.mem_singleton.mp h]; trivial
  | k + 1, l, h => by
    rw [lots, List.mem_append, List.mem_map] at h
    rcases h with h | ⟨l', h, rfl⟩
    · exact up_mono (lots_up k l h) (by omega)
    · exact up_more (lots_up k l' h) (by omega) (by omega)
theorem map_rows (ls : List (List Int)) (k : Int) : rows (ls.map fun l => l ++ [k]) = ls.map fun l => D.tup (l.map .int ++ [.int k]) := by
  unfold rows
  rw [List.map_map]
  exact List.map_congr_left fun w _ => by simp
def countGo (sizes : List Int) (st : List Int × Int) : List Int × Int := sizes.foldl (fun st s => (st.1 ++ [st.2.fmod s], st.2.fdiv s)) st
def counted (sizes : List Int) (n : Int) : List Int := (countGo sizes.reverse ([], n)).1.reverse
theorem append_1 (ds : List D) (y : D) : gAppend ds y = if lenOk (ds.length + 1) then some (.non, ds ++ [y]) else none := rfl
def prodI (sizes : List Int) : Int := sizes.foldl (· * ·) 1
theorem prodI_app (a : List Int) (s : Int) : prodI (a ++ [s]) = prodI a * s := by unfold prodI; rw [List.foldl_append]; rfl
theorem countGo_app : ∀ (r : List Int) (l : List Int) (q : Int), (countGo r (l, q)).1 = l ++ (countGo r ([], q)).1
  | [], l, q => by simp [countGo]
  | x :: r, l, q => by
    have e1 := countGo_app r (l ++ [q.fmod x]) (q.fdiv x)
    have e2 := countGo_app r ([] ++ [q.fmod x]) (q.fdiv x)
    show (countGo r (l ++ [q.fmod x], q.fdiv x)).1 = l ++ (countGo r ([] ++ [q.fmod x], q.fdiv x)).1
    rw [e1, e2, List.append_assoc]; rfl
theorem counted_app (a : List Int) (s n : Int) : counted (a ++ [s]) n = counted a (n.fdiv s) ++ [n.fmod s] := by
  unfold counted
  rw [List.reverse_append]
  show (countGo a.reverse ([] ++ [n.fmod s], n.fdiv s)).1.reverse = _
  rw [countGo_app, List.reverse_append]; rfl
theorem range_mul (P k : Nat) : List.range (P * k) = (List.range P).flatMap fun q => (List.range k).map fun w => k * q + w := by
  induction P with
  | zero => simp
  | succ P ih =>
    rw [Nat.add_mul, Nat.one_mul, List.range_add, ih, List.range_succ, List.flatMap_append, List.flatMap_singleton, Nat.mul_comm P k]
theorem div_rest {k q w : Nat} (h : w < k) : ((k * q + w : Nat) : Int).fdiv k = q ∧ ((k * q + w : Nat) : Int).fmod k = w := by
  have k0 : 0 < k := by omega
  rw [Int.fdiv_eq_ediv_of_nonneg _ (by omega), Int.fmod_eq_emod_of_nonneg _ (by omega), ← Int.natCast_ediv, ← Int.natCast_emod, Nat.mul_add_div k0, Nat.mul_add_mod, Nat.div_eq_of_lt h, Nat.mod_eq_of_lt h]
  exact ⟨rfl, rfl⟩
theorem counted_allR : ∀ r : List Int, (∀ s ∈ r, 0 < s) → ∃ P : Nat, prodI r.reverse = P ∧ (List.range P).map (fun n : Nat => counted r.reverse n) = allOf r.reverse
  | [], _ => ⟨1, rfl, rfl⟩
  | s :: t, h => by
    obtain ⟨P, e1, e2⟩ := counted_allR t fun x hx => h x (List.mem_cons_of_mem _ hx)
    have s0 := h s List.mem_cons_self
    obtain ⟨k, rfl⟩ : ∃ k : Nat, s = k := ⟨s.toNat, by omega⟩
    refine ⟨P * k, by rw [List.reverse_cons, prodI_app, e1]; simp, ?_⟩
    rw [List.reverse_cons, allOf_app, ← e2, range_mul]
    unfold grow
    rw [List.map_flatMap, List.flatMap_map, Int.toNat_natCast]
    refine congrArg (fun f => List.flatMap f (List.range P)) (funext fun q => ?_)
    rw [List.map_map]
    refine List.map_congr_left fun w hw => ?_
    have := div_rest (q := q) (List.mem_range.mp hw)
    show counted (t.reverse ++ [(k : Int)]) ((k * q + w : Nat) : Int) = _
    rw [counted_app, this.1, this.2]
theorem counted_all {sizes : List Int} (h : ∀ s ∈ sizes, 0 < s) : ∃ P : Nat, prodI sizes = P ∧ (List.range P).map (fun n : Nat => counted sizes n) = allOf sizes := by
  have := counted_allR sizes.reverse fun s hs => h s (List.mem_reverse.mp hs)
  rwa [List.reverse_reverse] at this
def numOf (sizes c : List Int) : Int := (sizes.zip c).foldl (fun a p => a * p.1 + p.2) 0
theorem counted_len : ∀ r : List Int, ∀ n, (counted r.reverse n).length = r.length
  | [], n => rfl
  | s :: t, n => by rw [List.reverse_cons, counted_app, List.length_append, counted_len t]; rfl
theorem numOf_countedR : ∀ r : List Int, (∀ s ∈ r, 0 < s) → ∀ n : Int, 0 ≤ n → n < prodI r.reverse → numOf r.reverse (counted r.reverse n) = n
  | [], _, n, h0, h1 => by
    have : prodI [].reverse = 1 := rfl
    rw [this] at h1
    show (0 : Int) = n
    omega
  | s :: t, h, n, h0, h1 => by
    have s0 := h s List.mem_cons_self
    rw [List.reverse_cons, prodI_app] at h1
    have ih := numOf_countedR t (fun x hx => h x (List.mem_cons_of_mem _ hx)) (n.fdiv s) (by rw [Int.fdiv_eq_ediv_of_nonneg _ (by omega)]; exact Int.ediv_nonneg h0 (by omega)) (by rw [Int.fdiv_eq_ediv_of_nonneg _ (by omega)]; exact Int.ediv_lt_of_lt_mul s0 h1)
    rw [List.reverse_cons, counted_app]
    unfold numOf at ih ⊢
    rw [List.zip_append (by rw [counted_len, List.length_reverse]), List.foldl_append, ih]
    show n.fdiv s * s + n.fmod s = n
    rw [Int.fdiv_eq_ediv_of_nonneg _ (by omega), Int.fmod_eq_emod_of_nonneg _ (by omega), Int.mul_comm]
    exact Int.mul_ediv_add_emod n s
theorem counted_inR : ∀ r : List Int, (∀ s ∈ r, 0 < s) → ∀ n : Int, ∀ p ∈ r.reverse.zip (counted r.reverse n), 0 ≤ p.2 ∧ p.2 ≤ p.1 - 1
  | [], _, n, p, hp => by cases hp
  | s :: t, h, n, p, hp => by
    have s0 := h s List.mem_cons_self
    rw [List.reverse_cons, counted_app, List.zip_append (by rw [counted_len, List.length_reverse]), List.mem_append] at hp
    rcases hp with hp | hp
    · exact counted_inR t (fun x hx => h x (List.mem_cons_of_mem _ hx)) _ p hp
    · rw [List.zip_cons_cons, List.zip_nil_left, List.mem_singleton] at hp
      subst hp
      have h1 := Int.fmod_nonneg_of_pos n s0
      have h2 := Int.fmod_lt_of_pos n s0
      exact ⟨h1, by show n.fmod s ≤ s - 1; omega⟩
theorem zip_ints (a c : List Int) : zipOf [.tup (a.map .int), .tup (c.map .int)] = some (true, a.map .int, c.map .int) := by
  simp only [zipOf, Tw.seqK_tup, oks_int, if_true, Option.bind_some]
theorem zipD_ints (a c : List Int) : zipD (a.map .int) (c.map .int) = (a.zip c).map fun p => D.pr [.int p.1, .int p.2] := by
  unfold zipD
  rw [List.zip_map, List.map_map]
  rfl
theorem is_content_ok {sizes c : List Int} (hl : c.length = sizes.length) (l6 : sizes.length ≤ 6) (h : ∀ p ∈ sizes.zip c, 0 ≤ p.2 ∧ p.2 ≤ p.1 - 1) : h_is_content [.tup (sizes.map .int), .tup (c.map .int)] = .ret (.bl true) [] := by
  have l1 : lenOk (sizes.zip c).length = true := lenOk_of (by rw [List.length_zip]; omega)
  have key := comp_map1 (vs := [2, 3]) (b := bTp (bCons (bNm 2) (bCons (bNm 3) bNil))) (t := bTrue) (f := fCall [] h_is_within [(.val (fVar 3)), (.val (fK (.int 0))), (.val (fN Tw.gSub [(.val (fVar 2)), (.val (fK (.int 1)))]))]) (g := fun p : Int × Int => D.pr [.int p.1, .int p.2])
    (env := [some (.tup (sizes.map .int)), some (.tup (c.map .int)), none, none]) (fun _ => .bl true) (sizes.zip c) fun p hp ds acc => by
      have a1 := (h p hp).1
      have a2 := (h p hp).2
      simp only [within_ok, a1, a2, Tw.ev, List.replicate, ne_eq, reduceCtorEq, Nat.reduceAdd, Nat.reduceSub, Nat.reduceLT, Nat.reduceLeDiff, Int.reduceEq, Int.reduceNeg, Int.reduceLT, Int.reduceLE, Int.reduceAdd, Int.reduceMul, Int.reduceSub]
  have e : ((sizes.zip c).map fun _ => true).all id = true := by simp
  simp only [h_is_content, b_is_content, isa_tuple_tuple, hl, zip_ints, zipD_ints, l1, key, bools_mapP, e, Tw.ev, List.replicate, ne_eq, reduceCtorEq, Nat.reduceAdd, Nat.reduceSub, Nat.reduceLT, Nat.reduceLeDiff, Int.reduceEq, Int.reduceNeg, Int.reduceLT, Int.reduceLE, Int.reduceAdd, Int.reduceMul, Int.reduceSub]
theorem Sz.pos {ns : List Int} (h : Sz ns) : ∀ s ∈ ns, 0 < s := fun s hs => by have := h.2.2 s hs; omega
theorem eq_rows {m m' : Bool} (ls : List (List Int)) : gEq [.lst m (rows ls), .lst m' (rows ls)] = some (.bl true) := (eq_same (n := 2) (num_lst (num_rows ls)) (by decide) (py_lst m' m _)).1
theorem ne_rows {m m' : Bool} (ls : List (List Int)) : gNe [.lst m (rows ls), .lst m' (rows ls)] = some (.bl false) := (eq_same (n := 2) (num_lst (num_rows ls)) (by decide) (py_lst m' m _)).2
theorem ne_trows (ls : List (List Int)) : gNe [.tup (rows ls), .tup (rows ls)] = some (.bl false) := (eq_same (n := 2) (num_tup (num_rows ls)) (by decide) rfl).2
theorem ne_ints (ls : List Int) : gNe [.tup (ls.map .int), .tup (ls.map .int)] = some (.bl false) := (eq_same (n := 1) (num_tup (num_ints ls)) (by decide) rfl).2
theorem allOf_P {sizes : List Int} {P : Nat} (h : Sz sizes) (e2 : (List.range P).map (fun n : Nat => counted sizes n) = allOf sizes) : P ≤ 4096 := by
  have := allOf_len (sizes := sizes) (fun s hs => (h.b s hs).2) h.2.1
  rwa [← e2, List.length_map, List.length_range] at this
theorem prod_loop {sizes : List Int} {A : D} {y3 y4 y5 y6 : Option D} (h : Sz sizes) : ∃ y, forGo (bNm 2) (sSeq (sAsg (bNm 1) (fN gMul [(.val (fVar 1)), (.val (fVar 2))])) sNil) (sizes.map .int) [some A, some (.int 1), none, y3, y4, y5, y6] = .next [some A, some (.int (prodI sizes)), y, y3, y4, y5, y6] := by
  obtain ⟨env', ⟨y, rfl⟩, e⟩ := for_fold (bd := bNm 2) (g := D.int) (body := sSeq (sAsg (bNm 1) (fN gMul [(.val (fVar 1)), (.val (fVar 2))])) sNil) (fun (b : Int) env => ∃ y, env = [some A, some (.int b), y, y3, y4, y5, y6]) (· * ·) sizes 1 [some A, some (.int 1), none, y3, y4, y5, y6] ⟨none, rfl⟩ fun s hs b env he => by
    obtain ⟨y, rfl⟩ := he
    refine ⟨_, ⟨some (.int s), rfl⟩, fun ds => ?_⟩
    have := h.2.2 s hs
    have c : CMul b s := cm_lit _ _ (by omega)
    simp only [c, Tw.ev, List.replicate, ne_eq, reduceCtorEq, Nat.reduceAdd, Nat.reduceSub, Nat.reduceLT, Nat.reduceLeDiff, Int.reduceEq, Int.reduceNeg, Int.reduceLT, Int.reduceLE, Int.reduceAdd, Int.reduceMul, Int.reduceSub]
  exact ⟨y, e⟩
theorem fld_obj (own : Nat → Bool) (f : Str) (m : Bool) (c : Nat) (ns : List Str) (ds : List D) : gFld own f [.obj m c ns ds] = if own c then (lookD ns ds f).bind fun d => if D.ok d then some d else none else none := (rfl)
theorem look_1 (n : Str) (ns : List Str) (d : D) (ds : List D) (x : Str) : lookD (n :: ns) (d :: ds) x = if x = n then some d else lookD ns ds x := (rfl)
def hnd (cs : List Int) (i n s t : Int) : D := .lst true [.lst false (cs.map .int), .int i, .int n, .int s, .int t]
def Hand (d : D) : Prop := ∃ (cs : List Int) (i n s t : Int), d = hnd cs i n s t ∧ 0 ≤ i
theorem c_1 (a : Int) : CMul a 69621 := cm_lit _ _ (by decide)
theorem c_2 (a : Int) : CMul 7919 a := cm_left _ _ (by decide)
theorem c_3 (a : Int) : CMul a 48271 := cm_lit _ _ (by decide)
theorem d_1 (a : Int) : CDivN a 1009 := cd_lit _ _ (by decide)
theorem d_2 (a : Int) : CDivN a 2003 := cd_lit _ _ (by decide)
theorem d_3 (a : Int) : CDivN a 16 := cd_lit _ _ (by decide)
theorem p_1 : CPow 10 18 := by unfold CPow; decide
theorem ix_b {cs : List Int} {i : Int} (h0 : 0 ≤ i) (h1 : i < cs.length) : atI (cs.map D.int) i = some (.int (cs.getD i.toNat 0)) := atI_map h0 h1
theorem cut_len {α : Type} (xs : List α) (lo hi : Option Int) : (Tw.cutD xs lo hi).length ≤ xs.length := by
  unfold Tw.cutD
  rw [List.length_take, List.length_drop]
  omega
def SzP (i : Nat) (ns : List Int) : Prop := ns.length ≤ i ∧ (∀ s ∈ ns, 2 ≤ s ∧ s ≤ 4) ∧ 0 < prodI ns ∧ prodI ns ≤ 300 ∧ (0 < i → 1 ≤ ns.length)
theorem pair_ok (a b : D) (ha : D.ok a = true) (hb : D.ok b = true) : h_is_pair [.tup [a, b]] = .ret (.bl true) [] := by
  have f1 : D.frz a = a := D.frz_ok ha
  have f2 : D.frz b = b := D.frz_ok hb
  simp only [h_is_pair, b_is_pair, isa_tuple_tuple, f1, f2, Tw.ev, List.replicate, ne_eq, reduceCtorEq, Nat.reduceAdd, Nat.reduceSub, Nat.reduceLT, Nat.reduceLeDiff, Int.reduceEq, Int.reduceNeg, Int.reduceLT, Int.reduceLE, Int.reduceAdd, Int.reduceMul, Int.reduceSub]
  rfl
def Mp (k : Int) (m : List Int) : Prop := (m.length : Int) = k ∧ ∀ x ∈ m, 0 ≤ x ∧ x ≤ k - 1
theorem is_map_ok {k : Int} {m : List Int} (h : Mp k m) (hk : k ≤ 8) : h_is_map [.int k, .tup (m.map .int)] = .ret (.bl true) [] := by
  obtain ⟨h1, h2⟩ := h
  have l1 : lenOk m.length = true := lenOk_of (by omega)
  have key := comp_map1 (vs := [2]) (b := bNm 2) (t := bTrue) (f := fCall [] h_is_within [(.val (fVar 2)), (.val (fK (.int 0))), (.val (fN Tw.gSub [(.val (fVar 0)), (.val (fK (.int 1)))]))]) (g := D.int) (env := [some (.int k), some (.tup (m.map .int)), none]) (fun _ => .bl true) m fun x hx ds acc => by
    have a1 := (h2 x hx).1
    have a2 := (h2 x hx).2
    simp only [within_ok, a1, a2, Tw.ev, List.replicate, ne_eq, reduceCtorEq, Nat.reduceAdd, Nat.reduceSub, Nat.reduceLT, Nat.reduceLeDiff, Int.reduceEq, Int.reduceNeg, Int.reduceLT, Int.reduceLE, Int.reduceAdd, Int.reduceMul, Int.reduceSub]
  have e : (m.map fun _ => true).all id = true := by simp
  simp only [h_is_map, b_is_map, isa_tuple_tuple, h1, l1, key, bools_mapP, e, Tw.ev, List.replicate, ne_eq, reduceCtorEq, Nat.reduceAdd, Nat.reduceSub, Nat.reduceLT, Nat.reduceLeDiff, Int.reduceEq, Int.reduceNeg, Int.reduceLT, Int.reduceLE, Int.reduceAdd, Int.reduceMul, Int.reduceSub]
abbrev Look := List Int × List (List Int)
def lkD (l : Look) : D := .tup [.tup (l.1.map .int), .tup (rows l.2)]
def LookOk (sizes : List Int) (k : Int) (l : Look) : Prop := Up (-1) l.1 sizes.length ∧ l.1.length ≤ 3 ∧ (l.2.length : Int) = prodI (atLot sizes l.1) ∧ ∀ m ∈ l.2, Mp k m
theorem ok_lookD (l : Look) : D.ok (lkD l) = true := by
  unfold lkD
  simp only [Tw.ev, List.replicate, ne_eq, reduceCtorEq, Nat.reduceAdd, Nat.reduceSub, Nat.reduceLT, Nat.reduceLeDiff, Int.reduceEq, Int.reduceNeg, Int.reduceLT, Int.reduceLE, Int.reduceAdd, Int.reduceMul, Int.reduceSub]
theorem frz_lookD (l : Look) : D.frz (lkD l) = lkD l := D.frz_ok (ok_lookD l)
theorem at2_0 (a b : D) : atI [a, b] 0 = some a := rfl
theorem at2_1 (a b : D) : atI [a, b] 1 = some b := rfl
theorem many_at {sizes : List Int} (h : ∀ s ∈ sizes, 0 ≤ s ∧ s ≤ 4) : h_many_contents [.tup (sizes.map .int)] = .ret (.int (prodI sizes)) [] := by
  obtain ⟨env', ⟨y, rfl⟩, e⟩ := for_fold (bd := bNm 2) (g := D.int) (body := sSeq (sAug 1 gIMul (fVar 2)) sNil) (fun (b : Int) env => ∃ y, env = [some (.tup (sizes.map .int)), some (.int b), y]) (· * ·) sizes 1 [some (.tup (sizes.map .int)), some (.int 1), none] ⟨none, rfl⟩ fun s hs b env he => by
    obtain ⟨y, rfl⟩ := he
    refine ⟨_, ⟨some (.int s), rfl⟩, fun ds => ?_⟩
    have := h s hs
    have c : CMul b s := cm_lit _ _ (by omega)
    simp only [c, Tw.ev, List.replicate, ne_eq, reduceCtorEq, Nat.reduceAdd, Nat.reduceSub, Nat.reduceLT, Nat.reduceLeDiff, Int.reduceEq, Int.reduceNeg, Int.reduceLT, Int.reduceLE, Int.reduceAdd, Int.reduceMul, Int.reduceSub]
  have e2 : sizes.foldl (· * ·) 1 = prodI sizes := rfl
  rw [e2] at e
  simp only [h_many_contents, b_many_contents, e, Tw.ev, List.replicate, ne_eq, reduceCtorEq, Nat.reduceAdd, Nat.reduceSub, Nat.reduceLT, Nat.reduceLeDiff, Int.reduceEq, Int.reduceNeg, Int.reduceLT, Int.reduceLE, Int.reduceAdd, Int.reduceMul, Int.reduceSub]
theorem is_look_ok {sizes : List Int} {k : Int} {l : Look} (sz : Sz sizes) (hk : k ≤ 8) (h : LookOk sizes k l) (hn : l.2.length ≤ 5000) : h_is_look [.tup (sizes.map .int), .int k, lkD l] = .ret (.bl true) [] := by
  obtain ⟨lot, maps⟩ := l
  obtain ⟨h1, h2, h3, h4⟩ := h
  have b : ∀ p ∈ lot, 0 ≤ p ∧ p < sizes.length := fun p hp => by have := up_in h1 p hp; omega
  have e1 := pair_ok (.tup (lot.map .int)) (.tup (rows maps)) (by simp only [Tw.ev, List.replicate, ne_eq, reduceCtorEq, Nat.reduceAdd, Nat.reduceSub, Nat.reduceLT, Nat.reduceLeDiff, Int.reduceEq, Int.reduceNeg, Int.reduceLT, Int.reduceLE, Int.reduceAdd, Int.reduceMul, Int.reduceSub]) (by simp only [Tw.ev, List.replicate, ne_eq, reduceCtorEq, Nat.reduceAdd, Nat.reduceSub, Nat.reduceLT, Nat.reduceLeDiff, Int.reduceEq, Int.reduceNeg, Int.reduceLT, Int.reduceLE, Int.reduceAdd, Int.reduceMul, Int.reduceSub])
  have e2 := is_lot_ok h1
  have e3 := sizes_at_ok b (show lot.length ≤ 1000 by have : lot.length ≤ 3 := h2; omega)
  have e4 := many_at (at_b sz.b b)
  have h3' : prodI (atLot sizes lot) = (maps.length : Int) := h3.symm
  rw [h3'] at e4
  have c3 : ¬ (3 : Int) < lot.length := by have : lot.length ≤ 3 := h2; omega
  have l1 : lenOk maps.length = true := lenOk_of (by have : maps.length ≤ 5000 := hn; omega)
  have key := comp_map1 (vs := [3]) (b := bNm 3) (t := bTrue) (f := fCall [] h_is_map [(.val (fVar 1)), (.val (fVar 3))]) (g := fun ns : List Int => D.tup (ns.map .int)) (env := [some (.tup (sizes.map .int)), some (.int k), some (.tup [.tup (lot.map .int), .tup (rows maps)]), none]) (fun _ => .bl true) maps fun m hm ds acc => by
    have em := is_map_ok (h4 m hm) hk
    simp only [em, Tw.ev, List.replicate, ne_eq, reduceCtorEq, Nat.reduceAdd, Nat.reduceSub, Nat.reduceLT, Nat.reduceLeDiff, Int.reduceEq, Int.reduceNeg, Int.reduceLT, Int.reduceLE, Int.reduceAdd, Int.reduceMul, Int.reduceSub]
  have key' : compGo [3] (bNm 3) bTrue (fCall [] h_is_map [(.val (fVar 1)), (.val (fVar 3))]) (rows maps) [] [some (.tup (sizes.map .int)), some (.int k), some (.tup [.tup (lot.map .int), .tup (rows maps)]), none] = _ := key
  have e : (maps.map fun _ => true).all id = true := by simp
  simp only [h_is_look, b_is_look, lkD, e1, at2_0, at2_1, e2, c3, isa_tuple_tuple, e3, e4, l1, key', bools_mapP, e, Tw.ev, List.replicate, ne_eq, reduceCtorEq, Nat.reduceAdd, Nat.reduceSub, Nat.reduceLT, Nat.reduceLeDiff, Int.reduceEq, Int.reduceNeg, Int.reduceLT, Int.reduceLE, Int.reduceAdd, Int.reduceMul, Int.reduceSub]
def looksD (ls : List Look) : D := .tup (ls.map lkD)
theorem oks_looks (ls : List Look) : D.oks (ls.map lkD) = true := by
  rw [D.oks_iff]; intro d h; obtain ⟨l, _, rfl⟩ := List.mem_map.mp h; exact ok_lookD l
theorem frzs_looks (ls : List Look) : D.frzs (ls.map lkD) = ls.map lkD := D.frzs_ok (oks_looks ls)
def rowD (m : Bool) (sizes : List Int) (k : Int) (ls : List Look) : D := .obj m 0 ["sizes", "standings", "looks"] [.tup (sizes.map .int), .int k, .tup (ls.map lkD)]
theorem enum_map (ls : List Look) : enumD (ls.map lkD) = ls.zipIdx.map fun p => .pr [.int (p.2 : Int), lkD p.1] := by
  unfold enumD
  rw [List.mapIdx_eq_zipIdx_map, List.zipIdx_map, List.map_map]
  rfl
theorem init_row {sizes : List Int} {k : Int} {ls : List Look} (sz : Sz sizes) (hk : 1 ≤ k ∧ k ≤ 8) (h : ∀ l ∈ ls, LookOk sizes k l ∧ l.2.length ≤ 5000) (hn : ls.length ≤ 5000) : h_Row_init [.obj true 0 [] [], .tup (sizes.map .int), .int k, .tup (ls.map lkD)] = .ret .non [rowD true sizes k ls] := by
  have e1 := check_sizes_ok sz
  have k1 := hk.1
  have k2 := hk.2
  have c : ¬ (5000 : Int) < ls.length := by omega
  obtain ⟨env', ⟨y, z, rfl⟩, e⟩ := for_keep (bd := bTp (bCons (bNm 4) (bCons (bNm 5) bNil))) (body := sSeq (sIf (bNot (bE (fCall [] h_is_look [(.val (fVar 1)), (.val (fVar 2)), (.val (fVar 5))]))) (sSeq sNever sNil) sNil) sNil) (g := fun p : Look × Nat => D.pr [.int (p.2 : Int), lkD p.1])
    (fun env => ∃ y z, env = [some (.obj true 0 [] []), some (.tup (sizes.map .int)), some (.int k), some (.tup (ls.map lkD)), y, z]) ls.zipIdx [some (.obj true 0 [] []), some (.tup (sizes.map .int)), some (.int k), some (.tup (ls.map lkD)), none, none] ⟨none, none, rfl⟩ (by
      rintro p hp env ⟨y, z, rfl⟩
      have hm : p.1 ∈ ls := by
        have := List.mem_zipIdx hp
        obtain ⟨_, _, e⟩ := this
        rw [e]; exact List.getElem_mem _
      have el := is_look_ok sz k2 (h p.1 hm).1 (h p.1 hm).2
      refine ⟨_, ⟨some (.int p.2), some (lkD p.1), rfl⟩, fun ds => ?_⟩
      simp only [ok_lookD, frz_lookD, el, Tw.ev, List.replicate, ne_eq, reduceCtorEq, Nat.reduceAdd, Nat.reduceSub, Nat.reduceLT, Nat.reduceLeDiff, Int.reduceEq, Int.reduceNeg, Int.reduceLT, Int.reduceLE, Int.reduceAdd, Int.reduceMul, Int.reduceSub])
  have p1 : putN "sizes" [] = (["sizes"] : List Str) := rfl
  have p2 : putD "sizes" (.tup (sizes.map .int)) [] [] = [.tup (sizes.map .int)] := rfl
  have p3 : putN "standings" ["sizes"] = (["sizes", "standings"] : List Str) := by decide
  have p4 : putD "standings" (.int k) ["sizes"] [.tup (sizes.map .int)] = [.tup (sizes.map .int), .int k] := rfl
  have p5 : putN "looks" ["sizes", "standings"] = (["sizes", "standings", "looks"] : List Str) := by decide
  have p6 : putD "looks" (.tup (ls.map lkD)) ["sizes", "standings"] [.tup (sizes.map .int), .int k] = [.tup (sizes.map .int), .int k, .tup (ls.map lkD)] := rfl
  have q1 : oldOk "sizes" [] [] = true := rfl
  have q2 : oldOk "standings" ["sizes"] [.tup (sizes.map .int)] = true := rfl
  have q3 : oldOk "looks" ["sizes", "standings"] [.tup (sizes.map .int), .int k] = true := rfl
  have o1 : own_sizes 0 = true := rfl
  have o2 : own_standings 0 = true := rfl
  have o3 : own_looks 0 = true := rfl
  simp only [h_Row_init, b_Row_init, e1, within_ok, k1, k2, isa_tuple_tuple, oks_looks, frzs_looks, c, enum_map, e, p1, p2, p3, p4, p5, p6, q1, q2, q3, o1, o2, o3, rowD, Tw.ev, List.replicate, ne_eq, reduceCtorEq, Nat.reduceAdd, Nat.reduceSub, Nat.reduceLT, Nat.reduceLeDiff, Int.reduceEq, Int.reduceNeg, Int.reduceLT, Int.reduceLE, Int.reduceAdd, Int.reduceMul, Int.reduceSub]
theorem rfld_sizes {m : Bool} {sizes : List Int} {k : Int} {ls : List Look} : gFld own_sizes "sizes" [rowD m sizes k ls] = some (.tup (sizes.map .int)) := by
  have o : own_sizes 0 = true := rfl
  unfold rowD
  rw [fld_obj, o, if_pos rfl, look_1, if_pos rfl, Option.bind_some, ok_tI, if_pos rfl]
theorem rfld_standings {m : Bool} {sizes : List Int} {k : Int} {ls : List Look} : gFld own_standings "standings" [rowD m sizes k ls] = some (.int k) := by
  have o : own_standings 0 = true := rfl
  have n1 : ("standings" : Str) ≠ "sizes" := by decide
  unfold rowD
  rw [fld_obj, o, if_pos rfl, look_1, if_neg n1, look_1, if_pos rfl, Option.bind_some, Tw.ok_int, if_pos rfl]
theorem rfld_looks {m : Bool} {sizes : List Int} {k : Int} {ls : List Look} : gFld own_looks "looks" [rowD m sizes k ls] = some (.tup (ls.map lkD)) := by
  have o : own_looks 0 = true := rfl
  have n1 : ("looks" : Str) ≠ "sizes" := by decide
  have n2 : ("looks" : Str) ≠ "standings" := by decide
  unfold rowD
  rw [fld_obj, o, if_pos rfl, look_1, if_neg n1, look_1, if_neg n2, look_1, if_pos rfl, Option.bind_some, Tw.ok_tup, oks_looks, if_pos rfl]
theorem frz_row {m : Bool} {sizes : List Int} {k : Int} {ls : List Look} : D.frz (rowD m sizes k ls) = rowD false sizes k ls := by
  unfold rowD
  simp only [frzs_looks, Tw.ev, List.replicate, ne_eq, reduceCtorEq, Nat.reduceAdd, Nat.reduceSub, Nat.reduceLT, Nat.reduceLeDiff, Int.reduceEq, Int.reduceNeg, Int.reduceLT, Int.reduceLE, Int.reduceAdd, Int.reduceMul, Int.reduceSub]
def Ct (sizes c : List Int) : Prop := c.length = sizes.length ∧ ∀ p : Int, 0 ≤ p → p < sizes.length → 0 ≤ c.getD p.toNat 0 ∧ c.getD p.toNat 0 < sizes.getD p.toNat 0
theorem num_bound : ∀ (zs : List (Int × Int)) (a P : Int), (∀ z ∈ zs, 0 ≤ z.2 ∧ z.2 < z.1) → 0 ≤ a → a < P → 0 ≤ zs.foldl (fun a p => a * p.1 + p.2) a ∧ zs.foldl (fun a p => a * p.1 + p.2) a < (zs.map (·.1)).foldl (· * ·) P
  | [], a, P, _, h0, h1 => ⟨h0, h1⟩
  | z :: zs, a, P, h, h0, h1 => by
    have hz := h z List.mem_cons_self
    refine num_bound zs (a * z.1 + z.2) (P * z.1) (fun y hy => h y (List.mem_cons_of_mem _ hy)) ?_ ?_
    · have := Int.mul_nonneg h0 (show 0 ≤ z.1 by omega); omega
    · have h2 : a * z.1 + z.1 ≤ P * z.1 := by
        have : (a + 1) * z.1 ≤ P * z.1 := Int.mul_le_mul_of_nonneg_right (by omega) (by omega)
        rwa [Int.add_mul, Int.one_mul] at this
      omega
theorem zip_at (sizes c lot : List Int) : (atLot sizes lot).zip (atLot c lot) = lot.map fun p => (sizes.getD p.toNat 0, c.getD p.toNat 0) := by
  unfold atLot
  rw [List.zip_map']
theorem numAt_bound {sizes c lot : List Int} (h : Ct sizes c) (hl : ∀ p ∈ lot, 0 ≤ p ∧ p < sizes.length) : 0 ≤ numOf (atLot sizes lot) (atLot c lot) ∧ numOf (atLot sizes lot) (atLot c lot) < prodI (atLot sizes lot) := by
  have z := num_bound ((atLot sizes lot).zip (atLot c lot)) 0 1 (fun y hy => by
    rw [zip_at] at hy
    obtain ⟨p, hp, rfl⟩ := List.mem_map.mp hy
    exact h.2 p (hl p hp).1 (hl p hp).2) (by omega) (by omega)
  have e : ((atLot sizes lot).zip (atLot c lot)).map (·.1) = atLot sizes lot := by
    rw [zip_at, List.map_map]; rfl
  rw [e] at z
  exact z
theorem at_pos {sizes lot : List Int} (h : Sz sizes) (hl : ∀ p ∈ lot, 0 ≤ p ∧ p < sizes.length) : ∀ s ∈ atLot sizes lot, 0 < s := fun s hs => by
  obtain ⟨p, hp, rfl⟩ := List.mem_map.mp hs
  have := hl p hp
  have h2 : p.toNat < sizes.length := by omega
  rw [List.getD_eq_getElem?_getD, List.getElem?_eq_getElem h2]
  exact h.pos _ (List.getElem_mem h2)
theorem at_rows {ls : List (List Int)} {i : Int} (h0 : 0 ≤ i) (h1 : i < ls.length) : atI (rows ls) i = some (.tup ((ls.getD i.toNat []).map .int)) := by
  have hl : i.toNat < ls.length := by omega
  unfold atI ixN
  rw [rows_len, if_pos h0, if_pos h1, Option.bind_some]
  unfold rows
  rw [List.getElem?_map, List.getElem?_eq_getElem hl, List.getD_eq_getElem?_getD, List.getElem?_eq_getElem hl]
  rfl
def mapAt (sizes : List Int) (l : Look) (c : List Int) : List Int := l.2.getD (numOf (atLot sizes l.1) (atLot c l.1)).toNat []
theorem mapAt_mp {sizes c : List Int} {k : Int} {l : Look} (hc : Ct sizes c) (h : LookOk sizes k l) : Mp k (mapAt sizes l c) := by
  have b : ∀ p ∈ l.1, 0 ≤ p ∧ p < sizes.length := fun p hp => by have := up_in h.1 p hp; omega
  have nb := numAt_bound hc b
  rw [← h.2.2.1] at nb
  have hl : (numOf (atLot sizes l.1) (atLot c l.1)).toNat < l.2.length := by omega
  unfold mapAt
  rw [List.getD_eq_getElem?_getD, List.getElem?_eq_getElem hl]
  exact h.2.2.2 _ (List.getElem_mem hl)
def stp (sizes c : List Int) (s : Int) (l : Look) : Int := (mapAt sizes l c).getD s.toNat 0
def ledGo (sizes c : List Int) (ls : List Look) (st : List Int × Int) : List Int × Int := ls.foldl (fun st l => (st.1 ++ [st.2], stp sizes c st.2 l)) st
def ledL (sizes c : List Int) (ls : List Look) : List Int := (ledGo sizes c ls ([], 0)).1 ++ [(ledGo sizes c ls ([], 0)).2]
theorem stp_in {sizes c : List Int} {k s : Int} {l : Look} (hc : Ct sizes c) (h : LookOk sizes k l) (h0 : 0 ≤ s) (h1 : s < k) : 0 ≤ stp sizes c s l ∧ stp sizes c s l < k := by
  obtain ⟨m1, m2⟩ := mapAt_mp hc h
  have hl : s.toNat < (mapAt sizes l c).length := by omega
  unfold stp
  rw [List.getD_eq_getElem?_getD, List.getElem?_eq_getElem hl]
  have := m2 _ (List.getElem_mem hl)
  exact ⟨this.1, by show (mapAt sizes l c)[s.toNat] < k; omega⟩
theorem led_take {sizes c : List Int} {ls : List Look} {i : Nat} {l : Look} (e : ls[i]? = some l) (st : List Int × Int) : ledGo sizes c (ls.take (i + 1)) st = ((ledGo sizes c (ls.take i) st).1 ++ [(ledGo sizes c (ls.take i) st).2], stp sizes c (ledGo sizes c (ls.take i) st).2 l) := by
  unfold ledGo
  rw [List.take_add_one, e, List.foldl_append]
  rfl
theorem at_last (xs : List Int) (x : Int) : atI ((xs ++ [x]).map D.int) (-1) = some (.int x) := by
  unfold atI ixN
  have h1 : ¬ (0 : Int) ≤ -1 := by omega
  have h2 : -((((xs ++ [x]).map D.int).length : Nat) : Int) ≤ -1 := by rw [List.length_map, List.length_append, List.length_singleton]; omega
  rw [if_neg h1, if_pos h2, Option.bind_some]
  have e : (-1 + ((((xs ++ [x]).map D.int).length : Nat) : Int)).toNat = xs.length := by rw [List.length_map, List.length_append, List.length_singleton]; omega
  rw [e, List.getElem?_map, List.getElem?_append_right (Nat.le_refl _), Nat.sub_self]
  rfl
def partsD (sizes : List Int) (k : Int) (ls : List Look) : D := .tup [.tup (sizes.map .int), .int k, .tup (ls.map lkD)]
theorem at3_0 (a b c : D) : atI [a, b, c] 0 = some a := rfl
theorem at3_2 (a b c : D) : atI [a, b, c] 2 = some c := rfl
theorem ct_zip {sizes c : List Int} (hl : c.length = sizes.length) (h : ∀ z ∈ sizes.zip c, 0 ≤ z.2 ∧ z.2 ≤ z.1 - 1) : Ct sizes c := by
  refine ⟨hl, fun p h0 h1 => ?_⟩
  have p1 : p.toNat < sizes.length := by omega
  have p2 : p.toNat < c.length := by omega
  have hz : (sizes[p.toNat], c[p.toNat]) ∈ sizes.zip c := by
    have : (sizes.zip c)[p.toNat]? = some (sizes[p.toNat], c[p.toNat]) := by
      rw [List.getElem?_zip_eq_some]
      exact ⟨List.getElem?_eq_getElem p1, List.getElem?_eq_getElem p2⟩
    exact List.mem_of_getElem? this
  have := h _ hz
  rw [List.getD_eq_getElem?_getD, List.getD_eq_getElem?_getD, List.getElem?_eq_getElem p1, List.getElem?_eq_getElem p2]
  exact ⟨this.1, by show c[p.toNat] < sizes[p.toNat]; have := this.2; simp only at this; omega⟩
theorem ct_all {sizes r : List Int} (sz : Sz sizes) (h : r ∈ allOf sizes) : Ct sizes r ∧ ∀ z ∈ sizes.zip r, 0 ≤ z.2 ∧ z.2 ≤ z.1 - 1 := by
  obtain ⟨P, e1, e2⟩ := counted_all sz.pos
  rw [← e2] at h
  obtain ⟨n, _, rfl⟩ := List.mem_map.mp h
  have hr := counted_inR sizes.reverse (fun s hs => sz.pos s (List.mem_reverse.mp hs)) n
  have hlen := counted_len sizes.reverse (n : Int)
  rw [List.reverse_reverse] at hr hlen
  rw [List.length_reverse] at hlen
  exact ⟨ct_zip hlen hr, hr⟩
def lastOf (xs : List Int) : Int := xs.getLast?.getD 0
theorem ledL_last {sizes c : List Int} {ls : List Look} : atI ((ledL sizes c ls).map D.int) (-1) = some (.int (lastOf (ledL sizes c ls))) := by
  have e : lastOf (ledL sizes c ls) = (ledGo sizes c ls ([], 0)).2 := by
    unfold lastOf ledL
    rw [List.getLast?_concat]; rfl
  rw [e]
  exact at_last _ _
def toldL (sizes : List Int) (ls : List Look) : List Int := (allOf sizes).map fun c => lastOf (ledL sizes c ls)
theorem num_look (l : Look) : Num 3 (lkD l) := num_tup fun x hx => by
  rcases List.mem_cons.mp hx with rfl | hx
  · exact num_tup (num_ints _)
  · rw [List.mem_singleton.mp hx]; exact num_tup (num_rows _)
theorem num_looks (ls : List Look) : Num 4 (.tup (ls.map lkD)) := num_tup fun x hx => by
  obtain ⟨l, _, rfl⟩ := List.mem_map.mp hx
  exact num_look l
theorem num_parts (sizes : List Int) (k : Int) (ls : List Look) : Num 5 (partsD sizes k ls) := num_tup fun x hx => by
  rcases List.mem_cons.mp hx with rfl | hx
  · exact num_tup (num_ints _)
  · rcases List.mem_cons.mp hx with rfl | hx
    · exact num_int _ _
    · rw [List.mem_singleton.mp hx]; exact num_looks ls
theorem ne_parts (sizes : List Int) (k : Int) (ls : List Look) : gNe [partsD sizes k ls, partsD sizes k ls] = some (.bl false) := (eq_same (num_parts sizes k ls) (by decide) rfl).2
theorem eq_looks (ls : List Look) : gEq [.tup (ls.map lkD), .tup (ls.map lkD)] = some (.bl true) := (eq_same (num_looks ls) (by decide) rfl).1
theorem eqv_ints : ∀ (a b : List Int), PyData.eqv (.tuple (a.map .int)) (.tuple (b.map .int)) = decide (a = b) := by
  have key : ∀ (a b : List Int), PyData.eqvAll (a.map .int) (b.map .int) = decide (a = b) := by
    intro a
    induction a with
    | nil => intro b; cases b <;> simp [PyData.eqvAll]
    | cons x a ih =>
      intro b
      cases b with
      | nil => simp [PyData.eqvAll]
      | cons y b =>
        rw [List.map_cons, List.map_cons, PyData.eqvAll, ih]
        have e : PyData.eqv (.int x) (.int y) = decide (x = y) := rfl
        rw [e]
        by_cases h1 : x = y <;> by_cases h2 : a = b <;> simp [h1, h2]
  intro a b
  rw [PyData.eqv]
  exact key a b
theorem eq_ints2 (a b : List Int) : gEq [.tup (a.map .int), .tup (b.map .int)] = some (.bl (decide (a = b))) := by
  have py : ∀ ns : List Int, D.py (.tup (ns.map .int)) = some (.tuple (ns.map .int)) := fun ns => by
    have : D.pys (ns.map .int) = some (ns.map PyData.int) := by
      induction ns with
      | nil => rfl
      | cons n ns ih => rw [List.map_cons, D.pys, ih]; rfl
    rw [D.py, this]; rfl
  have sh : ∀ ns : List Int, SeqAt.shaped (.tuple (ns.map .int)) = true := fun ns => by
    obtain ⟨p, e, c, dp⟩ := num_py (num_tup (n := 0) (num_ints ns))
    rw [py ns] at e
    cases e
    unfold SeqAt.shaped
    rw [c, Bool.true_and]
    exact decide_eq_true (by omega)
  rw [Tw.eq_2, py, py, Option.bind_some, Option.bind_some, sh, sh, Bool.and_self, if_pos rfl, eqv_ints]
def turns (m : List Int) : Bool := decide ((nub m).length = m.length)
theorem nub_le : ∀ m : List Int, (nub m).length ≤ m.length
  | [] => Nat.le_refl _
  | x :: m => by
    have := nub_le m
    unfold nub
    by_cases c : x ∈ m
    · rw [if_pos c, List.length_cons]; omega
    · rw [if_neg c, List.length_cons, List.length_cons]; omega
theorem nub_self : ∀ {m : List Int}, m.Nodup → nub m = m
  | [], _ => rfl
  | x :: m, h => by
    rw [List.nodup_cons] at h
    unfold nub
    rw [if_neg h.1, nub_self h.2]
theorem nodup_of_nub : ∀ {m : List Int}, (nub m).length = m.length → m.Nodup
  | [], _ => List.nodup_nil
  | x :: m, h => by
    unfold nub at h
    by_cases c : x ∈ m
    · rw [if_pos c, List.length_cons] at h
      have := nub_le m
      omega
    · rw [if_neg c, List.length_cons, List.length_cons] at h
      exact List.nodup_cons.mpr ⟨c, nodup_of_nub (by omega)⟩
def ups (n : Nat) : List Int := (List.range n).map fun i : Nat => (i : Int)
theorem ups_nodup (n : Nat) : (ups n).Nodup := by
  show List.Pairwise _ _
  unfold ups
  rw [List.pairwise_map]
  exact List.Pairwise.imp (fun hab e => hab (by omega)) List.nodup_range
theorem ups_sorted (n : Nat) : (ups n).Pairwise (· ≤ ·) := by
  unfold ups
  rw [List.pairwise_map]
  exact List.pairwise_lt_range.imp fun h => by omega
theorem turns_sort {k : Int} {m : List Int} (h : Mp k m) : decide ((m.mergeSort fun a b => decide (a ≤ b)) = ups m.length) = turns m := by
  unfold turns
  apply Bool.eq_iff_iff.mpr
  rw [decide_eq_true_eq, decide_eq_true_eq]
  have pm := List.mergeSort_perm m fun a b => decide (a ≤ b)
  constructor
  · intro e
    have nd : m.Nodup := by
      rw [e] at pm
      exact pm.nodup_iff.mp (ups_nodup _)
    rw [nub_self nd]
  · intro e
    have nd := nodup_of_nub e
    refine (sort_eq ?_ (ups_sorted _)).symm
    have sub : ∀ x ∈ m, x ∈ ups m.length := fun x hx => by
      have := h.2 x hx
      have h1 := h.1
      unfold ups
      exact List.mem_map.mpr ⟨x.toNat, List.mem_range.mpr (by omega), by omega⟩
    have ul : (ups m.length).length = m.length := by unfold ups; rw [List.length_map, List.length_range]
    refine (List.perm_ext_iff_of_nodup (ups_nodup _) nd).mpr fun y => ⟨fun hy => ?_, sub y⟩
    refine Classical.byContradiction fun hn => ?_
    have z := List.Nodup.length_le_of_subset (l₁ := y :: m) (l₂ := ups m.length) (List.nodup_cons.mpr ⟨hn, nd⟩) fun x hx => by
      rcases List.mem_cons.mp hx with rfl | hx
      · exact hy
      · exact sub x hx
    rw [ul, List.length_cons] at z
    omega
theorem eq_lints (m m' : Bool) (a b : List Int) : gEq [.lst m (a.map .int), .lst m' (b.map .int)] = some (.bl (decide (a = b))) := by
  have h := eq_ints2 a b
  have py : ∀ (m : Bool) (ns : List Int), D.py (.lst m (ns.map .int)) = some (.list (ns.map .int)) := fun m ns => by
    have : D.pys (ns.map .int) = some (ns.map PyData.int) := by
      induction ns with
      | nil => rfl
      | cons n ns ih => rw [List.map_cons, D.pys, ih]; rfl
    rw [D.py, this]; rfl
  have sh : ∀ ns : List Int, SeqAt.shaped (.list (ns.map .int)) = true := fun ns => by
    obtain ⟨p, e, c, dp⟩ := num_py (num_lst (n := 0) (m := true) (num_ints ns))
    rw [py true ns] at e
    cases e
    unfold SeqAt.shaped
    rw [c, Bool.true_and]
    exact decide_eq_true (by omega)
  have ev : PyData.eqv (.list (a.map .int)) (.list (b.map .int)) = decide (a = b) := by
    rw [← eqv_ints a b, PyData.eqv, PyData.eqv]
  rw [Tw.eq_2, py, py, Option.bind_some, Option.bind_some, sh, sh, Bool.and_self, if_pos rfl, ev]
theorem rgN_n {n : Nat} (h : n ≤ 1000000) : rgN (.int (n : Int)) = some (ups n) := by
  unfold rgN
  have c1 : rngOk (n : Int) = true := rngOk_iff.mpr ⟨by omega, by omega⟩
  have c2 : lenOk ((n : Int).toNat) = true := lenOk_of (by omega)
  rw [show D.asI (.int (n : Int)) = some (n : Int) from rfl, Option.bind_some, c1, c2, Bool.and_self, if_pos rfl, Int.toNat_natCast]
  rfl
theorem erase_map : ∀ (xs : List Int) (i : Nat), (xs.map D.int).eraseIdx i = (xs.eraseIdx i).map D.int
  | [], _ => rfl
  | x :: xs, 0 => rfl
  | x :: xs, i + 1 => by
    show D.int x :: (xs.map D.int).eraseIdx i = D.int x :: (xs.eraseIdx i).map D.int
    rw [erase_map xs i]
theorem pop_at {xs : List Int} {q : Int} (h0 : 0 ≤ q) (h1 : q < xs.length) (hb : xs.length ≤ 1000000) : gPopAt (xs.map .int) (.int q) = some (.int (xs.getD q.toNat 0), (xs.eraseIdx q.toNat).map .int) := by
  have hl : q.toNat < xs.length := by omega
  have si : seqIndex? q (xs.map D.int).length = some q.toNat := by
    unfold seqIndex?
    rw [List.length_map]
    have e : (if q < 0 then q + (xs.length : Int) else q) = q := if_neg (by omega)
    simp only [e]
    rw [if_pos (by simp only [Bool.and_eq_true, decide_eq_true_eq]; exact ⟨h0, h1⟩)]
  have c : (D.oks (xs.map .int) && decide (-(2 ^ 63) ≤ q ∧ q < 2 ^ 63)) = true := by
    rw [oks_int, Bool.true_and]
    exact decide_eq_true ⟨by omega, by omega⟩
  unfold gPopAt
  rw [Tw.asI_int, Option.bind_some, if_pos c, si, Option.bind_some, List.getElem?_map, List.getElem?_eq_getElem hl, List.getD_eq_getElem?_getD, List.getElem?_eq_getElem hl]
  simp only [Option.map_some, Option.getD_some, Option.some.injEq, Prod.mk.injEq, true_and]
  exact erase_map xs q.toNat
theorem up_of_sorted : ∀ {l : List Int} {a m : Int}, l.Pairwise (· ≤ ·) → l.Nodup → (∀ x ∈ l, a + 1 ≤ x ∧ x ≤ m - 1) → Up a l m
  | [], _, _, _, _, _ => trivial
  | x :: r, a, m, hp, hn, hb => by
    rw [List.pairwise_cons] at hp
    rw [List.nodup_cons] at hn
    have hx := hb x List.mem_cons_self
    refine ⟨hx.1, hx.2, up_of_sorted hp.2 hn.2 fun y hy => ?_⟩
    have h1 := hp.1 y hy
    have h2 := (hb y (List.mem_cons_of_mem _ hy)).2
    have h3 : x ≠ y := fun e => hn.1 (e ▸ hy)
    exact ⟨by omega, h2⟩
theorem erase_perm : ∀ (xs : List Int) (i : Nat) (h : i < xs.length), (xs[i] :: xs.eraseIdx i).Perm xs
  | x :: xs, 0, _ => List.Perm.refl _
  | x :: xs, i + 1, h => by
    have hi : i < xs.length := by rw [List.length_cons] at h; omega
    have ih := erase_perm xs i hi
    show (xs[i] :: x :: xs.eraseIdx i).Perm (x :: xs)
    exact (List.Perm.swap x xs[i] _).trans (ih.cons x)
theorem mem_ups {n : Nat} {x : Int} : x ∈ ups n ↔ 0 ≤ x ∧ x < n := by
  unfold ups
  rw [List.mem_map]
  constructor
  · rintro ⟨i, hi, rfl⟩
    have := List.mem_range.mp hi
    omega
  · intro h
    exact ⟨x.toNat, List.mem_range.mpr (by omega), by omega⟩
theorem ups_len (n : Nat) : (ups n).length = n := by unfold ups; rw [List.length_map, List.length_range]
def SzQ (i : Nat) (ns : List Int) : Prop := ns.length ≤ i ∧ (∀ s ∈ ns, 2 ≤ s ∧ s ≤ 4) ∧ 0 < prodI ns ∧ prodI ns ≤ 130 ∧ (0 < i → 1 ≤ ns.length)
theorem frz_parts {sizes : List Int} {k : Int} {ls : List Look} : D.frz (partsD sizes k ls) = partsD sizes k ls := by unfold partsD; simp only [frzs_looks, Tw.ev, List.replicate, ne_eq, reduceCtorEq, Nat.reduceAdd, Nat.reduceSub, Nat.reduceLT, Nat.reduceLeDiff, Int.reduceEq, Int.reduceNeg, Int.reduceLT, Int.reduceLE, Int.reduceAdd, Int.reduceMul, Int.reduceSub]
theorem ne_lints (m m' : Bool) (a : List Int) : gNe [.lst m (a.map .int), .lst m' (a.map .int)] = some (.bl false) := (eq_same (n := 1) (num_lst (num_ints a)) (by decide) (py_lst m' m _)).2
theorem ledL_len {sizes c : List Int} {ls : List Look} : (ledL sizes c ls).length = ls.length + 1 := by
  have key : ∀ (ls : List Look) (st : List Int × Int), (ledGo sizes c ls st).1.length = st.1.length + ls.length := by
    intro ls
    induction ls with
    | nil => intro st; rfl
    | cons l ls ih =>
      intro st
      show (ledGo sizes c ls (st.1 ++ [st.2], stp sizes c st.2 l)).1.length = _
      rw [ih]
      simp only [List.length_append, List.length_cons, List.length_nil]; omega
  unfold ledL
  rw [List.length_append, key, List.length_singleton]
  simp
theorem at3_1 (a b c : D) : atI [a, b, c] 1 = some b := rfl
theorem ix_parts {sizes : List Int} {k : Int} {ls : List Look} : gIx [partsD sizes k ls, .int 0] = some (.tup (sizes.map .int)) ∧ gIx [partsD sizes k ls, .int 1] = some (.int k) ∧ gIx [partsD sizes k ls, .int 2] = some (.tup (ls.map lkD)) := by
  unfold partsD
  refine ⟨?_, ?_, ?_⟩ <;> simp only [at3_0, at3_1, at3_2, oks_looks, Tw.ev, List.replicate, ne_eq, reduceCtorEq, Nat.reduceAdd, Nat.reduceSub, Nat.reduceLT, Nat.reduceLeDiff, Int.reduceEq, Int.reduceNeg, Int.reduceLT, Int.reduceLE, Int.reduceAdd, Int.reduceMul, Int.reduceSub]
theorem fld3 {m : Bool} {sizes : List Int} {k : Int} {ls : List Look} : gNe [.tup [.tup (sizes.map .int), .int k, .tup (ls.map lkD)], partsD sizes k ls] = some (.bl false) := ne_parts sizes k ls
theorem cut_to {ns : List Int} {i : Int} (h0 : 0 ≤ i) : gSl (.tup (ns.map .int)) none (some i) = some (.tup ((ns.take i.toNat).map .int)) := by
  rw [Tw.sl_tup, oks_int, if_pos rfl]
  have e : Tw.cutD (ns.map D.int) none (some i) = (ns.take i.toNat).map .int := by
    unfold Tw.cutD HT.sIx
    simp only [List.drop_zero, Nat.sub_zero, if_neg (show ¬ i < 0 by omega), List.map_take, List.length_map]
    rcases Nat.le_total i.toNat ns.length with c | c
    · rw [Nat.min_eq_left c]
    · rw [Nat.min_eq_right c, List.take_of_length_le (by rw [List.length_map]; exact Nat.le_refl _), List.take_of_length_le (by rw [List.length_map]; exact c)]
  rw [e]
theorem cut_from {ns : List Int} {i : Int} (h0 : 0 ≤ i) : gSl (.tup (ns.map .int)) (some i) none = some (.tup ((ns.drop i.toNat).map .int)) := by
  rw [Tw.sl_tup, oks_int, if_pos rfl]
  have e : Tw.cutD (ns.map D.int) (some i) none = (ns.drop i.toNat).map .int := by
    unfold Tw.cutD HT.sIx
    simp only [if_neg (show ¬ i < 0 by omega), List.map_drop, List.length_map]
    rcases Nat.le_total i.toNat ns.length with c | c
    · rw [Nat.min_eq_left c]
      exact List.take_of_length_le (by rw [List.length_drop, List.length_map]; exact Nat.le_refl _)
    · rw [Nat.min_eq_right c, List.drop_of_length_le (i := ns.length) (by rw [List.length_map]; exact Nat.le_refl _), List.drop_of_length_le (by rw [List.length_map]; exact c)]
      exact List.take_nil
  rw [e]
theorem tag_row {m : Bool} {sizes : List Int} {k : Int} {ls : List Look} : D.tag (rowD m sizes k ls) = some (.cl 0) := rfl
theorem lastOf_app (xs : List Int) (x : Int) : lastOf (xs ++ [x]) = x := by unfold lastOf; rw [List.getLast?_append]; rfl
theorem ledGo_in {sizes c : List Int} {k : Int} (hc : Ct sizes c) : ∀ (ls : List Look) (st : List Int × Int), (∀ l ∈ ls, LookOk sizes k l) → 0 ≤ st.2 → st.2 < k → 0 ≤ (ledGo sizes c ls st).2 ∧ (ledGo sizes c ls st).2 < k
  | [], st, _, h0, h1 => ⟨h0, h1⟩
  | l :: ls, st, h, h0, h1 => by
    have s := stp_in hc (h l List.mem_cons_self) h0 h1
    exact ledGo_in hc ls (st.1 ++ [st.2], stp sizes c st.2 l) (fun x hx => h x (List.mem_cons_of_mem _ hx)) s.1 s.2
theorem told_in {sizes : List Int} {k : Int} {ls : List Look} (sz : Sz sizes) (hk : 1 ≤ k) (h : ∀ l ∈ ls, LookOk sizes k l) : ∀ x ∈ toldL sizes ls, 0 ≤ x ∧ x < k := fun x hx => by
  obtain ⟨c, hc, rfl⟩ := List.mem_map.mp hx
  unfold ledL
  rw [lastOf_app]
  exact ledGo_in (ct_all sz hc).1 ls _ h (Int.le_refl 0) (by show (0 : Int) < k; omega)
theorem told_len {sizes : List Int} {ls : List Look} (sz : Sz sizes) : ((toldL sizes ls).length : Int) = prodI sizes ∧ (toldL sizes ls).length ≤ 4096 ∧ 0 < (toldL sizes ls).length := by
  obtain ⟨P, q1, q2⟩ := counted_all sz.pos
  have e : (toldL sizes ls).length = P := by unfold toldL; rw [List.length_map, ← q2, List.length_map, List.length_range]
  have p : 0 < prodI sizes := by
    have key : ∀ (r : List Int) (a : Int), (∀ s ∈ r, 0 < s) → 0 < a → 0 < r.foldl (· * ·) a := by
      intro r
      induction r with
      | nil => intro a _ h; exact h
      | cons s r ih => intro a h ha; exact ih _ (fun x hx => h x (List.mem_cons_of_mem _ hx)) (Int.mul_pos ha (h s List.mem_cons_self))
    exact key sizes 1 sz.pos (by decide)
  have := allOf_P sz q2
  exact ⟨by rw [e, q1], by omega, by omega⟩
theorem raw_row_ok {m : Bool} {sizes : List Int} {k : Int} {ls : List Look} (sz : Sz sizes) (hk : 1 ≤ k ∧ k ≤ 8) : h_raw_row [.tup (sizes.map .int), .int k, .lst m (ls.map lkD)] = .ret (rowD true sizes k ls) [] := by
  have e0 := init_row (ls := []) sz hk (by simp) (by simp)
  rw [List.map_nil] at e0
  have pn : putN "looks" ["sizes", "standings", "looks"] = (["sizes", "standings", "looks"] : List Str) := by decide
  have pd : putD "looks" (.tup (ls.map lkD)) ["sizes", "standings", "looks"] [.tup (sizes.map .int), .int k, .tup []] = [.tup (sizes.map .int), .int k, .tup (ls.map lkD)] := rfl
  have ol : oldOk "looks" ["sizes", "standings", "looks"] [.tup (sizes.map .int), .int k, .tup []] = true := rfl
  have o : own_looks 0 = true := rfl
  have oo : ooR (some (some (rowD true sizes k []))) = some (0, (["sizes", "standings", "looks"] : List Str), ([D.tup (sizes.map .int), D.int k, D.tup []] : List D)) := rfl
  simp only [h_raw_row, b_raw_row, e0, oks_looks, frzs_looks, oo, pn, pd, ol, o, Tw.ev, List.replicate, ne_eq, reduceCtorEq, Nat.reduceAdd, Nat.reduceSub, Nat.reduceLT, Nat.reduceLeDiff, Int.reduceEq, Int.reduceNeg, Int.reduceLT, Int.reduceLE, Int.reduceAdd, Int.reduceMul, Int.reduceSub]
  rfl
theorem lot_b {sizes : List Int} {lot : List Int} (h : Up (-1) lot sizes.length) : ∀ p ∈ lot, 0 ≤ p ∧ p < sizes.length := fun p hp => by have := up_in h p hp; omega
theorem prod_all {sizes lot : List Int} (sz : Sz sizes) (h : Up (-1) lot sizes.length) : ((allOf (atLot sizes lot)).length : Int) = prodI (atLot sizes lot) := by
  obtain ⟨P, q1, q2⟩ := counted_all (at_pos sz (lot_b h))
  rw [q1, ← q2, List.length_map, List.length_range]
theorem mem_all : ∀ {sizes c : List Int}, c.length = sizes.length → (∀ z ∈ sizes.zip c, 0 ≤ z.2 ∧ z.2 ≤ z.1 - 1) → c ∈ allOf sizes := by
  have key : ∀ (sizes : List Int) (c p : List Int) (acc : List (List Int)), p ∈ acc → c.length = sizes.length → (∀ z ∈ sizes.zip c, 0 ≤ z.2 ∧ z.2 ≤ z.1 - 1) → p ++ c ∈ sizes.foldl grow acc := by
    intro sizes
    induction sizes with
    | nil => intro c p acc hp hl _; rw [List.length_eq_zero_iff.mp hl, List.append_nil]; exact hp
    | cons s sizes ih =>
      intro c p acc hp hl h
      cases c with
      | nil => simp at hl
      | cons x c =>
        have hx := h (s, x) (by simp)
        simp only at hx
        have e : p ++ x :: c = (p ++ [x]) ++ c := by simp
        rw [e, List.foldl_cons]
        refine ih c (p ++ [x]) _ ?_ (by simpa using hl) fun z hz => h z (by simp [hz])
        unfold grow
        exact List.mem_flatMap.mpr ⟨p, hp, List.mem_map.mpr ⟨x.toNat, List.mem_range.mpr (by omega), by rw [Int.toNat_of_nonneg hx.1]⟩⟩
  intro sizes c hl h
  exact key sizes c [] [[]] (by simp) hl h
theorem all_at {sizes c : List Int} (hp : ∀ s ∈ sizes, 0 < s) (hc : c ∈ allOf sizes) : (allOf sizes)[(numOf sizes c).toNat]? = some c := by
  obtain ⟨P, q1, q2⟩ := counted_all hp
  rw [← q2] at hc ⊢
  obtain ⟨i, hi, rfl⟩ := List.mem_map.mp hc
  have hi := List.mem_range.mp hi
  have e : numOf sizes (counted sizes i) = i := by
    have z := numOf_countedR sizes.reverse (fun s hs => hp s (List.mem_reverse.mp hs)) (i : Int) (by omega) (by rw [List.reverse_reverse, q1]; omega)
    rwa [List.reverse_reverse] at z
  rw [e, Int.toNat_natCast, List.getElem?_map, List.getElem?_range hi]
  rfl
def SzG (B : Int) (i : Nat) (ns : List Int) : Prop := ns.length ≤ i ∧ (∀ s ∈ ns, 2 ≤ s ∧ s ≤ 4) ∧ 0 < prodI ns ∧ prodI ns ≤ B ∧ (0 < i → 1 ≤ ns.length)
theorem comp_filter {α : Type} {vs : List Nat} {b : Bd} {t : EvB} {f : Ev} {g : α → D} {env : Tw.Env} (p : α → Bool) (xs : List α) (h : ∀ x ∈ xs, ∀ ds acc, compGo vs b t f (g x :: ds) acc env = compGo vs b t f ds (acc ++ if p x then [g x] else []) env) : compGo vs b t f (xs.map g) [] env = .ok ((xs.filter p).map g) env := by
  rw [comp_map (fun x => if p x then [g x] else []) xs [] h, List.nil_append]
  congr 1
  induction xs with
  | nil => rfl
  | cons x xs ih =>
    rw [List.flatMap_cons, ih fun z hz => h z (List.mem_cons_of_mem _ hz), List.filter_cons]
    by_cases c : p x = true <;> simp [c]
theorem list_choose {α : Type} {f : α → D} {P : α → Prop} : ∀ {ds : List D}, (∀ d ∈ ds, ∃ s, P s ∧ d = f s) → ∃ ss : List α, ds = ss.map f ∧ ∀ s ∈ ss, P s
  | [], _ => ⟨[], rfl, by simp⟩
  | d :: ds, h => by
    obtain ⟨s, hs, rfl⟩ := h d List.mem_cons_self
    obtain ⟨ss, rfl, hss⟩ := list_choose (f := f) (P := P) fun d hd => h d (List.mem_cons_of_mem _ hd)
    exact ⟨s :: ss, rfl, fun z hz => (List.mem_cons.mp hz).elim (fun e => e ▸ hs) (hss z)⟩
def KdM (kind : Int) (n : Nat) (m : List Int) : Prop := (kind = 1 ∨ kind = 2 → m.Nodup) ∧ (kind = 2 → m = ups n)
def KdL (kind : Int) (n : Nat) (l : Look) : Prop := ∀ m ∈ l.2, KdM kind n m
def endS (sizes c : List Int) (ls : List Look) (s : Int) : Int := ls.foldl (fun s l => stp sizes c s l) s
def pathS (sizes c : List Int) : List Look → Int → List Int
  | [], s => [s]
  | l :: ls, s => s :: pathS sizes c ls (stp sizes c s l)
theorem ledGo_path {sizes c : List Int} : ∀ (ls : List Look) (acc : List Int) (s : Int), (ledGo sizes c ls (acc, s)).1 ++ [(ledGo sizes c ls (acc, s)).2] = acc ++ pathS sizes c ls s ∧ (ledGo sizes c ls (acc, s)).2 = endS sizes c ls s
  | [], acc, s => ⟨rfl, rfl⟩
  | l :: ls, acc, s => by
    have h := ledGo_path (sizes := sizes) (c := c) ls (acc ++ [s]) (stp sizes c s l)
    refine ⟨?_, h.2⟩
    show (ledGo sizes c ls (acc ++ [s], stp sizes c s l)).1 ++ [(ledGo sizes c ls (acc ++ [s], stp sizes c s l)).2] = _
    rw [h.1, pathS, List.append_assoc]
    rfl
theorem ledL_path {sizes c : List Int} {ls : List Look} : ledL sizes c ls = pathS sizes c ls 0 := (ledGo_path ls [] 0).1
theorem pathS_last {sizes c : List Int} : ∀ (ls : List Look) (s : Int), ∃ xs, pathS sizes c ls s = xs ++ [endS sizes c ls s]
  | [], s => ⟨[], rfl⟩
  | l :: ls, s => by
    obtain ⟨xs, e⟩ := pathS_last ls (stp sizes c s l)
    exact ⟨s :: xs, by rw [pathS, e]; rfl⟩
theorem ledL_end {sizes c : List Int} {ls : List Look} : lastOf (ledL sizes c ls) = endS sizes c ls 0 := by
  rw [ledL_path]
  obtain ⟨xs, e⟩ := pathS_last (sizes := sizes) (c := c) ls 0
  rw [e, lastOf_app]
theorem toldL_end {sizes : List Int} {ls : List Look} : toldL sizes ls = (allOf sizes).map fun c => endS sizes c ls 0 := List.map_congr_left fun c _ => ledL_end
theorem endS_in {sizes c : List Int} {k : Int} (hc : Ct sizes c) : ∀ {ls : List Look} {s : Int}, (∀ l ∈ ls, LookOk sizes k l) → 0 ≤ s → s < k → 0 ≤ endS sizes c ls s ∧ endS sizes c ls s < k
  | [], s, _, h0, h1 => ⟨h0, h1⟩
  | l :: ls, s, h, h0, h1 => by
    have := stp_in hc (h l List.mem_cons_self) h0 h1
    exact endS_in hc (ls := ls) (fun z hz => h z (List.mem_cons_of_mem _ hz)) this.1 this.2
theorem endS_app {sizes c : List Int} (a b : List Look) (s : Int) : endS sizes c (a ++ b) s = endS sizes c b (endS sizes c a s) := List.foldl_append
theorem pathS_len {sizes c : List Int} : ∀ (ls : List Look) (s : Int), (pathS sizes c ls s).length = ls.length + 1
  | [], _ => rfl
  | l :: ls, s => by rw [pathS, List.length_cons, List.length_cons, pathS_len]
theorem pathS_take {sizes c : List Int} (b : List Look) : ∀ (a : List Look) (s : Int), (pathS sizes c (a ++ b) s).take (a.length + 1) = pathS sizes c a s
  | [], s => by
    cases b <;> rfl
  | l :: a, s => by
    rw [List.cons_append, pathS, pathS, List.length_cons, List.take_succ_cons, pathS_take b a]
theorem path_last {sizes c : List Int} {ls : List Look} {s : Int} : atI ((pathS sizes c ls s).map D.int) (-1) = some (.int (endS sizes c ls s)) := by
  obtain ⟨xs, e⟩ := pathS_last (sizes := sizes) (c := c) ls s
  rw [e]
  exact at_last _ _
def wayL (sizes c : List Int) (n : Nat) (ls : List Look) : List Int := (ups n).map fun s => endS sizes c ls s
theorem way_mp {sizes c : List Int} {n : Nat} {ls : List Look} (hc : Ct sizes c) (h : ∀ l ∈ ls, LookOk sizes n l) : Mp n (wayL sizes c n ls) := by
  refine ⟨by unfold wayL; rw [List.length_map, ups_len], fun x hx => ?_⟩
  obtain ⟨s, hs, rfl⟩ := List.mem_map.mp hx
  have hs := mem_ups.mp hs
  have := endS_in hc h hs.1 hs.2
  omega
def timesL (way : List Int) : Nat → List Int
  | 0 => ups way.length
  | m + 1 => (timesL way m).map fun s => way.getD s.toNat 0
theorem times_mp {n : Nat} {way : List Int} (h : Mp n way) : ∀ m, Mp n (timesL way m)
  | 0 => ⟨by unfold timesL; rw [ups_len]; exact h.1, fun x hx => by have := mem_ups.mp hx; have := h.1; omega⟩
  | m + 1 => by
    have ih := times_mp h m
    refine ⟨by unfold timesL; rw [List.length_map]; exact ih.1, fun x hx => ?_⟩
    unfold timesL at hx
    obtain ⟨s, hs, rfl⟩ := List.mem_map.mp hx
    have b := ih.2 s hs
    have l := h.1
    have hl : s.toNat < way.length := by omega
    rw [List.getD_eq_getElem?_getD, List.getElem?_eq_getElem hl]
    exact h.2 _ (List.getElem_mem hl)
theorem raw_row_tup {sizes : List Int} {k : Int} {ls : List Look} (sz : Sz sizes) (hk : 1 ≤ k ∧ k ≤ 8) : h_raw_row [.tup (sizes.map .int), .int k, .tup (ls.map lkD)] = .ret (rowD true sizes k ls) [] := by
  have e0 := init_row (ls := []) sz hk (by simp) (by simp)
  rw [List.map_nil] at e0
  have pn : putN "looks" ["sizes", "standings", "looks"] = (["sizes", "standings", "looks"] : List Str) := by decide
  have pd : putD "looks" (.tup (ls.map lkD)) ["sizes", "standings", "looks"] [.tup (sizes.map .int), .int k, .tup []] = [.tup (sizes.map .int), .int k, .tup (ls.map lkD)] := rfl
  have ol : oldOk "looks" ["sizes", "standings", "looks"] [.tup (sizes.map .int), .int k, .tup []] = true := rfl
  have o : own_looks 0 = true := rfl
  have oo : ooR (some (some (rowD true sizes k []))) = some (0, (["sizes", "standings", "looks"] : List Str), ([D.tup (sizes.map .int), D.int k, D.tup []] : List D)) := rfl
  simp only [h_raw_row, b_raw_row, e0, oks_looks, frzs_looks, oo, pn, pd, ol, o, Tw.ev, List.replicate, ne_eq, reduceCtorEq, Nat.reduceAdd, Nat.reduceSub, Nat.reduceLT, Nat.reduceLeDiff, Int.reduceEq, Int.reduceNeg, Int.reduceLT, Int.reduceLE, Int.reduceAdd, Int.reduceMul, Int.reduceSub]
  rfl
def repL (ls : List Look) (m : Nat) : List Look := (List.replicate m ls).flatten
theorem repL_0 (ls : List Look) : repL ls 0 = [] := rfl
theorem repL_succ (ls : List Look) (m : Nat) : repL ls (m + 1) = ls ++ repL ls m := by unfold repL; rw [List.replicate_succ, List.flatten_cons]
theorem repL_dbl (p : List Look) : ∀ m, repL (p ++ p) m = repL p (2 * m)
  | 0 => rfl
  | m + 1 => by rw [repL_succ, repL_dbl p m, show 2 * (m + 1) = 2 * m + 1 + 1 from rfl, repL_succ, repL_succ, List.append_assoc]
theorem repL_len (p : List Look) : ∀ m, (repL p m).length = p.length * m
  | 0 => rfl
  | m + 1 => by rw [repL_succ, List.length_append, repL_len p m, Nat.mul_succ, Nat.add_comm]
theorem repL_mem {p : List Look} {l : Look} : ∀ {m : Nat}, l ∈ repL p m → l ∈ p
  | 0, h => by cases h
  | m + 1, h => by
    rw [repL_succ] at h
    rcases List.mem_append.mp h with h | h
    · exact h
    · exact repL_mem h
theorem fd2 (l : Nat) : (l : Int).fdiv 2 = ((l / 2 : Nat) : Int) := by
  rw [Int.fdiv_eq_ediv_of_nonneg _ (by decide)]; rfl
theorem fm2 (l : Nat) : (l : Int).fmod 2 = ((l % 2 : Nat) : Int) := by
  rw [Int.fmod_eq_emod_of_nonneg _ (by decide)]; rfl
theorem d_4 (a : Int) : CDivN a 2 := cd_lit _ _ (by decide)
def TurnOk (l : Look) : Prop := ∀ m ∈ l.2, m.Nodup
theorem turns_nd {m : List Int} (h : m.Nodup) : turns m = true := by unfold turns; rw [nub_self h]; exact decide_eq_true rfl
theorem mem_mp {n : Nat} {m : List Int} (h : Mp n m) (nd : m.Nodup) {s : Int} (h0 : 0 ≤ s) (h1 : s < n) : s ∈ m := by
  refine Classical.byContradiction fun hn => ?_
  have z := List.Nodup.length_le_of_subset (l₁ := s :: m) (l₂ := ups n) (List.nodup_cons.mpr ⟨hn, nd⟩) fun x hx => by
    rcases List.mem_cons.mp hx with rfl | hx
    · exact mem_ups.mpr ⟨h0, h1⟩
    · have := h.2 x hx
      exact mem_ups.mpr ⟨this.1, by omega⟩
  have := h.1
  rw [ups_len, List.length_cons] at z
  omega
theorem idx_some : ∀ {m : List Int} {s : Int}, s ∈ m → ∃ j, m.idxOf? s = some j ∧ m[j]? = some s
  | x :: m, s, h => by
    by_cases c : x = s
    · subst c
      exact ⟨0, by rw [List.idxOf?_cons, beq_self_eq_true]; rfl, rfl⟩
    · have hs : s ∈ m := by
        rcases List.mem_cons.mp h with rfl | h
        · exact absurd rfl c
        · exact h
      obtain ⟨j, e1, e2⟩ := idx_some hs
      refine ⟨j + 1, ?_, by rw [List.getElem?_cons_succ]; exact e2⟩
      rw [List.idxOf?_cons, e1]
      have : (x == s) = false := beq_eq_false_iff_ne.mpr c
      rw [this]
      rfl
def idxI (m : List Int) (s : Int) : Int := (((m.idxOf? s).getD 0 : Nat) : Int)
def inv (n : Nat) (m : List Int) : List Int := (ups n).map (idxI m)
theorem idx_ok {n : Nat} {m : List Int} (h : Mp n m) (nd : m.Nodup) {s : Int} (h0 : 0 ≤ s) (h1 : s < n) : ∃ j : Nat, m.idxOf? s = some j ∧ m[j]? = some s ∧ idxI m s = j ∧ j < n := by
  obtain ⟨j, e1, e2⟩ := idx_some (mem_mp h nd h0 h1)
  refine ⟨j, e1, e2, by unfold idxI; rw [e1]; rfl, ?_⟩
  have := (List.getElem?_eq_some_iff.mp e2).1
  have := h.1
  omega
theorem ups_at {n : Nat} {i : Nat} (h : i < n) : (ups n)[i]? = some (i : Int) := by
  unfold ups
  rw [List.getElem?_map, List.getElem?_range h]; rfl
theorem inv_at {n : Nat} {m : List Int} {s : Int} (h0 : 0 ≤ s) (h1 : s < n) : (inv n m).getD s.toNat 0 = idxI m s := by
  unfold inv
  rw [List.getD_eq_getElem?_getD, List.getElem?_map, ups_at (by omega), Option.map_some, Option.getD_some]
  congr 1
  omega
theorem inv_mp {n : Nat} {m : List Int} (h : Mp n m) (nd : m.Nodup) : Mp n (inv n m) := by
  refine ⟨by unfold inv; rw [List.length_map, ups_len], fun x hx => ?_⟩
  obtain ⟨s, hs, rfl⟩ := List.mem_map.mp hx
  have hs := mem_ups.mp hs
  obtain ⟨j, _, _, e, l⟩ := idx_ok h nd hs.1 hs.2
  omega
theorem inv_r {n : Nat} {m : List Int} (h : Mp n m) (nd : m.Nodup) {s : Int} (h0 : 0 ≤ s) (h1 : s < n) : m.getD ((inv n m).getD s.toNat 0).toNat 0 = s := by
  obtain ⟨j, _, e2, e3, _⟩ := idx_ok h nd h0 h1
  rw [inv_at h0 h1, e3, Int.toNat_natCast, List.getD_eq_getElem?_getD, e2]; rfl
theorem inv_l {n : Nat} {m : List Int} (h : Mp n m) (nd : m.Nodup) {s : Int} (h0 : 0 ≤ s) (h1 : s < n) : (inv n m).getD (m.getD s.toNat 0).toNat 0 = s := by
  have hl : s.toNat < m.length := by have := h.1; omega
  have e : m.getD s.toNat 0 = m[s.toNat] := by rw [List.getD_eq_getElem?_getD, List.getElem?_eq_getElem hl]; rfl
  have b := h.2 _ (List.getElem_mem hl)
  rw [e, inv_at b.1 (by omega)]
  obtain ⟨j, _, e2, e3, _⟩ := idx_ok h nd (s := m[s.toNat]) b.1 (by omega)
  rw [e3]
  obtain ⟨hj, e4⟩ := List.getElem?_eq_some_iff.mp e2
  have := (List.getElem_inj nd).mp e4
  omega
theorem turned_back_ok {n : Nat} {m : List Int} (h : Mp n m) (nd : m.Nodup) (h8 : n ≤ 8) : h_turned_back [.tup (m.map .int)] = .ret (.tup ((inv n m).map .int)) [] := by
  have ml : m.length = n := by have := h.1; omega
  have hr : rngOf [(m.length : Int)] = some (0, n) := by rw [ml]; exact rngOf_n (by omega)
  have l1 : lenOk n = true := lenOk_of (by omega)
  have key := comp_map1 (vs := [1]) (b := bNm 1) (t := bTrue) (f := c_turned_back_1) (g := fun i : Nat => D.int (i : Int)) (env := [some (.tup (m.map .int)), none]) (fun i : Nat => .int (idxI m i)) (List.range n) fun i hi ds acc => by
    obtain ⟨j, e1, _, e3, _⟩ := idx_ok h nd (s := (i : Int)) (by omega) (by have := List.mem_range.mp hi; omega)
    simp only [c_turned_back_1, index_ints, e1, e3, Tw.ev, List.replicate, ne_eq, reduceCtorEq, Nat.reduceAdd, Nat.reduceSub, Nat.reduceLT, Nat.reduceLeDiff, Int.reduceEq, Int.reduceNeg, Int.reduceLT, Int.reduceLE, Int.reduceAdd, Int.reduceMul, Int.reduceSub]
  have em : (List.range n).map (fun i : Nat => D.int (idxI m i)) = (inv n m).map .int := by unfold inv ups; rw [List.map_map, List.map_map]; rfl
  rw [em] at key
  simp only [h_turned_back, b_turned_back, hr, rngD_0, List.length_range, l1, key, Tw.ev, List.replicate, ne_eq, reduceCtorEq, Nat.reduceAdd, Nat.reduceSub, Nat.reduceLT, Nat.reduceLeDiff, Int.reduceEq, Int.reduceNeg, Int.reduceLT, Int.reduceLE, Int.reduceAdd, Int.reduceMul, Int.reduceSub]
def backL (n : Nat) (l : Look) : Look := (l.1, l.2.map (inv n))
theorem back_look {sizes : List Int} {n : Nat} {l : Look} (h : LookOk sizes n l) (ht : TurnOk l) : LookOk sizes n (backL n l) := by
  refine ⟨h.1, h.2.1, by show ((l.2.map (inv n)).length : Int) = _; rw [List.length_map]; exact h.2.2.1, fun m hm => ?_⟩
  obtain ⟨m', hm', rfl⟩ := List.mem_map.mp hm
  exact inv_mp (h.2.2.2 m' hm') (ht m' hm')
theorem num_in {sizes c : List Int} {k : Int} {l : Look} (hc : Ct sizes c) (h : LookOk sizes k l) : (numOf (atLot sizes l.1) (atLot c l.1)).toNat < l.2.length := by
  have b : ∀ p ∈ l.1, 0 ≤ p ∧ p < sizes.length := fun p hp => by have := up_in h.1 p hp; omega
  have nb := numAt_bound hc b
  have := h.2.2.1
  omega
theorem mapAt_mem {sizes c : List Int} {k : Int} {l : Look} (hc : Ct sizes c) (h : LookOk sizes k l) : mapAt sizes l c ∈ l.2 := by
  unfold mapAt
  rw [List.getD_eq_getElem?_getD, List.getElem?_eq_getElem (num_in hc h)]
  exact List.getElem_mem _
theorem mapAt_back {sizes c : List Int} {n : Nat} {l : Look} (hc : Ct sizes c) (h : LookOk sizes n l) : mapAt sizes (backL n l) c = inv n (mapAt sizes l c) := by
  unfold mapAt backL
  simp only
  rw [List.getD_eq_getElem?_getD, List.getD_eq_getElem?_getD, List.getElem?_map, List.getElem?_eq_getElem (num_in hc h)]
  rfl
theorem back_l {sizes c : List Int} {n : Nat} {l : Look} {s : Int} (hc : Ct sizes c) (h : LookOk sizes n l) (ht : TurnOk l) (h0 : 0 ≤ s) (h1 : s < n) : stp sizes c (stp sizes c s l) (backL n l) = s := by
  unfold stp
  rw [mapAt_back hc h]
  exact inv_l (mapAt_mp hc h) (ht _ (mapAt_mem hc h)) h0 h1
theorem back_r {sizes c : List Int} {n : Nat} {l : Look} {s : Int} (hc : Ct sizes c) (h : LookOk sizes n l) (ht : TurnOk l) (h0 : 0 ≤ s) (h1 : s < n) : stp sizes c (stp sizes c s (backL n l)) l = s := by
  unfold stp
  rw [mapAt_back hc h]
  exact inv_r (mapAt_mp hc h) (ht _ (mapAt_mem hc h)) h0 h1
def backs (n : Nat) (ls : List Look) : List Look := ls.reverse.map (backL n)
theorem backs_cons (n : Nat) (l : Look) (ls : List Look) : backs n (l :: ls) = backs n ls ++ [backL n l] := by unfold backs; rw [List.reverse_cons, List.map_append]; rfl
theorem backs_ok {sizes : List Int} {n : Nat} {ls : List Look} (h : ∀ l ∈ ls, LookOk sizes n l) (ht : ∀ l ∈ ls, TurnOk l) : ∀ l ∈ backs n ls, LookOk sizes n l := fun l hl => by
  obtain ⟨l', h', rfl⟩ := List.mem_map.mp hl
  have h' := List.mem_reverse.mp h'
  exact back_look (h l' h') (ht l' h')
theorem end_back {sizes c : List Int} {n : Nat} (hc : Ct sizes c) : ∀ {ls : List Look} {s : Int}, (∀ l ∈ ls, LookOk sizes n l) → (∀ l ∈ ls, TurnOk l) → 0 ≤ s → s < n → endS sizes c (backs n ls) (endS sizes c ls s) = s
  | [], s, _, _, _, _ => rfl
  | l :: ls, s, h, ht, h0, h1 => by
    have b := stp_in hc (h l List.mem_cons_self) h0 h1
    have ih := end_back hc (ls := ls) (s := stp sizes c s l) (fun z hz => h z (List.mem_cons_of_mem _ hz)) (fun z hz => ht z (List.mem_cons_of_mem _ hz)) b.1 b.2
    rw [backs_cons, endS_app]
    show stp sizes c (endS sizes c (backs n ls) (endS sizes c ls (stp sizes c s l))) (backL n l) = s
    rw [ih, back_l hc (h l List.mem_cons_self) (ht l List.mem_cons_self) h0 h1]
theorem back_end {sizes c : List Int} {n : Nat} (hc : Ct sizes c) : ∀ {ls : List Look} {s : Int}, (∀ l ∈ ls, LookOk sizes n l) → (∀ l ∈ ls, TurnOk l) → 0 ≤ s → s < n → endS sizes c ls (endS sizes c (backs n ls) s) = s
  | [], s, _, _, _, _ => rfl
  | l :: ls, s, h, ht, h0, h1 => by
    have hs := fun z hz => h z (List.mem_cons_of_mem l hz)
    have hts := fun z hz => ht z (List.mem_cons_of_mem l hz)
    have b := endS_in hc (backs_ok hs hts) h0 h1
    rw [backs_cons, endS_app]
    show endS sizes c ls (stp sizes c (stp sizes c (endS sizes c (backs n ls) s) (backL n l)) l) = s
    rw [back_r hc (h l List.mem_cons_self) (ht l List.mem_cons_self) b.1 b.2]
    exact back_end hc hs hts h0 h1
theorem stp_back {sizes c : List Int} {n : Nat} {l : Look} {s : Int} (hc : Ct sizes c) (h : LookOk sizes n l) (h0 : 0 ≤ s) (h1 : s < n) : stp sizes c s (backL n l) = idxI (mapAt sizes l c) s := by
  unfold stp
  rw [mapAt_back hc h, inv_at h0 h1]
end K29
namespace K29
open PySem PySem.Spec PyProof.Rows L2 Tw
/-! the draws of this text -/
def tpe (cs : List Int) (i n s t : Int) : D := .lst true [.lst false (cs.map .int), .int i, .int n, .int s, .int t]
def Tape (d : D) : Prop := ∃ (cs : List Int) (i n s t : Int), d = tpe cs i n s t ∧ 0 ≤ i
theorem tape_ok {ns : List Int} : ∃ d, h__law_tape [.scr ns] = .ret d [] ∧ Tape d := by
  refine ⟨tpe ns 0 0 1 0, ?_, ⟨_, _, _, _, _, rfl, by omega⟩⟩
  simp only [h__law_tape, b__law_tape, tpe, Tw.ev, List.replicate, ne_eq, reduceCtorEq, Nat.reduceAdd, Nat.reduceSub, Nat.reduceLT, Nat.reduceLeDiff, Int.reduceEq, Int.reduceNeg, Int.reduceLT, Int.reduceLE, Int.reduceAdd, Int.reduceMul, Int.reduceSub]
theorem pick_x {cs : List Int} {i n s t many : Int} (h0 : 0 ≤ i) (h1 : 0 < many) (h2 : many < 1073741824) : ∃ (x i' n' s' t' : Int), h__law_pick [tpe cs i n s t, .int many] = .ret (.int (x.fmod many)) [tpe cs i' n' s' t'] ∧ 0 ≤ i' := by
  have m0 : many ≠ 0 := by omega
  have cd : ∀ a, CDivN a many := fun a => ⟨m0, by omega⟩
  by_cases hn : 1 < n
  · refine ⟨n, i, n.fdiv many, s, t, ?_, h0⟩
    simp only [h__law_pick, b__law_pick, tpe, hn, m0, cd, Tw.ev, List.replicate, ne_eq, reduceCtorEq, Nat.reduceAdd, Nat.reduceSub, Nat.reduceLT, Nat.reduceLeDiff, Int.reduceEq, Int.reduceNeg, Int.reduceLT, Int.reduceLE, Int.reduceAdd, Int.reduceMul, Int.reduceSub]
  · have q : ∃ z : Int, (10 : Int) ^ (18 : Int).toNat = z := ⟨_, rfl⟩
    obtain ⟨z, hz⟩ := q
    by_cases hi : i < cs.length
    · have e := ix_b h0 hi
      generalize cs.getD i.toNat 0 = cell at e
      by_cases hc : z ≤ (if cell < 0 then -cell else cell)
      · refine ⟨?x1, ?i1, ?n1, ?s1, ?t1, ?m1, ?h1⟩
        case m1 =>
          simp only [h__law_pick, b__law_pick, tpe, hi, e, hn, hz, hc, m0, cd, p_1, Tw.ev, List.replicate, ne_eq, reduceCtorEq, Nat.reduceAdd, Nat.reduceSub, Nat.reduceLT, Nat.reduceLeDiff, Int.reduceEq, Int.reduceNeg, Int.reduceLT, Int.reduceLE, Int.reduceAdd, Int.reduceMul, Int.reduceSub]
          rfl
        case h1 => omega
      · refine ⟨?x2, ?i2, ?n2, ?s2, ?t2, ?m2, ?h2⟩
        case m2 =>
          simp only [h__law_pick, b__law_pick, tpe, hi, e, hn, hz, hc, m0, cd, c_1, c_3, cm_fm1, d_1, d_3, p_1, Tw.ev, List.replicate, ne_eq, reduceCtorEq, Nat.reduceAdd, Nat.reduceSub, Nat.reduceLT, Nat.reduceLeDiff, Int.reduceEq, Int.reduceNeg, Int.reduceLT, Int.reduceLE, Int.reduceAdd, Int.reduceMul, Int.reduceSub]
          rfl
        case h2 => omega
    · by_cases hc : z ≤ 0
      · refine ⟨?x3, ?i3, ?n3, ?s3, ?t3, ?m3, ?h3⟩
        case m3 =>
          simp only [h__law_pick, b__law_pick, tpe, hi, hn, hz, hc, m0, cd, p_1, Tw.ev, List.replicate, ne_eq, reduceCtorEq, Nat.reduceAdd, Nat.reduceSub, Nat.reduceLT, Nat.reduceLeDiff, Int.reduceEq, Int.reduceNeg, Int.reduceLT, Int.reduceLE, Int.reduceAdd, Int.reduceMul, Int.reduceSub]
          rfl
        case h3 => omega
      · refine ⟨?x4, ?i4, ?n4, ?s4, ?t4, ?m4, ?h4⟩
        case m4 =>
          simp only [h__law_pick, b__law_pick, tpe, hi, hn, hz, hc, m0, cd, c_1, c_3, cm_fm1, d_1, d_3, p_1, Tw.ev, List.replicate, ne_eq, reduceCtorEq, Nat.reduceAdd, Nat.reduceSub, Nat.reduceLT, Nat.reduceLeDiff, Int.reduceEq, Int.reduceNeg, Int.reduceLT, Int.reduceLE, Int.reduceAdd, Int.reduceMul, Int.reduceSub]
          rfl
        case h4 => omega
theorem pick_ok {d : D} {many : Int} (hd : Tape d) (h1 : 0 < many) (h2 : many < 1073741824) : ∃ (r : Int) (d' : D), h__law_pick [d, .int many] = .ret (.int r) [d'] ∧ (0 ≤ r ∧ r < many) ∧ Tape d' := by
  obtain ⟨cs, i, n, s, t, rfl, h0⟩ := hd
  obtain ⟨x, i', n', s', t', e, h⟩ := pick_x (n := n) (s := s) (t := t) (cs := cs) h0 h1 h2
  exact ⟨_, _, e, ⟨Int.fmod_nonneg_of_pos _ h1, Int.fmod_lt_of_pos _ h1⟩, ⟨cs, i', n', s', t', rfl, h⟩⟩
theorem any_mapD {α : Type} {f : α → D} {d : D} {m : Bool} {xs : List α} (hf : ∀ x, D.ok (f x) = true) (hd : Tape d) (h1 : 0 < xs.length) (h2 : xs.length < 1073741824) : ∃ (x : α) (d' : D), h__law_any [d, .lst m (xs.map f)] = .ret (f x) [d'] ∧ x ∈ xs ∧ Tape d' := by
  obtain ⟨r, d', e, ⟨b1, b2⟩, h⟩ := pick_ok (many := (xs.length : Int)) hd (by omega) (by omega)
  have h3 : r.toNat < xs.length := by omega
  have a := atI_mapD (f := f) b1 (List.getElem?_eq_getElem h3)
  have fz := frzs_mapD hf xs
  have ok := oks_mapD hf xs
  refine ⟨xs[r.toNat], d', ?_, List.getElem_mem h3, h⟩
  simp only [h__law_any, b__law_any, fz, ok, e, a, Tw.ev, List.replicate, ne_eq, reduceCtorEq, Nat.reduceAdd, Nat.reduceSub, Nat.reduceLT, Nat.reduceLeDiff, Int.reduceEq, Int.reduceNeg, Int.reduceLT, Int.reduceLE, Int.reduceAdd, Int.reduceMul, Int.reduceSub]
theorem all_ok {d d0 : D} {sizes : List Int} (hd : D.frz d = d0) (hi : D.items d0 = some (sizes.map .int)) (h : ∀ s ∈ sizes, 0 ≤ s ∧ s ≤ 4) (hl : sizes.length ≤ 6) : h__law_contents [d] = .ret (.lst false (rows (allOf sizes))) [] ∨ h__law_contents [d] = .ret (.lst true (rows (allOf sizes))) [] := by
  have loop := for_ind (bd := bNm 2) (g := D.int) (body := sSeq (sAsg (bNm 3) (fLst [])) (sSeq (sFor (iSeq (fVar 1)) (bNm 4) (sSeq (sExpr (fMt1 3 gExtend (fComp [5] (iRng [(fVar 2)]) (bNm 5) bTrue (fN gAdd [(.val (fVar 4)), (.val (fTup [(fVar 5)]))])))) sNil)) (sSeq (sAsg (bNm 1) (fVar 3)) sNil)))
    (fun i env => ∃ m y2 y3 y4, env = [some d0, some (.lst m (rows (allOf (sizes.take i)))), y2, y3, y4, none]) sizes 0 [some d0, some (.lst true (rows (allOf []))), none, none, none, none] ⟨true, none, none, none, by rw [List.take_zero]⟩ ?_
  · obtain ⟨env', ⟨m, y2, y3, y4, rfl⟩, e⟩ := loop
    rw [Nat.zero_add, List.take_length] at e
    have e0 : rows (allOf []) = [.tup []] := rfl
    rw [e0] at e
    cases m
    · left; simp only [h__law_contents, b__law_contents, hd, hi, e, Tw.ev, List.replicate, ne_eq, reduceCtorEq, Nat.reduceAdd, Nat.reduceSub, Nat.reduceLT, Nat.reduceLeDiff, Int.reduceEq, Int.reduceNeg, Int.reduceLT, Int.reduceLE, Int.reduceAdd, Int.reduceMul, Int.reduceSub]
    · right; simp only [h__law_contents, b__law_contents, hd, hi, e, Tw.ev, List.replicate, ne_eq, reduceCtorEq, Nat.reduceAdd, Nat.reduceSub, Nat.reduceLT, Nat.reduceLeDiff, Int.reduceEq, Int.reduceNeg, Int.reduceLT, Int.reduceLE, Int.reduceAdd, Int.reduceMul, Int.reduceSub]
  · rintro i s env his ⟨m, y2, y3, y4, rfl⟩
    rw [Nat.zero_add]
    have hs := h s (List.mem_of_getElem? his)
    have il : i < sizes.length := (List.getElem?_eq_some_iff.mp his).1
    have hr : rngOf [s] = some (0, s.toNat) := rngOf_1 (by omega)
    have lenA : (grow (allOf (sizes.take i)) s).length ≤ 4096 := by
      rw [← take_more his]
      exact allOf_len (fun x hx => (h x (List.mem_of_mem_take hx)).2) (by rw [List.length_take]; omega)
    rw [grow_len] at lenA
    have ls : lenOk s.toNat = true := lenOk_of (by omega)
    obtain ⟨env', ⟨z4, rfl⟩, e⟩ := for_ind (bd := bNm 4) (g := fun ns : List Int => D.tup (ns.map .int)) (body := sSeq (sExpr (fMt1 3 gExtend (fComp [5] (iRng [(fVar 2)]) (bNm 5) bTrue (fN gAdd [(.val (fVar 4)), (.val (fTup [(fVar 5)]))])))) sNil)
      (fun j env => ∃ y4, env = [some d0, some (.lst false (rows (allOf (sizes.take i)))), some (.int s), some (.lst true (rows (grow ((allOf (sizes.take i)).take j) s))), y4, none]) (allOf (sizes.take i)) 0
      [some d0, some (.lst false (rows (allOf (sizes.take i)))), some (.int s), some (.lst true []), y4, none] ⟨y4, by rw [List.take_zero]; rfl⟩ (by
        rintro j row env hj ⟨z4, rfl⟩
        rw [Nat.zero_add]
        have rl := row_of (by omega) (List.mem_of_getElem? hj)
        have jl : j < (allOf (sizes.take i)).length := (List.getElem?_eq_some_iff.mp hj).1
        refine ⟨_, ⟨some (.tup (row.map .int)), rfl⟩, fun ds => ?_⟩
        have l2 : lenOk (row.length + 1) = true := lenOk_of (by omega)
        have key := comp_map1 (vs := [5]) (b := bNm 5) (t := bTrue) (f := fN gAdd [.val (fVar 4), .val (fTup [fVar 5])]) (g := fun w : Nat => D.int (w : Int)) (env := [some d0, some (.lst false (rows (allOf (sizes.take i)))), some (.int s), some (.lst true (rows (grow ((allOf (sizes.take i)).take j) s))), some (.tup (row.map .int)), none])
          (fun w : Nat => D.tup (row.map .int ++ [.int (w : Int)])) (List.range s.toNat) fun w hw ds acc => by
            simp only [l2, Tw.ev, List.replicate, ne_eq, reduceCtorEq, Nat.reduceAdd, Nat.reduceSub, Nat.reduceLT, Nat.reduceLeDiff, Int.reduceEq, Int.reduceNeg, Int.reduceLT, Int.reduceLE, Int.reduceAdd, Int.reduceMul, Int.reduceSub]
        rw [← range_rows] at key
        have l3 : lenOk ((rows (grow ((allOf (sizes.take i)).take j) s)).length + (rows ((List.range s.toNat).map fun w : Nat => row ++ [(w : Int)])).length) = true := lenOk_of (by
          rw [rows_len, rows_len, grow_len, List.length_map, List.length_range, List.length_take]
          have : min j (allOf (sizes.take i)).length * s.toNat ≤ (allOf (sizes.take i)).length * s.toNat := Nat.mul_le_mul_right _ (Nat.min_le_right _ _)
          omega)
        rw [grow_more hj, rows_app]
        simp only [hr, rngD_0, ls, key, List.length_range, ext_lst, l3, List.length_map (f := fun w : Nat => D.int (w : Int)), Tw.e_run, Tw.e_rtR, Tw.e_rtX, Tw.e_rtN, Tw.e_io_nil, Tw.e_io_one, Tw.e_ioR1, Tw.e_seq, Tw.e_seqN, Tw.e_seqR, Tw.e_seqB, Tw.e_seqC, Tw.e_sNil, Tw.e_sBrk, Tw.e_sCont, Tw.e_sRet, Tw.e_sExpr, Tw.e_sIf, Tw.e_sAsg, Tw.e_nxR, Tw.e_bNm, Tw.e_sPar, Tw.e_sFor, Tw.e_sAug, Tw.e_augR, Tw.e_own, Tw.e_ownR, Tw.e_stR2, Tw.e_sStore, Tw.e_stR, Tw.e_stR3, Tw.e_m1R, Tw.e_m1S, Tw.e_m1T, Tw.e_mt1, Tw.e_m0S, Tw.e_mt0, Tw.e_var, Tw.e_varR, Tw.e_move, Tw.e_moveR, Tw.e_K, Tw.e_nil, Tw.e_val, Tw.e_slot, Tw.e_slotR, Tw.e_gnil, Tw.e_gval, Tw.e_gvR, Tw.e_gslot, Tw.e_gsR, Tw.e_gR, Tw.e_gpR, Tw.e_N, Tw.e_vals0, Tw.e_vals1, Tw.e_tup, Tw.e_lst, Tw.e_and, Tw.e_andT, Tw.e_andF, Tw.e_or, Tw.e_orT, Tw.e_orF, Tw.e_not, Tw.e_notR, Tw.e_bE, Tw.e_bR, Tw.e_bAnd, Tw.e_bOr, Tw.e_bNot, Tw.e_bTrue, Tw.e_if, Tw.e_chR2, Tw.e_chRT, Tw.e_chRF, Tw.e_chain, Tw.e_part0, Tw.e_part, Tw.e_partR, Tw.e_sl, Tw.e_rev, Tw.e_kval, Tw.e_kval2, Tw.e_kN, Tw.e_ktup, Tw.e_klst, Tw.e_kand, Tw.e_kor, Tw.e_knot, Tw.e_kbE, Tw.e_kbAnd, Tw.e_kbOr, Tw.e_kbNot, Tw.e_kif, Tw.e_kpart, Tw.e_krev, Tw.e_kcall, Tw.e_ksRet, Tw.e_ksExpr, Tw.e_ksIf, Tw.e_ksAsg, Tw.e_ksFor, Tw.e_ksStore, Tw.e_kstR, Tw.e_km1T, Tw.e_kiSeq, Tw.e_kiRng, Tw.e_kiZip, Tw.e_kmake, Tw.e_kfset, Tw.e_kchRT, Tw.e_kchain2, Tw.e_kchain, Tw.e_ksl, Tw.e_ksl2, Tw.e_ksl3, Tw.e_ksPar, Tw.e_ksPar2, Tw.e_ksAug, Tw.e_ksAug2, Tw.e_kcp3, Tw.e_kcomp, Tw.e_kcomp2, Tw.e_coR, Tw.e_kco2, Tw.e_kco, Tw.e_co, Tw.e_callR, Tw.e_call, Tw.e_io0, Tw.e_io1, Tw.e_io1R, Tw.e_itR, Tw.e_iSeq, Tw.e_rgR, Tw.e_iRng, Tw.e_zpR, Tw.e_iZip, Tw.e_comp, Tw.e_comp2, Tw.e_wipe0, Tw.e_wipe1, Tw.e_bTp, Tw.e_bTp2, Tw.e_index, Tw.e_dnew, Tw.ixD_1, Tw.key_int, Tw.key_str, Tw.e_dstore, Tw.ownDAt_eq', Tw.ownD_1, Tw.ixT_1, Tw.frz_dtt, Tw.ok_dtt, Tw.sum_lst, Tw.e_lz, Tw.dictT_1, Tw.e_bNil, Tw.e_bCons, Tw.e_mkR, Tw.e_make, Tw.e_fset, Tw.e_fsR, Tw.e_oo, Tw.e_ooR, Tw.e_coR2, Tw.tru_non, Tw.tru_bl, Tw.tru_int, Tw.tru_tup, Tw.tru_lst, Tw.asI_int, Tw.ints_nil, Tw.ints_cons, Tw.items_lst, Tw.items_tup, Tw.seqK_lst, Tw.seqK_tup, Tw.isN_int, Tw.isN_non, Tw.isN_tup, Tw.notN_int, Tw.notN_non, Tw.notN_tup, Tw.mul_int, Tw.add_int, Tw.sub_int, Tw.fdiv_int, Tw.mod_int, Tw.pow_int, Tw.lt_int, Tw.le_int, Tw.gt_int, Tw.ge_int, Tw.neg_int, Tw.imul_int, Tw.iadd_int, Tw.len_lst, Tw.len_tup, Tw.ix_lst, Tw.ix_tup, Tw.tuple_lst, Tw.tuple_tup, Tw.list_lst, Tw.list_tup, Tw.list_scr, Tw.abs_int, Tw.intC_int, Tw.intC_bl, Tw.all_lst, Tw.any_lst, Tw.isi_2, Tw.tag_non, Tw.tag_bl, Tw.tag_int, Tw.tag_str, Tw.tag_tup, Tw.tag_lst, Tw.tag_obj, Tw.asT_ty, Tw.asT_cl, Tw.frz_int, Tw.frz_bl, Tw.frz_non, Tw.frz_ty, Tw.frz_cl, Tw.frz_scr, Tw.frz_tup, Tw.frz_lst, Tw.frz_obj, Tw.frzs_nil, Tw.frzs_cons, Tw.ok_int, Tw.ok_bl, Tw.ok_non, Tw.ok_tup, Tw.ok_lst, Tw.ok_obj, Tw.doks_nil, Tw.doks_cons, Tw.sl_scr, Tw.sl_lst, Tw.sl_tup, Tw.rev_lst, Tw.rev_tup, Tw.eq_int, Tw.ne_int, Tw.sorted_2, Tw.e_lrR, Tw.e_klrg, Tw.e_lrg, Tw.sorted_lst, Tw.min_int, Tw.max_int, Tw.e_enR, Tw.e_kiEnum, Tw.e_iEnum, Tw.enumOf_1, Tw.e_kcpB, Tw.e_cpB, Tw.e_compB, Tw.e_fgN, Tw.e_fgC, Tw.e_fgB, Tw.e_fgRt, Tw.e_fgR, Tw.e_for0, Tw.e_for1, Tw.e_cgF, Tw.e_cgT, Tw.e_cgR, Tw.e_neo, Tw.e_cg0, Tw.e_cg1, Tw.e_c2A, Tw.e_c2I, Tw.e_c2T, Tw.e_c2R, Tw.e_c20, Tw.e_c21, Tw.at5_0, Tw.at5_1, Tw.at5_2, Tw.at5_3, Tw.at5_4, Tw.ix5_1, Tw.ix5_2, Tw.ix5_3, Tw.ix5_4, Tw.ints_map, Tw.e_frz, Tw.e_kfrz, Tw.e_fldO, Tw.e_Down, Tw.e_mtF1S, Tw.e_kmtF1, Tw.e_mtF1R, Tw.e_mtF1, Tw.e_mtF0R, Tw.e_mtF0, Tw.e_fldV, Tw.e_augF, Tw.e_kfaug, Tw.e_faugR, Tw.e_faug, Tw.e_methR, Tw.e_meth, Tw.e_mxR, Tw.e_kmaxD, Tw.e_maxD, Tw.intsOf_lst, Tw.intsOf_tup, Tw.e_mmR, Tw.e_mm, Tw.mul_tup, Tw.mul_lst, Tw.frz_str, Tw.ok_str, Tw.eq_str, Tw.ne_str, Tw.eq_bool, Tw.lt_str, Tw.le_str, Tw.items_str, Tw.add_tup, Tw.add_lst, Tw.oks_rows, Tw.frzs_rows, Tw.oks_int, Tw.frzs_int, Tw.oks_tI, Tw.ok_tI, Tw.frz_tI, Tw.e_bok, Tw.e_sbok, List.map_cons, List.map_nil, List.length_cons, List.length_nil, List.cons_append, List.nil_append, List.replicate, List.getElem?_cons_zero, List.getElem?_cons_succ, List.set_cons_zero, List.set_cons_succ, Option.bind_some, Option.map_some, Nat.zero_add, Nat.add_zero, Nat.reduceAdd, Nat.reduceSub, Nat.reduceLT, Nat.reduceLeDiff, Bool.and_true, Bool.true_and, Bool.and_self, Bool.not_true, Bool.not_false, Bool.false_and, Bool.and_false, Bool.or_true, Bool.true_or, Bool.or_false, Bool.false_or, if_true, if_false, Bool.false_eq_true, reduceCtorEq, ite_true, ite_false, decide_true, decide_false, decide_eq_true_eq, ne_eq, Int.reduceEq, not_false_eq_true, not_true_eq_false, Option.map_none, Int.reduceNeg, and_self, Int.reduceLT, Int.reduceLE, Int.reduceAdd, Int.reduceMul, Int.reduceSub])
    rw [Nat.zero_add, List.take_length] at e
    have e' : forGo (bNm 4) (sSeq (sExpr (fMt1 3 gExtend (fComp [5] (iRng [(fVar 2)]) (bNm 5) bTrue (fN gAdd [(.val (fVar 4)), (.val (fTup [(fVar 5)]))])))) sNil) (rows (allOf (sizes.take i))) [some d0, some (.lst false (rows (allOf (sizes.take i)))), some (.int s), some (.lst true []), y4, none] = _ := e
    refine ⟨_, ⟨false, some (.int s), some (.lst false (rows (allOf (sizes.take (i + 1))))), z4, rfl⟩, fun ds => ?_⟩
    rw [take_more his]
    simp only [e', Tw.ev, List.replicate, ne_eq, reduceCtorEq, Nat.reduceAdd, Nat.reduceSub, Nat.reduceLT, Nat.reduceLeDiff, Int.reduceEq, Int.reduceNeg, Int.reduceLT, Int.reduceLE, Int.reduceAdd, Int.reduceMul, Int.reduceSub]
theorem all_ok' {d d0 : D} {sizes : List Int} (hd : D.frz d = d0) (hi : D.items d0 = some (sizes.map .int)) (h : ∀ s ∈ sizes, 0 ≤ s ∧ s ≤ 4) (hl : sizes.length ≤ 6) : ∃ m, h__law_contents [d] = .ret (.lst m (rows (allOf sizes))) [] := by
  rcases all_ok hd hi h hl with e | e
  · exact ⟨_, e⟩
  · exact ⟨_, e⟩
theorem erase_mapG {α : Type} {f : α → D} : ∀ (xs : List α) (i : Nat), (xs.map f).eraseIdx i = (xs.eraseIdx i).map f
  | [], _ => rfl
  | x :: xs, 0 => rfl
  | x :: xs, i + 1 => by
    rw [List.map_cons, List.eraseIdx_cons_succ, List.eraseIdx_cons_succ, List.map_cons, erase_mapG xs i]
theorem pop_atG {α : Type} {f : α → D} (hf : ∀ x, D.ok (f x) = true) {xs : List α} {q : Int} {x : α} (h0 : 0 ≤ q) (h1 : xs[q.toNat]? = some x) (hb : xs.length ≤ 1000000) : gPopAt (xs.map f) (.int q) = some (f x, (xs.eraseIdx q.toNat).map f) := by
  have hl : q.toNat < xs.length := (List.getElem?_eq_some_iff.mp h1).1
  have si : seqIndex? q (xs.map f).length = some q.toNat := by
    unfold seqIndex?
    rw [List.length_map]
    have e : (if q < 0 then q + (xs.length : Int) else q) = q := if_neg (by omega)
    simp only [e]
    rw [if_pos (by simp only [Bool.and_eq_true, decide_eq_true_eq]; omega)]
  have c : (D.oks (xs.map f) && decide (-(2 ^ 63) ≤ q ∧ q < 2 ^ 63)) = true := by
    rw [oks_mapD hf, Bool.true_and]
    exact decide_eq_true ⟨by omega, by omega⟩
  unfold gPopAt
  rw [Tw.asI_int, Option.bind_some, if_pos c, si, Option.bind_some, List.getElem?_map, h1]
  simp only [Option.map_some, Option.some.injEq, Prod.mk.injEq, true_and]
  exact erase_mapG xs q.toNat
theorem erase_permG {α : Type} : ∀ (xs : List α) (i : Nat) (h : i < xs.length), (xs[i] :: xs.eraseIdx i).Perm xs
  | x :: xs, 0, _ => List.Perm.refl _
  | x :: xs, i + 1, h => by
    have hi : i < xs.length := by rw [List.length_cons] at h; omega
    have ih := erase_permG xs i hi
    show (xs[i] :: x :: xs.eraseIdx i).Perm (x :: xs)
    exact (List.Perm.swap x xs[i] _).trans (ih.cons x)
theorem mixed_loop {α : Type} {f : α → D} (hf : ∀ x, D.ok (f x) = true) {A : Option D} : ∀ (is : List Nat) (acc left : List α) (hd : D), Tape hd → is.length = left.length → left.length ≤ 1000000 → ∃ (vals : List α) (hd' : D), Tape hd' ∧ vals.Perm left ∧
    compGo [3] (bNm 3) bTrue c__law_mixed_1 (is.map fun i : Nat => .int (i : Int)) (acc.map f) [some hd, A, some (.lst true (left.map f)), none] = .ok ((acc ++ vals).map f) [some hd', A, some (.lst true []), none]
  | [], acc, left, hd, hh, hl, _ => by
    have : left = [] := List.length_eq_zero_iff.mp hl.symm
    subst this
    refine ⟨[], hd, hh, List.Perm.refl _, ?_⟩
    rw [List.append_nil]
    rfl
  | x :: xs, acc, left, hd, hh, hl, h9 => by
    rw [List.length_cons] at hl
    obtain ⟨q, hd1, e1, ⟨q0, q1⟩, hh1⟩ := pick_ok (many := (left.length : Int)) hh (by omega) (by omega)
    have ql : q.toNat < left.length := by omega
    have e4 := pop_atG hf q0 (List.getElem?_eq_getElem ql) (by omega)
    have le : (left.eraseIdx q.toNat).length + 1 = left.length := by rw [List.length_eraseIdx_of_lt ql]; omega
    have pm := erase_permG left q.toNat ql
    obtain ⟨vals, hd2, hh2, pv, e2⟩ := mixed_loop hf (A := A) xs (acc ++ [left[q.toNat]]) (left.eraseIdx q.toNat) hd1 hh1 (by omega) (by omega)
    refine ⟨left[q.toNat] :: vals, hd2, hh2, (pv.cons _).trans pm, ?_⟩
    have em : (acc ++ [left[q.toNat]]).map f = acc.map f ++ [f left[q.toNat]] := by simp
    rw [em] at e2
    rw [show acc ++ left[q.toNat] :: vals = acc ++ [left[q.toNat]] ++ vals by simp, ← e2, List.map_cons]
    simp only [c__law_mixed_1, e1, e4, Tw.ev, List.replicate, ne_eq, reduceCtorEq, Nat.reduceAdd, Nat.reduceSub, Nat.reduceLT, Nat.reduceLeDiff, Int.reduceEq, Int.reduceNeg, Int.reduceLT, Int.reduceLE, Int.reduceAdd, Int.reduceMul, Int.reduceSub]
theorem mixed_ok {α : Type} {f : α → D} (hf : ∀ x, D.ok (f x) = true) {d : D} {m : Bool} {xs : List α} (hd : Tape d) (hl : xs.length ≤ 1000000) : ∃ (ys : List α) (d' : D), h__law_mixed [d, .lst m (xs.map f)] = .ret (.lst true (ys.map f)) [d'] ∧ ys.Perm xs ∧ Tape d' := by
  have ok := oks_mapD hf xs
  have fz := frzs_mapD hf xs
  have hr : rngOf [(xs.length : Int)] = some (0, xs.length) := rngOf_n (by omega)
  have ll : lenOk xs.length = true := lenOk_of (by omega)
  obtain ⟨ys, d', hd', p, e⟩ := mixed_loop hf (A := some (.lst false (xs.map f))) (List.range xs.length) [] xs d hd List.length_range hl
  rw [List.map_nil, List.nil_append] at e
  refine ⟨ys, d', ?_, p, hd'⟩
  simp only [h__law_mixed, b__law_mixed, ok, fz, hr, ll, rngD_0, List.length_range, e, Tw.ev, List.replicate, ne_eq, reduceCtorEq, Nat.reduceAdd, Nat.reduceSub, Nat.reduceLT, Nat.reduceLeDiff, Int.reduceEq, Int.reduceNeg, Int.reduceLT, Int.reduceLE, Int.reduceAdd, Int.reduceMul, Int.reduceSub]
/-- the sizes to draw from -/
def sizes16 : List (List Int) := [[2], [2, 2], [2, 2], [2, 2, 2], [2, 2, 2], [3, 2], [2, 3], [4, 2], [3, 3], [2, 2, 2, 2], [3, 2, 2], [4, 4], [2, 2, 2, 2, 2], [3, 3, 3], [2, 2, 2, 2, 2, 2], [4, 2, 3, 2]]
theorem sz16 : ∀ ns ∈ sizes16, Sz ns := by unfold Sz; decide
theorem lsizes16_ok {d : D} {most : Int} (hd : Tape d) (hm : 2 ≤ most) : ∃ ns d', h__law_sizes [d, .int most] = .ret (.tup (ns.map .int)) [d'] ∧ ns ∈ sizes16 ∧ Sz ns ∧ ((allOf ns).length : Int) ≤ most ∧ Tape d' := by
  have key := comp_filter (vs := [3]) (b := bNm 3) (t := t__law_sizes_1) (f := c__law_sizes_1) (g := fun ns : List Int => D.tup (ns.map .int)) (env := [some d, some (.int most), some (.lst false (rows sizes16)), none]) (fun ns => decide (((allOf ns).length : Int) ≤ most)) sizes16 fun ns hn ds acc => by
    have sz := sz16 ns hn
    obtain ⟨mm, ea⟩ := all_ok' (d := .tup (ns.map .int)) (d0 := .tup (ns.map .int)) (by simp only [Tw.ev, List.replicate, ne_eq, reduceCtorEq, Nat.reduceAdd, Nat.reduceSub, Nat.reduceLT, Nat.reduceLeDiff, Int.reduceEq, Int.reduceNeg, Int.reduceLT, Int.reduceLE, Int.reduceAdd, Int.reduceMul, Int.reduceSub]) (by simp only [Tw.ev, List.replicate, ne_eq, reduceCtorEq, Nat.reduceAdd, Nat.reduceSub, Nat.reduceLT, Nat.reduceLeDiff, Int.reduceEq, Int.reduceNeg, Int.reduceLT, Int.reduceLE, Int.reduceAdd, Int.reduceMul, Int.reduceSub]) sz.b sz.2.1
    have la : (allOf ns).length ≤ 4096 := allOf_len (fun s hs => (sz.b s hs).2) sz.2.1
    have lA : lenOk (allOf ns).length = true := lenOk_of (by omega)
    by_cases c : ((allOf ns).length : Int) ≤ most
    · rw [decide_eq_true c, if_pos rfl]
      simp only [t__law_sizes_1, c__law_sizes_1, ea, lA, c, Tw.ev, List.replicate, ne_eq, reduceCtorEq, Nat.reduceAdd, Nat.reduceSub, Nat.reduceLT, Nat.reduceLeDiff, Int.reduceEq, Int.reduceNeg, Int.reduceLT, Int.reduceLE, Int.reduceAdd, Int.reduceMul, Int.reduceSub]
    · rw [decide_eq_false c, if_neg (by decide), List.append_nil]
      simp only [t__law_sizes_1, c__law_sizes_1, ea, lA, c, Tw.ev, List.replicate, ne_eq, reduceCtorEq, Nat.reduceAdd, Nat.reduceSub, Nat.reduceLT, Nat.reduceLeDiff, Int.reduceEq, Int.reduceNeg, Int.reduceLT, Int.reduceLE, Int.reduceAdd, Int.reduceMul, Int.reduceSub]
  obtain ⟨Q, eQ⟩ : ∃ Q, Q = sizes16.filter fun ns => decide (((allOf ns).length : Int) ≤ most) := ⟨_, rfl⟩
  rw [← eQ] at key
  have hq : 0 < Q.length := by
    refine List.length_pos_of_mem (a := [2]) ?_
    rw [eQ, List.mem_filter]
    exact ⟨by decide, decide_eq_true (show ((allOf [2]).length : Int) ≤ most from by
      have : (allOf [2]).length = 2 := by decide
      rw [this]
      exact hm)⟩
  have hq2 : Q.length ≤ 16 := by rw [eQ]; exact List.length_filter_le _ _
  obtain ⟨ns, d', e2, hm2, hd'⟩ := any_mapD (f := fun ns : List Int => D.tup (ns.map .int)) (m := true) (xs := Q) (fun x => by rw [D.ok, oks_int]) hd hq (by omega)
  rw [eQ, List.mem_filter] at hm2
  refine ⟨ns, d', ?_, hm2.1, sz16 ns hm2.1, of_decide_eq_true hm2.2, hd'⟩
  have key' : compGo [3] (bNm 3) t__law_sizes_1 c__law_sizes_1 (rows sizes16) [] _ = _ := key
  have er : rows sizes16 = [.tup [.int 2], .tup [.int 2, .int 2], .tup [.int 2, .int 2], .tup [.int 2, .int 2, .int 2], .tup [.int 2, .int 2, .int 2], .tup [.int 3, .int 2], .tup [.int 2, .int 3], .tup [.int 4, .int 2], .tup [.int 3, .int 3], .tup [.int 2, .int 2, .int 2, .int 2], .tup [.int 3, .int 2, .int 2], .tup [.int 4, .int 4], .tup [.int 2, .int 2, .int 2, .int 2, .int 2], .tup [.int 3, .int 3, .int 3], .tup [.int 2, .int 2, .int 2, .int 2, .int 2, .int 2], .tup [.int 4, .int 2, .int 3, .int 2]] := rfl
  rw [er] at key'
  have l4 : lenOk 16 = true := lenOk_of (by omega)
  simp only [h__law_sizes, b__law_sizes, l4, key', e2, Tw.ev, List.replicate, ne_eq, reduceCtorEq, Nat.reduceAdd, Nat.reduceSub, Nat.reduceLT, Nat.reduceLeDiff, Int.reduceEq, Int.reduceNeg, Int.reduceLT, Int.reduceLE, Int.reduceAdd, Int.reduceMul, Int.reduceSub]
theorem ljoints_ok {sizes lot : List Int} (hb : ∀ s ∈ sizes, 0 ≤ s ∧ s ≤ 4) (hl : ∀ p ∈ lot, 0 ≤ p ∧ p < sizes.length) (l : lot.length ≤ 6) : ∃ m, h__law_joints [.tup (sizes.map .int), .tup (lot.map .int)] = .ret (.lst m (rows (allOf (atLot sizes lot)))) [] := by
  have l1 : lenOk lot.length = true := lenOk_of (by omega)
  have key := at_comp (vs := []) hl
  obtain ⟨m, e⟩ := all_ok' (d := .lst true ((atLot sizes lot).map .int)) (d0 := .lst false ((atLot sizes lot).map .int)) (sizes := atLot sizes lot) (by rw [Tw.frz_lst, frzs_int]) (by rw [Tw.items_lst, oks_int]; rfl) (at_b hb hl) (by unfold atLot; rw [List.length_map]; exact l)
  exact ⟨m, by simp only [h__law_joints, b__law_joints, l1, key, e, Tw.ev, List.replicate, ne_eq, reduceCtorEq, Nat.reduceAdd, Nat.reduceSub, Nat.reduceLT, Nat.reduceLeDiff, Int.reduceEq, Int.reduceNeg, Int.reduceLT, Int.reduceLE, Int.reduceAdd, Int.reduceMul, Int.reduceSub]⟩
theorem ljoint_ok {c lot : List Int} (hl : ∀ p ∈ lot, 0 ≤ p ∧ p < c.length) (l : lot.length ≤ 1000) : h__law_joint [.tup (lot.map .int), .tup (c.map .int)] = .ret (.tup ((atLot c lot).map .int)) [] := by
  have l1 : lenOk lot.length = true := lenOk_of (by omega)
  have key : compGo [2] (bNm 2) bTrue c__law_joint_1 (lot.map .int) [] [some (.tup (lot.map .int)), some (.tup (c.map .int)), none] = .ok ((atLot c lot).map .int) [some (.tup (lot.map .int)), some (.tup (c.map .int)), none] := by
    unfold atLot
    rw [List.map_map]
    refine comp_map1 (fun p => .int (c.getD p.toNat 0)) lot fun x hx ds acc => ?_
    have a := atI_map (hl x hx).1 (hl x hx).2
    simp only [c__law_joint_1, a, Tw.ev, List.replicate, ne_eq, reduceCtorEq, Nat.reduceAdd, Nat.reduceSub, Nat.reduceLT, Nat.reduceLeDiff, Int.reduceEq, Int.reduceNeg, Int.reduceLT, Int.reduceLE, Int.reduceAdd, Int.reduceMul, Int.reduceSub]
  simp only [h__law_joint, b__law_joint, l1, key, Tw.ev, List.replicate, ne_eq, reduceCtorEq, Nat.reduceAdd, Nat.reduceSub, Nat.reduceLT, Nat.reduceLeDiff, Int.reduceEq, Int.reduceNeg, Int.reduceLT, Int.reduceLE, Int.reduceAdd, Int.reduceMul, Int.reduceSub]
end K29
namespace K29
open PySem PySem.Spec PyProof.Rows L2 Tw
theorem lenset_int {f : Ev} {m : List Int} {env env' : Tw.Env} (h : m.length ≤ 4000) (e : f env = .ok (.tup (m.map .int)) env') : fLenSet f env = .ok (.int (nub m).length) env' := by
  unfold fLenSet
  rw [e, Rs.bind_ok]
  simp only [Tw.seqK_tup, oks_int, if_true, Tw.ints_map, h]
theorem joints_ok {sizes lot : List Int} (hb : ∀ s ∈ sizes, 0 ≤ s ∧ s ≤ 4) (hl : ∀ p ∈ lot, 0 ≤ p ∧ p < sizes.length) (l : lot.length ≤ 6) : h_joints_of [.tup (sizes.map .int), .tup (lot.map .int)] = .ret (.lst true (rows (allOf (atLot sizes lot)))) [] := by
  have e1 := sizes_at_ok hl (by omega)
  have e2 := tuples_ok (at_b hb hl) (by unfold atLot; rw [List.length_map]; exact l)
  simp only [h_joints_of, b_joints_of, e1, e2, Tw.ev, List.replicate, ne_eq, reduceCtorEq, Nat.reduceAdd, Nat.reduceSub, Nat.reduceLT, Nat.reduceLeDiff, Int.reduceEq, Int.reduceNeg, Int.reduceLT, Int.reduceLE, Int.reduceAdd, Int.reduceMul, Int.reduceSub]
/-- the look with one map at a joint worth and another one else -/
def oneL (sizes lot joint there still : List Int) : Look := (lot, (allOf (atLot sizes lot)).map fun o => if o = joint then there else still)
theorem one_look_ok {sizes lot joint there still : List Int} (sz : Sz sizes) (hl : ∀ p ∈ lot, 0 ≤ p ∧ p < sizes.length) (l : lot.length ≤ 6) : h_one_look [.tup (sizes.map .int), .tup (lot.map .int), .tup (joint.map .int), .tup (there.map .int), .tup (still.map .int)] = .ret (lkD (oneL sizes lot joint there still)) [] := by
  have ej := joints_ok sz.b hl l
  have la : (allOf (atLot sizes lot)).length ≤ 4096 := allOf_len (fun s hs => (at_b sz.b hl s hs).2) (by unfold atLot; rw [List.length_map]; exact l)
  have l1 : lenOk (allOf (atLot sizes lot)).length = true := lenOk_of (by omega)
  have key := comp_map1 (vs := [5]) (b := bNm 5) (t := bTrue) (f := c_one_look_1) (g := fun ns : List Int => D.tup (ns.map .int)) (env := [some (.tup (sizes.map .int)), some (.tup (lot.map .int)), some (.tup (joint.map .int)), some (.tup (there.map .int)), some (.tup (still.map .int)), none]) (fun o => .tup ((if o = joint then there else still).map .int)) (allOf (atLot sizes lot)) fun o ho ds acc => by
    have e := eq_ints2 o joint
    by_cases c : o = joint
    · rw [decide_eq_true c] at e
      rw [if_pos c]
      simp only [c_one_look_1, e, Tw.ev, List.replicate, ne_eq, reduceCtorEq, Nat.reduceAdd, Nat.reduceSub, Nat.reduceLT, Nat.reduceLeDiff, Int.reduceEq, Int.reduceNeg, Int.reduceLT, Int.reduceLE, Int.reduceAdd, Int.reduceMul, Int.reduceSub]
    · rw [decide_eq_false c] at e
      rw [if_neg c]
      simp only [c_one_look_1, e, Tw.ev, List.replicate, ne_eq, reduceCtorEq, Nat.reduceAdd, Nat.reduceSub, Nat.reduceLT, Nat.reduceLeDiff, Int.reduceEq, Int.reduceNeg, Int.reduceLT, Int.reduceLE, Int.reduceAdd, Int.reduceMul, Int.reduceSub]
  have key' : compGo [5] (bNm 5) bTrue c_one_look_1 (rows (allOf (atLot sizes lot))) [] _ = _ := key
  have em : ((allOf (atLot sizes lot)).map fun o => D.tup ((if o = joint then there else still).map .int)) = rows ((allOf (atLot sizes lot)).map fun o => if o = joint then there else still) := by unfold rows; rw [List.map_map]; rfl
  rw [em] at key'
  have el : lkD (oneL sizes lot joint there still) = .tup [.tup (lot.map .int), .tup (rows ((allOf (atLot sizes lot)).map fun o => if o = joint then there else still))] := rfl
  rw [el]
  simp only [h_one_look, b_one_look, ej, l1, key', Tw.ev, List.replicate, ne_eq, reduceCtorEq, Nat.reduceAdd, Nat.reduceSub, Nat.reduceLT, Nat.reduceLeDiff, Int.reduceEq, Int.reduceNeg, Int.reduceLT, Int.reduceLE, Int.reduceAdd, Int.reduceMul, Int.reduceSub]
/-- each of some standings leads to the next one -/
def setsL (ps : List (Int × Int)) (l : List Int) : List Int := ps.foldl (fun l p => l.set p.1.toNat p.2) l
def ledR (n : Nat) (xs : List Int) : List Int := setsL (xs.zip (xs.drop 1 ++ xs.take 1)) (ups n)
theorem sets_len : ∀ (ps : List (Int × Int)) (l : List Int), (setsL ps l).length = l.length
  | [], _ => rfl
  | p :: ps, l => by
    show (setsL ps (l.set p.1.toNat p.2)).length = _
    rw [sets_len ps, List.length_set]
theorem ixN_of {n : Nat} {z : Int} (h0 : 0 ≤ z) (h1 : z < n) : ixN n z = some z.toNat := by
  unfold ixN
  rw [if_pos h0, if_pos (by omega)]
theorem led_round_ok {n : Nat} {xs : List Int} (h : ∀ x ∈ xs, 0 ≤ x ∧ x < (n : Int)) (hl : xs.length ≤ 8) (hn : n ≤ 8) : h_led_round [.int n, .tup (xs.map .int)] = .ret (.tup ((ledR n xs).map .int)) [] := by
  have hg := rgN_n (n := n) (by omega)
  have e1 := cut_from (ns := xs) (i := 1) (by omega)
  have e2 := cut_to (ns := xs) (i := 1) (by omega)
  have t1 : (1 : Int).toNat = 1 := rfl
  rw [t1] at e1 e2
  have l1 : lenOk ((xs.drop 1).length + (xs.take 1).length) = true := lenOk_of (by rw [List.length_drop, List.length_take]; omega)
  have ez : zipOf [.tup (xs.map .int), .tup ((xs.drop 1).map .int ++ (xs.take 1).map .int)] = some (true, xs.map .int, (xs.drop 1 ++ xs.take 1).map .int) := by rw [← List.map_append]; exact zip_ints _ _
  have ed := zipD_ints xs (xs.drop 1 ++ xs.take 1)
  obtain ⟨y', e⟩ := for_fx (bd := bTp (bCons (bNm 3) (bCons (bNm 4) bNil))) (body := l_led_round_1) (g := fun p : Int × Int => D.pr [.int p.1, .int p.2]) (fun (l : List Int) (y : Option D × Option D) => [some (.int n), some (.tup (xs.map .int)), some (.lst true (l.map .int)), y.1, y.2]) (fun l p => l.set p.1.toNat p.2) (xs.zip (xs.drop 1 ++ xs.take 1)) (ups n) (none, none) (by
    rintro i ⟨a, b⟩ ⟨y1, y2⟩ hi
    have ha := h a (List.of_mem_zip (List.mem_of_getElem? hi)).1
    have ln : ((List.take i (xs.zip (xs.drop 1 ++ xs.take 1))).foldl (fun l p => l.set p.1.toNat p.2) (ups n)).length = n := by
      have := sets_len (List.take i (xs.zip (xs.drop 1 ++ xs.take 1))) (ups n)
      rw [ups_len] at this
      exact this
    generalize (List.take i (xs.zip (xs.drop 1 ++ xs.take 1))).foldl (fun l p => l.set p.1.toNat p.2) (ups n) = L at ln
    have ei : ixN L.length a = some a.toNat := ixN_of ha.1 (by omega)
    have es : (L.map D.int).set a.toNat (.int b) = (L.set a.toNat b).map .int := List.map_set.symm
    refine ⟨_, (some (.int a), some (.int b)), by simp only [Tw.ev, List.replicate, ne_eq, reduceCtorEq, Nat.reduceAdd, Nat.reduceSub, Nat.reduceLT, Nat.reduceLeDiff, Int.reduceEq, Int.reduceNeg, Int.reduceLT, Int.reduceLE, Int.reduceAdd, Int.reduceMul, Int.reduceSub]; rfl, .inl ?_⟩
    simp only [l_led_round_1, ei, es, Tw.ev, List.replicate, ne_eq, reduceCtorEq, Nat.reduceAdd, Nat.reduceSub, Nat.reduceLT, Nat.reduceLeDiff, Int.reduceEq, Int.reduceNeg, Int.reduceLT, Int.reduceLE, Int.reduceAdd, Int.reduceMul, Int.reduceSub])
  rw [← ed] at e
  have e' : forGo (bTp (bCons (bNm 3) (bCons (bNm 4) bNil))) l_led_round_1 (zipD (xs.map D.int) ((xs.drop 1 ++ xs.take 1).map D.int)) [some (.int n), some (.tup (xs.map .int)), some (.lst true ((ups n).map .int)), none, none] = .next [some (.int n), some (.tup (xs.map .int)), some (.lst true ((ledR n xs).map .int)), y'.1, y'.2] := e
  simp only [h_led_round, b_led_round, hg, e1, e2, l1, ez, e', Tw.ev, List.replicate, ne_eq, reduceCtorEq, Nat.reduceAdd, Nat.reduceSub, Nat.reduceLT, Nat.reduceLeDiff, Int.reduceEq, Int.reduceNeg, Int.reduceLT, Int.reduceLE, Int.reduceAdd, Int.reduceMul, Int.reduceSub]
theorem undone_ok {m : Bool} {sizes : List Int} {n : Nat} {ls : List Look} (h8 : n ≤ 8) (h : ∀ l ∈ ls, LookOk sizes n l ∧ l.2.length ≤ 5000) (ht : ∀ l ∈ ls, TurnOk l) (hn : ls.length ≤ 100000) : h_undone [.lst m (ls.map lkD)] = .ret (.lst true ((backs n ls).map lkD)) [] := by
  have key := comp_map1 (vs := [1, 2]) (b := bTp (bCons (bNm 1) (bCons (bNm 2) bNil))) (t := bTrue) (f := c_undone_2) (g := lkD) (env := [some (.lst false (ls.map lkD)), none, none, none]) (fun l => lkD (backL n l)) ls.reverse fun l hl ds acc => by
    have hl := List.mem_reverse.mp hl
    obtain ⟨lot, maps⟩ := l
    have h5 := (h _ hl).2
    have key := comp_map1 (vs := [3]) (b := bNm 3) (t := bTrue) (f := c_undone_1) (g := fun m : List Int => D.tup (m.map .int)) (env := [some (.lst false (ls.map lkD)), some (.tup (lot.map .int)), some (.tup (rows maps)), none]) (fun m => .tup ((inv n m).map .int)) maps fun m hm ds acc => by
      have e := turned_back_ok ((h _ hl).1.2.2.2 m hm) (ht _ hl m hm) h8
      simp only [c_undone_1, e, Tw.ev, List.replicate, ne_eq, reduceCtorEq, Nat.reduceAdd, Nat.reduceSub, Nat.reduceLT, Nat.reduceLeDiff, Int.reduceEq, Int.reduceNeg, Int.reduceLT, Int.reduceLE, Int.reduceAdd, Int.reduceMul, Int.reduceSub]
    have key' : compGo [3] (bNm 3) bTrue c_undone_1 (rows maps) [] [some (.lst false (ls.map lkD)), some (.tup (lot.map .int)), some (.tup (rows maps)), none] = .ok (rows (maps.map (inv n))) [some (.lst false (ls.map lkD)), some (.tup (lot.map .int)), some (.tup (rows maps)), none] := by
      have em : rows (maps.map (inv n)) = maps.map fun m => D.tup ((inv n m).map .int) := by unfold rows; rw [List.map_map]; rfl
      rw [em]
      exact key
    have l1 : lenOk maps.length = true := lenOk_of (by have : maps.length ≤ 5000 := h5; omega)
    have eb : lkD (backL n (lot, maps)) = .tup [.tup (lot.map .int), .tup (rows (maps.map (inv n)))] := rfl
    have el : lkD (lot, maps) = .tup [.tup (lot.map .int), .tup (rows maps)] := rfl
    rw [eb, el]
    simp only [c_undone_2, l1, key', Tw.ev, List.replicate, ne_eq, reduceCtorEq, Nat.reduceAdd, Nat.reduceSub, Nat.reduceLT, Nat.reduceLeDiff, Int.reduceEq, Int.reduceNeg, Int.reduceLT, Int.reduceLE, Int.reduceAdd, Int.reduceMul, Int.reduceSub]
  have e2 : (backs n ls).map lkD = ls.reverse.map fun l => lkD (backL n l) := by unfold backs; rw [List.map_map]; rfl
  have e3 : (ls.map lkD).reverse = ls.reverse.map lkD := List.map_reverse.symm
  rw [e2]
  have l1 : lenOk ls.length = true := lenOk_of (by omega)
  have l2 : lenOk ls.reverse.length = true := by rw [List.length_reverse]; exact l1
  simp only [h_undone, b_undone, oks_looks, frzs_looks, e3, l1, l2, key, Tw.ev, List.replicate, ne_eq, reduceCtorEq, Nat.reduceAdd, Nat.reduceSub, Nat.reduceLT, Nat.reduceLeDiff, Int.reduceEq, Int.reduceNeg, Int.reduceLT, Int.reduceLE, Int.reduceAdd, Int.reduceMul, Int.reduceSub]
theorem inv_nd {n : Nat} {m : List Int} (h : Mp n m) (nd : m.Nodup) : (inv n m).Nodup := by
  show List.Pairwise _ _
  unfold inv
  rw [List.pairwise_map]
  refine List.Pairwise.imp_of_mem ?_ (ups_nodup n)
  intro a b ha hb hab e
  have ha := mem_ups.mp ha
  have hb := mem_ups.mp hb
  have e1 := inv_r h nd ha.1 ha.2
  have e2 := inv_r h nd hb.1 hb.2
  rw [inv_at ha.1 ha.2] at e1
  rw [inv_at hb.1 hb.2] at e2
  rw [e] at e1
  exact hab (by rw [← e1, e2])
theorem back_turn {sizes : List Int} {n : Nat} {ls : List Look} (h : ∀ l ∈ ls, LookOk sizes n l) (ht : ∀ l ∈ ls, TurnOk l) : ∀ l ∈ backs n ls, TurnOk l := fun l hl => by
  obtain ⟨l', h', rfl⟩ := List.mem_map.mp hl
  have h' := List.mem_reverse.mp h'
  intro m hm
  obtain ⟨m', hm', rfl⟩ := List.mem_map.mp hm
  exact inv_nd ((h l' h').2.2.2 m' hm') (ht l' h' m' hm')
theorem back_len {n : Nat} {l : Look} : (backL n l).2.length = l.2.length := List.length_map _
theorem is_round_ok {n : Nat} {a b d : Int} (hn : n ≤ 8) (h : ∀ x ∈ [a, b, d], 0 ≤ x ∧ x < (n : Int)) (nd : [a, b, d].Nodup) : h_is_round [.int n, .tup [.int a, .int b, .int d]] = .ret (.bl true) [] := by
  have key := comp_map1 (vs := [2]) (b := bNm 2) (t := bTrue) (f := c_is_round_1) (g := D.int) (env := [some (.int n), some (.tup [.int a, .int b, .int d]), none]) (fun _ => .bl true) [a, b, d] fun x hx ds acc => by
    have a1 := (h x hx).1
    have a2 : x ≤ (n : Int) - 1 := by have := (h x hx).2; omega
    simp only [c_is_round_1, within_ok, a1, a2, Tw.ev, List.replicate, ne_eq, reduceCtorEq, Nat.reduceAdd, Nat.reduceSub, Nat.reduceLT, Nat.reduceLeDiff, Int.reduceEq, Int.reduceNeg, Int.reduceLT, Int.reduceLE, Int.reduceAdd, Int.reduceMul, Int.reduceSub]
  simp only [List.map_cons, List.map_nil] at key
  have e : fVar 1 [some (.int n), some (.tup [.int a, .int b, .int d]), none] = .ok (.tup (([a, b, d] : List Int).map .int)) [some (.int n), some (.tup [.int a, .int b, .int d]), none] := by simp only [Tw.ev, List.replicate, ne_eq, reduceCtorEq, Nat.reduceAdd, Nat.reduceSub, Nat.reduceLT, Nat.reduceLeDiff, Int.reduceEq, Int.reduceNeg, Int.reduceLT, Int.reduceLE, Int.reduceAdd, Int.reduceMul, Int.reduceSub]
  have el := lenset_int (f := fVar 1) (m := [a, b, d]) (by simp) e
  rw [nub_self nd] at el
  have eb : D.bools [.bl true, .bl true, .bl true] = some [true, true, true] := rfl
  have l3 : lenOk 3 = true := lenOk_of (by omega)
  have ea : [true, true, true].all id = true := rfl
  simp only [h_is_round, b_is_round, isa_tuple_tuple, key, el, eb, l3, ea, Tw.cst_0, Tw.cst_1, Tw.cst_2, Tw.cst_3, Tw.cst_4, Tw.cst_5, Tw.ev, List.replicate, ne_eq, reduceCtorEq, Nat.reduceAdd, Nat.reduceSub, Nat.reduceLT, Nat.reduceLeDiff, Int.reduceEq, Int.reduceNeg, Int.reduceLT, Int.reduceLE, Int.reduceAdd, Int.reduceMul, Int.reduceSub]
theorem check_content_ok {sizes c : List Int} (sz : Sz sizes) (hc : c ∈ allOf sizes) : h_check_content [.tup (sizes.map .int), .tup (c.map .int)] = .ret .non [] := by
  have e := is_content_ok (ct_all sz hc).1.1 sz.2.1 (ct_all sz hc).2
  simp only [h_check_content, b_check_content, e, Tw.ev, List.replicate, ne_eq, reduceCtorEq, Nat.reduceAdd, Nat.reduceSub, Nat.reduceLT, Nat.reduceLeDiff, Int.reduceEq, Int.reduceNeg, Int.reduceLT, Int.reduceLE, Int.reduceAdd, Int.reduceMul, Int.reduceSub]
theorem check_standings_ok {n : Nat} (h3 : 3 ≤ n) (h8 : n ≤ 8) : h_check_standings [.int n, .int 0] = .ret .non [] := by
  have a1 : (3 : Int) ≤ n := by omega
  have a2 : (n : Int) ≤ 8 := by omega
  have a3 : (if (0 : Int) > 3 then (0 : Int) else 3) = 3 := rfl
  simp only [h_check_standings, b_check_standings, within_ok, a1, a2, a3, Tw.ev, List.replicate, ne_eq, reduceCtorEq, Nat.reduceAdd, Nat.reduceSub, Nat.reduceLT, Nat.reduceLeDiff, Int.reduceEq, Int.reduceNeg, Int.reduceLT, Int.reduceLE, Int.reduceAdd, Int.reduceMul, Int.reduceSub]
end K29
namespace K29
open PySem PySem.Spec PyProof.Rows L2 Tw
def cyc3 (a b d t : Int) : Int := if t = d then a else if t = b then d else if t = a then b else t
def cyc2 (b d t : Int) : Int := if t = d then b else if t = b then d else t
theorem led3 {n : Nat} {a b d : Int} (ha : 0 ≤ a ∧ a < (n : Int)) (hb : 0 ≤ b ∧ b < (n : Int)) (hd : 0 ≤ d ∧ d < (n : Int)) : ledR n [a, b, d] = (ups n).map (cyc3 a b d) := by
  apply List.ext_getElem?
  intro i
  show ((((ups n).set a.toNat b).set b.toNat d).set d.toNat a)[i]? = _
  rw [List.getElem?_set, List.getElem?_set, List.getElem?_set, List.getElem?_map]
  simp only [List.length_set, ups_len]
  by_cases hi : i < n
  · rw [ups_at hi, Option.map_some]
    unfold cyc3
    repeat' split
    all_goals first | rfl | omega
  · have e : (ups n)[i]? = none := List.getElem?_eq_none (by rw [ups_len]; omega)
    rw [e]
    repeat' split
    all_goals first | rfl | omega
theorem led2 {n : Nat} {b d : Int} (hb : 0 ≤ b ∧ b < (n : Int)) (hd : 0 ≤ d ∧ d < (n : Int)) : ledR n [b, d] = (ups n).map (cyc2 b d) := by
  apply List.ext_getElem?
  intro i
  show (((ups n).set b.toNat d).set d.toNat b)[i]? = _
  rw [List.getElem?_set, List.getElem?_set, List.getElem?_map]
  simp only [List.length_set, ups_len]
  by_cases hi : i < n
  · rw [ups_at hi, Option.map_some]
    unfold cyc2
    repeat' split
    all_goals first | rfl | omega
  · have e : (ups n)[i]? = none := List.getElem?_eq_none (by rw [ups_len]; omega)
    rw [e]
    repeat' split
    all_goals first | rfl | omega
theorem map_mp {n : Nat} {f : Int → Int} (hf : ∀ t, 0 ≤ t → t < (n : Int) → 0 ≤ f t ∧ f t < n) : Mp n ((ups n).map f) := by
  refine ⟨by rw [List.length_map, ups_len], fun x hx => ?_⟩
  obtain ⟨t, ht, rfl⟩ := List.mem_map.mp hx
  have := mem_ups.mp ht
  have := hf t this.1 this.2
  omega
theorem map_nd {n : Nat} {f : Int → Int} (hf : ∀ t u, f t = f u → t = u) : ((ups n).map f).Nodup := by
  show List.Pairwise _ _
  rw [List.pairwise_map]
  exact List.Pairwise.imp (fun h e => h (hf _ _ e)) (ups_nodup n)
theorem map_getD {n : Nat} {f : Int → Int} {t : Int} (h0 : 0 ≤ t) (h1 : t < (n : Int)) : ((ups n).map f).getD t.toNat 0 = f t := by
  rw [List.getD_eq_getElem?_getD, List.getElem?_map, ups_at (by omega)]
  show f ((t.toNat : Nat) : Int) = f t
  congr 1
  omega
theorem ups_getD {n : Nat} {t : Int} (h0 : 0 ≤ t) (h1 : t < (n : Int)) : (ups n).getD t.toNat 0 = t := by
  rw [List.getD_eq_getElem?_getD, ups_at (by omega)]
  show ((t.toNat : Nat) : Int) = t
  omega
theorem ups_mp (n : Nat) : Mp n (ups n) := ⟨by rw [ups_len], fun x hx => by have := mem_ups.mp hx; omega⟩
theorem cyc3_in {n : Nat} {a b d t : Int} (ha : 0 ≤ a ∧ a < (n : Int)) (hb : 0 ≤ b ∧ b < (n : Int)) (hd : 0 ≤ d ∧ d < (n : Int)) (h0 : 0 ≤ t) (h1 : t < (n : Int)) : 0 ≤ cyc3 a b d t ∧ cyc3 a b d t < n := by
  unfold cyc3
  repeat' split
  all_goals omega
theorem cyc2_in {n : Nat} {b d t : Int} (hb : 0 ≤ b ∧ b < (n : Int)) (hd : 0 ≤ d ∧ d < (n : Int)) (h0 : 0 ≤ t) (h1 : t < (n : Int)) : 0 ≤ cyc2 b d t ∧ cyc2 b d t < n := by
  unfold cyc2
  repeat' split
  all_goals omega
theorem cyc3_inj {a b d t u : Int} (h1 : a ≠ b) (h2 : a ≠ d) (h3 : b ≠ d) (e : cyc3 a b d t = cyc3 a b d u) : t = u := by
  unfold cyc3 at e
  repeat' split at e
  all_goals omega
theorem cyc2_inj {b d t u : Int} (h3 : b ≠ d) (e : cyc2 b d t = cyc2 b d u) : t = u := by
  unfold cyc2 at e
  repeat' split at e
  all_goals omega
theorem cyc2_2 {b d t : Int} (h3 : b ≠ d) : cyc2 b d (cyc2 b d t) = t := by
  unfold cyc2
  repeat' split
  all_goals omega
theorem cyc_fact {a b d u : Int} (h1 : a ≠ b) (h2 : a ≠ d) (h3 : b ≠ d) : cyc2 b d (cyc3 a b d (cyc2 b d u)) = cyc3 a b d (cyc3 a b d u) := by
  by_cases c1 : u = a
  · subst c1
    unfold cyc2 cyc3
    repeat' split
    all_goals omega
  · by_cases c2 : u = b
    · subst c2
      unfold cyc2 cyc3
      repeat' split
      all_goals omega
    · by_cases c3 : u = d
      · subst c3
        unfold cyc2 cyc3
        repeat' split
        all_goals omega
      · have e1 : cyc2 b d u = u := by unfold cyc2; rw [if_neg c3, if_neg c2]
        have e2 : cyc3 a b d u = u := by unfold cyc3; rw [if_neg c3, if_neg c2, if_neg c1]
        rw [e1, e2, e2, e1]
/-- what the map of such a look is -/
theorem at_mem {sizes c lot : List Int} (hc : Ct sizes c) (hl : ∀ p ∈ lot, 0 ≤ p ∧ p < sizes.length) : atLot c lot ∈ allOf (atLot sizes lot) := by
  refine mem_all (by unfold atLot; rw [List.length_map, List.length_map]) fun z hz => ?_
  rw [zip_at] at hz
  obtain ⟨p, hp, rfl⟩ := List.mem_map.mp hz
  have := hc.2 p (hl p hp).1 (hl p hp).2
  show 0 ≤ c.getD p.toNat 0 ∧ c.getD p.toNat 0 ≤ sizes.getD p.toNat 0 - 1
  omega
theorem one_mapAt {sizes c lot joint there still : List Int} (sz : Sz sizes) (hc : Ct sizes c) (hl : Up (-1) lot sizes.length) : mapAt sizes (oneL sizes lot joint there still) c = if atLot c lot = joint then there else still := by
  have e := all_at (at_pos sz (lot_b hl)) (at_mem hc (lot_b hl))
  show ((allOf (atLot sizes lot)).map fun o => if o = joint then there else still).getD (numOf (atLot sizes lot) (atLot c lot)).toNat [] = _
  rw [List.getD_eq_getElem?_getD, List.getElem?_map, e]
  rfl
theorem one_ok {sizes lot joint there still : List Int} {n : Nat} (sz : Sz sizes) (hl : Up (-1) lot sizes.length) (l3 : lot.length ≤ 3) (h1 : Mp n there) (h2 : Mp n still) : LookOk sizes n (oneL sizes lot joint there still) ∧ (oneL sizes lot joint there still).2.length ≤ 5000 := by
  have la : (allOf (atLot sizes lot)).length ≤ 4096 := allOf_len (fun s hs => (at_b sz.b (lot_b hl) s hs).2) (by unfold atLot; rw [List.length_map]; omega)
  refine ⟨⟨hl, l3, ?_, fun m hm => ?_⟩, ?_⟩
  · show (((allOf (atLot sizes lot)).map _).length : Int) = _
    rw [List.length_map]
    exact prod_all sz hl
  · obtain ⟨o, _, rfl⟩ := List.mem_map.mp hm
    show Mp n (if o = joint then there else still)
    split
    · exact h1
    · exact h2
  · show ((allOf (atLot sizes lot)).map _).length ≤ 5000
    rw [List.length_map]
    omega
theorem one_turn {sizes lot joint there still : List Int} (h1 : there.Nodup) (h2 : still.Nodup) : TurnOk (oneL sizes lot joint there still) := fun m hm => by
  obtain ⟨o, _, rfl⟩ := List.mem_map.mp hm
  show (if o = joint then there else still).Nodup
  split
  · exact h1
  · exact h2
theorem up_pin {p m : Nat} (h : p < m) : Up (-1) [(p : Int)] m := ⟨by omega, by omega, trivial⟩
def swapL (sizes c : List Int) (n : Nat) (b d : Int) (p : Nat) : Look := oneL sizes [(p : Int)] [c.getD p 0] (ledR n [b, d]) (ups n)
def roundL (sizes c : List Int) (n : Nat) (a b d : Int) : Nat → List Look
  | 0 => [oneL sizes [((0 : Nat) : Int)] [c.getD 0 0] (ledR n [a, b, d]) (ups n)]
  | p + 1 => backs n (roundL sizes c n a b d p) ++ [swapL sizes c n b d (p + 1)] ++ roundL sizes c n a b d p ++ [swapL sizes c n b d (p + 1)]
structure Ring (n : Nat) (a b d : Int) : Prop where
  ha : 0 ≤ a ∧ a < (n : Int)
  hb : 0 ≤ b ∧ b < (n : Int)
  hd : 0 ≤ d ∧ d < (n : Int)
  ab : a ≠ b
  ad : a ≠ d
  bd : b ≠ d
theorem swap_stp {sizes c c' : List Int} {n : Nat} {a b d s : Int} {p : Nat} (R : Ring n a b d) (sz : Sz sizes) (hc : Ct sizes c') (hp : p < sizes.length) (h0 : 0 ≤ s) (h1 : s < (n : Int)) : stp sizes c' s (swapL sizes c n b d p) = if c'.getD p 0 = c.getD p 0 then cyc2 b d s else s := by
  unfold stp swapL
  rw [one_mapAt sz hc (up_pin hp)]
  have e : (atLot c' [(p : Int)] = [c.getD p 0]) ↔ c'.getD p 0 = c.getD p 0 := by
    show ([c'.getD ((p : Int)).toNat 0] = [c.getD p 0]) ↔ _
    rw [show ((p : Int)).toNat = p by omega]
    constructor
    · intro h; injection h
    · intro h; rw [h]
  by_cases c1 : c'.getD p 0 = c.getD p 0
  · rw [if_pos (e.mpr c1), if_pos c1, led2 R.hb R.hd, map_getD h0 h1]
  · rw [if_neg (fun z => c1 (e.mp z)), if_neg c1, ups_getD h0 h1]
theorem ring_stp {sizes c c' : List Int} {n : Nat} {a b d s : Int} {p : Nat} (R : Ring n a b d) (sz : Sz sizes) (hc : Ct sizes c') (hp : p < sizes.length) (h0 : 0 ≤ s) (h1 : s < (n : Int)) : stp sizes c' s (oneL sizes [(p : Int)] [c.getD p 0] (ledR n [a, b, d]) (ups n)) = if c'.getD p 0 = c.getD p 0 then cyc3 a b d s else s := by
  unfold stp
  rw [one_mapAt sz hc (up_pin hp)]
  have e : (atLot c' [(p : Int)] = [c.getD p 0]) ↔ c'.getD p 0 = c.getD p 0 := by
    show ([c'.getD ((p : Int)).toNat 0] = [c.getD p 0]) ↔ _
    rw [show ((p : Int)).toNat = p by omega]
    constructor
    · intro h; injection h
    · intro h; rw [h]
  by_cases c1 : c'.getD p 0 = c.getD p 0
  · rw [if_pos (e.mpr c1), if_pos c1, led3 R.ha R.hb R.hd, map_getD h0 h1]
  · rw [if_neg (fun z => c1 (e.mp z)), if_neg c1, ups_getD h0 h1]
def RL (sizes : List Int) (n : Nat) (l : Look) : Prop := (LookOk sizes n l ∧ l.2.length ≤ 5000) ∧ TurnOk l ∧ l.1.length = 1
theorem back_RL {sizes : List Int} {n : Nat} {ls : List Look} (h : ∀ l ∈ ls, RL sizes n l) : ∀ l ∈ backs n ls, RL sizes n l := fun l hl => by
  obtain ⟨l', h', e⟩ := List.mem_map.mp hl
  have r := h l' (List.mem_reverse.mp h')
  refine ⟨⟨backs_ok (fun z hz => (h z hz).1.1) (fun z hz => (h z hz).2.1) l hl, by rw [← e, back_len]; exact r.1.2⟩, back_turn (fun z hz => (h z hz).1.1) (fun z hz => (h z hz).2.1) l hl, by rw [← e]; exact r.2.2⟩
theorem round_RL {sizes c : List Int} {n : Nat} {a b d : Int} (R : Ring n a b d) (sz : Sz sizes) : ∀ p, p < sizes.length → ∀ l ∈ roundL sizes c n a b d p, RL sizes n l := by
  have m3 : Mp n (ledR n [a, b, d]) := by rw [led3 R.ha R.hb R.hd]; exact map_mp fun t h0 h1 => cyc3_in R.ha R.hb R.hd h0 h1
  have n3 : (ledR n [a, b, d]).Nodup := by rw [led3 R.ha R.hb R.hd]; exact map_nd fun t u e => cyc3_inj R.ab R.ad R.bd e
  have m2 : Mp n (ledR n [b, d]) := by rw [led2 R.hb R.hd]; exact map_mp fun t h0 h1 => cyc2_in R.hb R.hd h0 h1
  have n2 : (ledR n [b, d]).Nodup := by rw [led2 R.hb R.hd]; exact map_nd fun t u e => cyc2_inj R.bd e
  intro p
  induction p with
  | zero =>
    intro hp l hl
    rw [roundL, List.mem_singleton] at hl
    subst hl
    exact ⟨one_ok sz (up_pin hp) (by decide) m3 (ups_mp n), one_turn n3 (ups_nodup n), rfl⟩
  | succ p ih =>
    intro hp l hl
    have ih := ih (by omega)
    have hs : RL sizes n (swapL sizes c n b d (p + 1)) := ⟨one_ok sz (up_pin hp) (by simp) m2 (ups_mp n), one_turn n2 (ups_nodup n), rfl⟩
    rw [roundL] at hl
    simp only [List.mem_append, List.mem_singleton] at hl
    rcases hl with ((hl | rfl) | hl) | rfl
    · exact back_RL ih l hl
    · exact hs
    · exact ih l hl
    · exact hs
theorem round_len {sizes c : List Int} {n : Nat} {a b d : Int} : ∀ p, (roundL sizes c n a b d p).length + 2 = 3 * 2 ^ p
  | 0 => rfl
  | p + 1 => by
    have ih := round_len (sizes := sizes) (c := c) (n := n) (a := a) (b := b) (d := d) p
    rw [roundL]
    simp only [List.length_append, List.length_singleton]
    have e : (backs n (roundL sizes c n a b d p)).length = (roundL sizes c n a b d p).length := by unfold backs; rw [List.length_map, List.length_reverse]
    rw [e, Nat.pow_succ]
    omega
def Pre (c c' : List Int) (p : Nat) : Prop := ∀ q, q ≤ p → c'.getD q 0 = c.getD q 0
theorem end_one {sizes c : List Int} {l : Look} {s : Int} : endS sizes c [l] s = stp sizes c s l := rfl
theorem round_end {sizes c c' : List Int} {n : Nat} {a b d : Int} (R : Ring n a b d) (sz : Sz sizes) (hc : Ct sizes c') : ∀ p, p < sizes.length → ∀ s : Int, 0 ≤ s → s < (n : Int) → (Pre c c' p → endS sizes c' (roundL sizes c n a b d p) s = cyc3 a b d s) ∧ (¬ Pre c c' p → endS sizes c' (roundL sizes c n a b d p) s = s) := by
  intro p
  induction p with
  | zero =>
    intro hp s h0 h1
    rw [roundL, end_one, ring_stp R sz hc hp h0 h1]
    constructor
    · intro h
      rw [if_pos (h 0 (Nat.le_refl 0))]
    · intro h
      rw [if_neg]
      intro z
      refine h fun q hq => ?_
      rw [Nat.le_zero.mp hq]
      exact z
  | succ p ih =>
    intro hp s h0 h1
    have ih := ih (by omega)
    have rl := round_RL (c := c) R sz p (by omega)
    have rok : ∀ l ∈ roundL sizes c n a b d p, LookOk sizes n l := fun l hl => (rl l hl).1.1
    have rtn : ∀ l ∈ roundL sizes c n a b d p, TurnOk l := fun l hl => (rl l hl).2.1
    rw [roundL, endS_app, endS_app, endS_app, end_one, end_one]
    have eb := back_end hc rok rtn h0 h1
    have ub := endS_in hc (backs_ok rok rtn) h0 h1
    generalize endS sizes c' (backs n (roundL sizes c n a b d p)) s = u at eb ub ⊢
    have iu := ih u ub.1 ub.2
    have wb := cyc2_in R.hb R.hd ub.1 ub.2
    have iw := ih (cyc2 b d u) wb.1 wb.2
    rw [swap_stp R sz hc hp ub.1 ub.2]
    by_cases cp : Pre c c' p
    · have eu := iu.1 cp
      rw [eu] at eb
      by_cases ce : c'.getD (p + 1) 0 = c.getD (p + 1) 0
      · rw [if_pos ce, iw.1 cp]
        have vb := cyc3_in R.ha R.hb R.hd wb.1 wb.2
        rw [swap_stp R sz hc hp vb.1 vb.2, if_pos ce, cyc_fact R.ab R.ad R.bd, eb]
        refine ⟨fun _ => rfl, fun h => absurd (fun q hq => ?_) h⟩
        rcases Nat.lt_or_ge q (p + 1) with c1 | c1
        · exact cp q (by omega)
        · rw [show q = p + 1 by omega]; exact ce
      · rw [if_neg ce, iu.1 cp]
        have vb := cyc3_in R.ha R.hb R.hd ub.1 ub.2
        rw [swap_stp R sz hc hp vb.1 vb.2, if_neg ce, eb]
        exact ⟨fun h => absurd (h (p + 1) (Nat.le_refl _)) ce, fun _ => rfl⟩
    · have eu := iu.2 cp
      rw [eu] at eb
      have np : ¬ Pre c c' (p + 1) := fun z => cp fun q hq => z q (by omega)
      by_cases ce : c'.getD (p + 1) 0 = c.getD (p + 1) 0
      · rw [if_pos ce, iw.2 cp, swap_stp R sz hc hp wb.1 wb.2, if_pos ce, cyc2_2 R.bd, eb]
        exact ⟨fun h => absurd h np, fun _ => rfl⟩
      · rw [if_neg ce, iu.2 cp, swap_stp R sz hc hp ub.1 ub.2, if_neg ce, eb]
        exact ⟨fun h => absurd h np, fun _ => rfl⟩
theorem pre_all {c c' : List Int} {p : Nat} (h1 : c.length = p + 1) (h2 : c'.length = p + 1) : Pre c c' p ↔ c' = c := by
  constructor
  · intro h
    apply List.ext_getElem (by omega)
    intro i g1 g2
    have := h i (by omega)
    rwa [List.getD_eq_getElem?_getD, List.getD_eq_getElem?_getD, List.getElem?_eq_getElem g1, List.getElem?_eq_getElem g2] at this
  · intro h q _
    rw [h]
end K29
namespace K29
open PySem PySem.Spec PyProof.Rows L2 Tw
theorem oks_app (a b : List D) : D.oks (a ++ b) = (D.oks a && D.oks b) := by
  induction a with
  | nil => rw [List.nil_append]; simp [D.oks]
  | cons x a ih => rw [List.cons_append, D.oks, D.oks, ih, Bool.and_assoc]
theorem frzs_app (a b : List D) : D.frzs (a ++ b) = D.frzs a ++ D.frzs b := by
  induction a with
  | nil => simp [D.frzs]
  | cons x a ih => rw [List.cons_append, D.frzs, D.frzs, ih, List.cons_append]
theorem cut_one {ns : List Int} {p : Nat} (h : p < ns.length) : gSl (.tup (ns.map .int)) (some (p : Int)) (some ((p : Int) + 1)) = some (.tup [.int (ns.getD p 0)]) := by
  rw [Tw.sl_tup, oks_int, if_pos rfl]
  have e : Tw.cutD (ns.map D.int) (some (p : Int)) (some ((p : Int) + 1)) = [.int (ns.getD p 0)] := by
    unfold Tw.cutD HT.sIx
    simp only [if_neg (show ¬ (p : Int) < 0 by omega), if_neg (show ¬ (p : Int) + 1 < 0 by omega), List.length_map]
    rw [show ((p : Int)).toNat = p by omega, show ((p : Int) + 1).toNat = p + 1 by omega, Nat.min_eq_left (by omega), Nat.min_eq_left (by omega), show p + 1 - p = 1 by omega, ← List.map_drop, ← List.map_take, List.drop_eq_getElem_cons h, List.getD_eq_getElem?_getD, List.getElem?_eq_getElem h]
    rfl
  rw [e]
theorem rng_up (m : Nat) : rngD 1 m = (List.range m).map fun i : Nat => D.int ((i + 1 : Nat) : Int) := by
  rw [rng_map, List.map_map]
  refine List.map_congr_left fun i _ => ?_
  show D.int (1 + (i : Int)) = _
  congr 1
  omega
theorem round_looks_ok {sizes c : List Int} {n : Nat} {a b d : Int} (R : Ring n a b d) (sz : Sz sizes) (hc : Ct sizes c) (h8 : n ≤ 8) : h_round_looks [.tup (sizes.map .int), .tup (c.map .int), .int n, .tup [.int a, .int b, .int d]] = .ret (.lst true ((roundL sizes c n a b d (sizes.length - 1)).map lkD)) [] := by
  have hg := rgN_n (n := n) (by omega)
  have s1 := sz.1
  have s6 := sz.2.1
  have cl := hc.1
  have c1 : gSl (.tup (c.map .int)) none (some 1) = some (.tup [.int (c.getD 0 0)]) := by
    rw [cut_to (by omega)]
    match c, cl with
    | x :: c, _ => rfl
    | [], z => simp at z; omega
  have c2 : gSl (.tup [.int a, .int b, .int d]) (some 1) none = some (.tup [.int b, .int d]) := cut_from (ns := [a, b, d]) (i := 1) (by omega)
  have r3 := led_round_ok (n := n) (xs := [a, b, d]) (fun x hx => by
    simp only [List.mem_cons, List.not_mem_nil, or_false] at hx
    rcases hx with rfl | rfl | rfl
    · exact R.ha
    · exact R.hb
    · exact R.hd) (by simp) h8
  have r2 := led_round_ok (n := n) (xs := [b, d]) (fun x hx => by
    simp only [List.mem_cons, List.not_mem_nil, or_false] at hx
    rcases hx with rfl | rfl
    · exact R.hb
    · exact R.hd) (by simp) h8
  have o1 := one_look_ok (sizes := sizes) (lot := [((0 : Nat) : Int)]) (joint := [c.getD 0 0]) (there := ledR n [a, b, d]) (still := ups n) sz (lot_b (up_pin (by omega))) (by simp)
  simp only [List.map_cons, List.map_nil, cst_0] at r3 r2 o1
  have hr : rngOf [1, (sizes.length : Int)] = some (1, sizes.length - 1) := by
    have e1 : rngOk 1 = true := rngOk_iff.mpr (by omega)
    have e2 : rngOk (sizes.length : Int) = true := rngOk_iff.mpr (by omega)
    have : rngOf [1, (sizes.length : Int)] = if rngOk 1 && rngOk (sizes.length : Int) then some (1, ((sizes.length : Int) - 1).toNat) else none := rfl
    rw [this, e1, e2, Bool.and_self, if_pos rfl, show ((sizes.length : Int) - 1).toNat = sizes.length - 1 by omega]
  have ll : lenOk sizes.length = true := lenOk_of (by omega)
  obtain ⟨y', e⟩ := for_at (bd := bNm 7) (body := l_round_looks_1) (g := fun i : Nat => D.int ((i + 1 : Nat) : Int)) (fun (f : List Look) (y : Option D × Option D) => [some (.tup (sizes.map .int)), some (.tup (c.map .int)), some (.int n), some (.tup [.int a, .int b, .int d]), some (.tup ((ups n).map .int)), some (.lst true (f.map lkD)), some (.tup ((ledR n [b, d]).map .int)), y.1, y.2]) (fun i => roundL sizes c n a b d i) (List.range (sizes.length - 1)) (none, none) (by
    rintro i x ⟨y1, y2⟩ hi
    obtain ⟨hl, hx⟩ := List.getElem?_eq_some_iff.mp hi
    rw [List.length_range] at hl
    rw [List.getElem_range] at hx
    subst hx
    have c3 := cut_one (ns := c) (p := i + 1) (by omega)
    have o2 := one_look_ok (sizes := sizes) (lot := [((i + 1 : Nat) : Int)]) (joint := [c.getD (i + 1) 0]) (there := ledR n [b, d]) (still := ups n) sz (lot_b (up_pin (by omega))) (by simp)
    simp only [List.map_cons, List.map_nil] at o2
    have rl := round_RL (c := c) R sz i (by omega)
    have rn := round_len (sizes := sizes) (c := c) (n := n) (a := a) (b := b) (d := d) i
    have pw : 2 ^ i ≤ 2 ^ 5 := Nat.pow_le_pow_right (by decide) (by omega)
    have u := undone_ok (m := false) h8 (fun l hl => (rl l hl).1) (fun l hl => (rl l hl).2.1) (by omega)
    have bl : (backs n (roundL sizes c n a b d i)).length = (roundL sizes c n a b d i).length := by unfold backs; rw [List.length_map, List.length_reverse]
    have em : (roundL sizes c n a b d (i + 1)).map lkD = (backs n (roundL sizes c n a b d i)).map lkD ++ [lkD (oneL sizes [((i + 1 : Nat) : Int)] [c.getD (i + 1) 0] (ledR n [b, d]) (ups n))] ++ (roundL sizes c n a b d i).map lkD ++ [lkD (oneL sizes [((i + 1 : Nat) : Int)] [c.getD (i + 1) 0] (ledR n [b, d]) (ups n))] := by
      rw [roundL]
      simp only [List.map_append, List.map_cons, List.map_nil]
      rfl
    rw [em]
    have g1 : lenOk ((roundL sizes c n a b d i).length + 1) = true := lenOk_of (by omega)
    have g2 : lenOk ((roundL sizes c n a b d i).length + 1 + (roundL sizes c n a b d i).length) = true := lenOk_of (by omega)
    have g3 : lenOk ((roundL sizes c n a b d i).length + 1 + (roundL sizes c n a b d i).length + 1) = true := lenOk_of (by omega)
    refine ⟨_, (some (.int ((i + 1 : Nat) : Int)), some (lkD (oneL sizes [((i + 1 : Nat) : Int)] [c.getD (i + 1) 0] (ledR n [b, d]) (ups n)))), rfl, .inl ?_⟩
    simp only [l_round_looks_1, c3, o2, frzs_looks, oks_looks, oks_app, ok_lookD, u, bl, g1, g2, g3, List.length_append, frz_lookD, Tw.ev, List.replicate, ne_eq, reduceCtorEq, Nat.reduceAdd, Nat.reduceSub, Nat.reduceLT, Nat.reduceLeDiff, Int.reduceEq, Int.reduceNeg, Int.reduceLT, Int.reduceLE, Int.reduceAdd, Int.reduceMul, Int.reduceSub])
  have e0 : (roundL sizes c n a b d 0).map lkD = [lkD (oneL sizes [0] [c.getD 0 0] (ledR n [a, b, d]) (ups n))] := rfl
  simp only [e0, List.length_range] at e
  simp only [h_round_looks, b_round_looks, hg, c1, c2, r3, r2, o1, hr, ll, rng_up, frz_lookD, ok_lookD, e, Tw.ev, List.replicate, ne_eq, reduceCtorEq, Nat.reduceAdd, Nat.reduceSub, Nat.reduceLT, Nat.reduceLeDiff, Int.reduceEq, Int.reduceNeg, Int.reduceLT, Int.reduceLE, Int.reduceAdd, Int.reduceMul, Int.reduceSub]
theorem round_row_ok {sizes c : List Int} {n : Nat} {a b d : Int} (R : Ring n a b d) (sz : Sz sizes) (hc : c ∈ allOf sizes) (h3 : 3 ≤ n) (h8 : n ≤ 8) : h_round_row [.tup (sizes.map .int), .tup (c.map .int), .int n, .tup [.int a, .int b, .int d]] = .ret (rowD true sizes n (roundL sizes c n a b d (sizes.length - 1))) [] := by
  have e1 := check_sizes_ok sz
  have e2 := check_content_ok sz hc
  have e3 := check_standings_ok h3 h8
  have e4 := is_round_ok (n := n) (a := a) (b := b) (d := d) h8 (fun x hx => by
    simp only [List.mem_cons, List.not_mem_nil, or_false] at hx
    rcases hx with rfl | rfl | rfl
    · exact R.ha
    · exact R.hb
    · exact R.hd) (by
      have := R.ab
      have := R.ad
      have := R.bd
      simp [*])
  have e5 := round_looks_ok R sz (ct_all sz hc).1 h8
  have e6 := raw_row_ok (m := true) (ls := roundL sizes c n a b d (sizes.length - 1)) sz (k := (n : Int)) ⟨by omega, by omega⟩
  simp only [h_round_row, b_round_row, e1, e2, e3, e4, e5, e6, Tw.ev, List.replicate, ne_eq, reduceCtorEq, Nat.reduceAdd, Nat.reduceSub, Nat.reduceLT, Nat.reduceLeDiff, Int.reduceEq, Int.reduceNeg, Int.reduceLT, Int.reduceLE, Int.reduceAdd, Int.reduceMul, Int.reduceSub]
theorem lturning_ok {n : Nat} {sizes : List Int} {ls : List Look} (h8 : n ≤ 8) (h : ∀ l ∈ ls, (LookOk sizes n l ∧ l.2.length ≤ 5000) ∧ TurnOk l) : h__law_is_turning [.tup (ls.map lkD)] = .ret (.bl true) [] := by
  obtain ⟨env', ⟨y1, y2, rfl⟩, e⟩ := for_keep (bd := bTp (bCons (bNm 1) (bCons (bNm 2) bNil))) (body := l__law_is_turning_1) (g := lkD) (fun env => ∃ y1 y2, env = [some (.tup (ls.map lkD)), y1, y2, none]) ls [some (.tup (ls.map lkD)), none, none, none] ⟨none, none, rfl⟩ (by
    rintro ⟨lot, maps⟩ hl env ⟨y1, y2, rfl⟩
    have hh := h _ hl
    have key := comp_map1 (vs := [3]) (b := bNm 3) (t := bTrue) (f := c__law_is_turning_1) (g := fun m : List Int => D.tup (m.map .int)) (env := [some (.tup (ls.map lkD)), some (.tup (lot.map .int)), some (.tup (rows maps)), none]) (fun _ => .bl true) maps fun m hm ds acc => by
      have mp := hh.1.1.2.2.2 m hm
      have ml : m.length ≤ 4000 := by have := mp.1; omega
      have e : fVar 3 [some (.tup (ls.map lkD)), some (.tup (lot.map .int)), some (.tup (rows maps)), some (.tup (m.map .int))] = .ok (.tup (m.map .int)) [some (.tup (ls.map lkD)), some (.tup (lot.map .int)), some (.tup (rows maps)), some (.tup (m.map .int))] := by simp only [Tw.ev, List.replicate, ne_eq, reduceCtorEq, Nat.reduceAdd, Nat.reduceSub, Nat.reduceLT, Nat.reduceLeDiff, Int.reduceEq, Int.reduceNeg, Int.reduceLT, Int.reduceLE, Int.reduceAdd, Int.reduceMul, Int.reduceSub]
      have el := lenset_int ml e
      rw [nub_self (hh.2 m hm)] at el
      have l1 : lenOk m.length = true := lenOk_of (by omega)
      simp only [c__law_is_turning_1, el, l1, Tw.ev, List.replicate, ne_eq, reduceCtorEq, Nat.reduceAdd, Nat.reduceSub, Nat.reduceLT, Nat.reduceLeDiff, Int.reduceEq, Int.reduceNeg, Int.reduceLT, Int.reduceLE, Int.reduceAdd, Int.reduceMul, Int.reduceSub]
    have key' : compGo [3] (bNm 3) bTrue c__law_is_turning_1 (rows maps) [] _ = _ := key
    have l1 : lenOk maps.length = true := lenOk_of (by have : maps.length ≤ 5000 := hh.1.2; omega)
    have ea : D.bools (maps.map fun _ => D.bl true) = some (maps.map fun _ => true) := bools_mapP (fun _ => true) maps
    have eb : (maps.map fun _ => true).all id = true := by simp
    refine ⟨_, ⟨some (.tup (lot.map .int)), some (.tup (rows maps)), rfl⟩, fun ds => ?_⟩
    rw [show lkD (lot, maps) = .tup [.tup (lot.map .int), .tup (rows maps)] from rfl]
    simp only [l__law_is_turning_1, key', l1, ea, eb, Tw.ev, List.replicate, ne_eq, reduceCtorEq, Nat.reduceAdd, Nat.reduceSub, Nat.reduceLT, Nat.reduceLeDiff, Int.reduceEq, Int.reduceNeg, Int.reduceLT, Int.reduceLE, Int.reduceAdd, Int.reduceMul, Int.reduceSub])
  simp only [h__law_is_turning, b__law_is_turning, oks_looks, frzs_looks, e, Tw.ev, List.replicate, ne_eq, reduceCtorEq, Nat.reduceAdd, Nat.reduceSub, Nat.reduceLT, Nat.reduceLeDiff, Int.reduceEq, Int.reduceNeg, Int.reduceLT, Int.reduceLE, Int.reduceAdd, Int.reduceMul, Int.reduceSub]
theorem allOf_nodup {S : List Int} (hp : ∀ s ∈ S, 0 < s) : (allOf S).Nodup := by
  obtain ⟨P, q1, q2⟩ := counted_all hp
  rw [← q2]
  show List.Pairwise _ _
  rw [List.pairwise_map]
  refine List.Pairwise.imp_of_mem ?_ List.pairwise_lt_range
  intro i j hi hj hij e
  have hi := List.mem_range.mp hi
  have hj := List.mem_range.mp hj
  have key : ∀ i : Nat, i < P → numOf S (counted S i) = i := fun i hi => by
    have z := numOf_countedR S.reverse (fun s hs => hp s (List.mem_reverse.mp hs)) (i : Int) (by omega) (by rw [List.reverse_reverse, q1]; omega)
    rwa [List.reverse_reverse] at z
  have a := key i hi
  have b := key j hj
  rw [e, b] at a
  omega
theorem kvs_rows : ∀ (ks ms : List (List Int)), ks.length = ms.length → kvsT (zipD (rows ks) (rows ms)) = some (ks, rows ms)
  | [], [], _ => rfl
  | k :: ks, m :: ms, h => by
    have ih := kvs_rows ks ms (by simpa using h)
    have e1 : zipD (rows (k :: ks)) (rows (m :: ms)) = .pr [.tup (k.map .int), .tup (m.map .int)] :: zipD (rows ks) (rows ms) := rfl
    have e2 : D.pr2 (.pr [.tup (k.map .int), .tup (m.map .int)]) = some (.tup (k.map .int), .tup (m.map .int)) := rfl
    have e3 : D.tupI (.tup (k.map .int)) = some k := Tw.ints_map k
    have e4 : D.ok (.tup (m.map .int)) = true := by rw [D.ok, oks_int]
    rw [e1, kvsT, e2, Option.bind_some, e3, Option.bind_some, if_pos e4, ih]
    rfl
theorem lookT_at {α : Type} : ∀ {ks : List (List Int)} {ds : List α} {i : Nat} {k : List Int} {d : α}, ks.Nodup → ks[i]? = some k → ds[i]? = some d → lookT ks ds k = some d
  | [], _, _, _, _, _, h, _ => by simp at h
  | _ :: _, [], _, _, _, _, _, h => by simp at h
  | k0 :: ks, d0 :: ds, 0, k, d, nd, h1, h2 => by
    rw [List.getElem?_cons_zero] at h1 h2
    injection h1 with h1
    injection h2 with h2
    unfold lookT
    rw [if_pos h1, h2]
  | k0 :: ks, d0 :: ds, i + 1, k, d, nd, h1, h2 => by
    rw [List.getElem?_cons_succ] at h1 h2
    rw [List.nodup_cons] at nd
    unfold lookT
    have hm : k ∈ ks := List.mem_of_getElem? h1
    rw [if_neg (fun e : k0 = k => nd.1 (by rw [e]; exact hm))]
    exact lookT_at nd.2 h1 h2
theorem rep_one {α : Type} (x : α) : ∀ k : Nat, (List.replicate k [x]).flatten = List.replicate k x
  | 0 => rfl
  | k + 1 => by rw [List.replicate_succ, List.flatten_cons, rep_one x k, List.replicate_succ]; rfl
theorem rep_map {α β : Type} (xs : List α) (y : β) : List.replicate xs.length y = xs.map fun _ => y := by
  induction xs with
  | nil => rfl
  | cons x xs ih => rw [List.length_cons, List.replicate_succ, ih, List.map_cons]
theorem zip_self {α β : Type} (g : α → β) : ∀ xs : List α, xs.zip (xs.map g) = xs.map fun x => (x, g x)
  | [] => rfl
  | x :: xs => by rw [List.map_cons, List.zip_cons_cons, zip_self g xs, List.map_cons]
theorem zipD_rows {β : Type} {f : β → D} (ls : List (List Int)) (ys : List β) : zipD (rows ls) (ys.map f) = (ls.zip ys).map fun p => D.pr [.tup (p.1.map .int), f p.2] := by
  induction ls generalizing ys with
  | nil => rfl
  | cons l ls ih =>
    cases ys with
    | nil => rfl
    | cons y ys =>
      rw [List.zip_cons_cons, List.map_cons, List.map_cons, ← ih]
      rfl
theorem ends_ok {sizes : List Int} {n : Nat} {ls : List Look} {s : Int} {m : Bool} (sz : Sz sizes) (h : ∀ l ∈ ls, LookOk sizes n l) (h0 : 0 ≤ s) (h1 : s < (n : Int)) : h__law_ends [.tup (ls.map lkD), .tup (sizes.map .int), .int s] = .ret (.lst true (((allOf sizes).map fun c => endS sizes c ls s).map .int)) [] := by
  obtain ⟨mm, ea⟩ := all_ok' (d := .tup (sizes.map .int)) (d0 := .tup (sizes.map .int)) (by simp only [Tw.ev, List.replicate, ne_eq, reduceCtorEq, Nat.reduceAdd, Nat.reduceSub, Nat.reduceLT, Nat.reduceLeDiff, Int.reduceEq, Int.reduceNeg, Int.reduceLT, Int.reduceLE, Int.reduceAdd, Int.reduceMul, Int.reduceSub]) (by simp only [Tw.ev, List.replicate, ne_eq, reduceCtorEq, Nat.reduceAdd, Nat.reduceSub, Nat.reduceLT, Nat.reduceLeDiff, Int.reduceEq, Int.reduceNeg, Int.reduceLT, Int.reduceLE, Int.reduceAdd, Int.reduceMul, Int.reduceSub]) sz.b sz.2.1
  have la : (allOf sizes).length ≤ 4096 := allOf_len (fun s hs => (sz.b s hs).2) sz.2.1
  have lA : lenOk (allOf sizes).length = true := lenOk_of (by omega)
  have ct : ∀ c ∈ allOf sizes, Ct sizes c := fun c hc => (ct_all sz hc).1
  obtain ⟨y', e⟩ := for_at (bd := bTp (bCons (bNm 5) (bCons (bNm 6) bNil))) (body := l__law_ends_1) (g := lkD) (fun (f : List Look) (y : Option D × Option D × Option D) => [some (.tup (ls.map lkD)), some (.tup (sizes.map .int)), some (.int s), some (.lst false (rows (allOf sizes))), some (.lst true (((allOf sizes).map fun c => endS sizes c f s).map .int)), y.1, y.2.1, y.2.2, none, none]) (fun i => ls.take i) ls (none, none, none) (by
    rintro i ⟨lot, maps⟩ ⟨y1, y2, y3⟩ hi
    have hm := List.mem_of_getElem? hi
    have lo := h _ hm
    have lo3 : lot.length ≤ 3 := lo.2.1
    have lo1 : Up (-1) lot sizes.length := lo.1
    have pf : ∀ l ∈ ls.take i, LookOk sizes n l := fun l hl => h l (List.mem_of_mem_take hl)
    obtain ⟨mj, ej⟩ := ljoints_ok (sizes := sizes) (lot := lot) sz.b (lot_b lo1) (by omega)
    have jl : (allOf (atLot sizes lot)).length = maps.length := by
      have e1 := prod_all sz lo1
      have e2 : (maps.length : Int) = prodI (atLot sizes lot) := lo.2.2.1
      omega
    have ez : ∀ m, lzOf [.lst m (rows (allOf (atLot sizes lot))), .tup (rows maps)] = some (zipD (rows (allOf (atLot sizes lot))) (rows maps)) := fun m => by
      have e1 : lzOf [.lst m (rows (allOf (atLot sizes lot))), .tup (rows maps)] = (D.seqK (.lst m (rows (allOf (atLot sizes lot))))).bind fun p => (D.seqK (.tup (rows maps))).bind fun q => match p.1, q.1 with
        | false, true => some (zipD p.2 q.2)
        | _, _ => none := rfl
      rw [e1, Tw.seqK_lst, Tw.seqK_tup, oks_rows, oks_rows, if_pos rfl, if_pos rfl]
      rfl
    have ek := kvs_rows _ _ jl
    have nd : (allOf (atLot sizes lot)).Nodup := allOf_nodup (at_pos sz (lot_b lo1))
    obtain ⟨F, eF⟩ : ∃ F, F = ls.take i := ⟨_, rfl⟩
    rw [← eF] at pf
    have zz : zipOf [.lst false (rows (allOf sizes)), .lst false (((allOf sizes).map fun c => endS sizes c F s).map .int)] = some (false, rows (allOf sizes), ((allOf sizes).map fun c => endS sizes c F s).map .int) := by
      have e1 : zipOf [.lst false (rows (allOf sizes)), .lst false (((allOf sizes).map fun c => endS sizes c F s).map .int)] = (D.seqK (.lst false (rows (allOf sizes)))).bind fun p => (D.seqK (.lst false (((allOf sizes).map fun c => endS sizes c F s).map .int))).bind fun q => match p.1, q.1 with
        | true, false => none
        | _, _ => some (p.1, p.2, q.2) := rfl
      rw [e1, Tw.seqK_lst, Tw.seqK_lst, oks_rows, oks_int, if_pos rfl, if_pos rfl]
      rfl
    have zd : zipD (rows (allOf sizes)) (((allOf sizes).map fun c => endS sizes c F s).map .int) = (allOf sizes).map fun c => D.pr [.tup (c.map .int), .int (endS sizes c F s)] := by
      rw [zipD_rows, zip_self, List.map_map]
      rfl
    have key := comp_map1 (vs := [8, 9]) (b := bTp (bCons (bNm 8) (bCons (bNm 9) bNil))) (t := bTrue) (f := c__law_ends_1) (g := fun c : List Int => D.pr [.tup (c.map .int), .int (endS sizes c F s)]) (env := [some (.tup (ls.map lkD)), some (.tup (sizes.map .int)), some (.int s), some (.lst false (rows (allOf sizes))), some (.lst false (((allOf sizes).map fun c => endS sizes c F s).map .int)), some (.tup (lot.map .int)), some (.tup (rows maps)), some (.dtt (allOf (atLot sizes lot)) (rows maps)), none, none]) (fun c => .int (stp sizes c (endS sizes c F s) (lot, maps))) (allOf sizes) fun c hc ds acc => by
      have cc := ct c hc
      have lj := ljoint_ok (c := c) (lot := lot) (fun p hp => by have := lot_b lo1 p hp; rw [cc.1]; exact this) (by omega)
      have a1 := all_at (at_pos sz (lot_b lo1)) (at_mem cc (lot_b lo1))
      have ni := num_in cc lo
      have ni' : (numOf (atLot sizes lot) (atLot c lot)).toNat < maps.length := ni
      have a2 : (rows maps)[(numOf (atLot sizes lot) (atLot c lot)).toNat]? = some (.tup ((mapAt sizes (lot, maps) c).map .int)) := by
        unfold rows mapAt
        rw [List.getElem?_map, List.getD_eq_getElem?_getD, List.getElem?_eq_getElem ni']
        rfl
      have lk := lookT_at nd a1 a2
      have eb := endS_in cc pf h0 h1
      have mm := (mapAt_mp cc lo).1
      have ai := atI_map (ns := mapAt sizes (lot, maps) c) (i := endS sizes c F s) eb.1 (by omega)
      have es : stp sizes c (endS sizes c F s) (lot, maps) = (mapAt sizes (lot, maps) c).getD (endS sizes c F s).toNat 0 := rfl
      rw [es]
      simp only [c__law_ends_1, lj, Tw.ints_map, lk, ai, Tw.ev, List.replicate, ne_eq, reduceCtorEq, Nat.reduceAdd, Nat.reduceSub, Nat.reduceLT, Nat.reduceLeDiff, Int.reduceEq, Int.reduceNeg, Int.reduceLT, Int.reduceLE, Int.reduceAdd, Int.reduceMul, Int.reduceSub]
    rw [← zd] at key
    have ef : ((allOf sizes).map fun c => endS sizes c (ls.take (i + 1)) s).map D.int = (allOf sizes).map fun c => D.int (stp sizes c (endS sizes c F s) (lot, maps)) := by
      rw [List.map_map]
      refine List.map_congr_left fun c _ => ?_
      show D.int (endS sizes c (ls.take (i + 1)) s) = _
      rw [List.take_add_one, hi, eF, endS_app]
      rfl
    refine ⟨_, (some (.tup (lot.map .int)), some (.tup (rows maps)), some (.dtt (allOf (atLot sizes lot)) (rows maps))), by
      rw [show lkD (lot, maps) = .tup [.tup (lot.map .int), .tup (rows maps)] from rfl]
      simp only [Tw.ev, List.replicate, ne_eq, reduceCtorEq, Nat.reduceAdd, Nat.reduceSub, Nat.reduceLT, Nat.reduceLeDiff, Int.reduceEq, Int.reduceNeg, Int.reduceLT, Int.reduceLE, Int.reduceAdd, Int.reduceMul, Int.reduceSub]
      rfl, .inl ?_⟩
    rw [ef, ← eF]
    have lz : lenOk (zipD (rows (allOf sizes)) (((allOf sizes).map fun c => endS sizes c F s).map .int)).length = true := by rw [zd, List.length_map]; exact lA
    simp only [l__law_ends_1, ej, ez, ek, nd, zz, key, lz, Tw.ev, List.replicate, ne_eq, reduceCtorEq, Nat.reduceAdd, Nat.reduceSub, Nat.reduceLT, Nat.reduceLeDiff, Int.reduceEq, Int.reduceNeg, Int.reduceLT, Int.reduceLE, Int.reduceAdd, Int.reduceMul, Int.reduceSub])
  rw [List.take_zero, List.take_length] at e
  have e0 : ((allOf sizes).map fun c => endS sizes c [] s).map D.int = List.replicate (allOf sizes).length (D.int s) := by
    rw [rep_map, List.map_map]; rfl
  rw [e0] at e
  have rp := rep_one (D.int s) (allOf sizes).length
  have b1 : (-(2 ^ 62) : Int) ≤ ((allOf sizes).length : Int) ∧ ((allOf sizes).length : Int) ≤ 1000000 ∧ 1 * ((allOf sizes).length : Int).toNat ≤ 1000000 := by omega
  have b2 : 1 * (allOf sizes).length ≤ 1000000 := by omega
  have tn : ((allOf sizes).length : Int).toNat = (allOf sizes).length := by omega
  simp only [h__law_ends, b__law_ends, ea, lA, rp, b1, b2, tn, oks_looks, frzs_looks, e, Tw.ev, List.replicate, ne_eq, reduceCtorEq, Nat.reduceAdd, Nat.reduceSub, Nat.reduceLT, Nat.reduceLeDiff, Int.reduceEq, Int.reduceNeg, Int.reduceLT, Int.reduceLE, Int.reduceAdd, Int.reduceMul, Int.reduceSub]
end K29
namespace K29
open PySem PySem.Spec PyProof.Rows L2 Tw
theorem cut_lst {m : Bool} {ns : List Int} {i : Int} (h0 : 0 ≤ i) : gSl (.lst m (ns.map .int)) none (some i) = some (.lst true ((ns.take i.toNat).map .int)) := by
  have h := cut_to (ns := ns) h0
  have o : D.oks (ns.map .int) = true := oks_int ns
  simp only [gSl, if_pos o, Option.some.injEq, D.tup.injEq] at h ⊢
  rw [h]
theorem flats_int : ∀ ns : List Int, D.flats (ns.map .int) = some (ns.map V.int)
  | [] => rfl
  | n :: ns => by rw [List.map_cons, D.flats, flats_int ns]; rfl
theorem in_ints (x : Int) (ns : List Int) : gIn [.int x, .tup (ns.map .int)] = some (.bl (decide (x ∈ ns))) := by
  have e : gIn [.int x, .tup (ns.map .int)] = (D.seqK (.tup (ns.map .int))).bind fun q => (D.flats q.2).map fun vs => .bl (inV (.int x) vs) := rfl
  rw [e, Tw.seqK_tup, oks_int, if_pos rfl, Option.bind_some, flats_int, Option.map_some]
  congr 2
  unfold inV
  rw [List.any_map]
  apply Bool.eq_iff_iff.mpr
  rw [List.any_eq_true, decide_eq_true_eq]
  constructor
  · rintro ⟨y, hy, e⟩
    have : y = x := by simpa [eqV] using e
    rw [← this]; exact hy
  · intro hx
    exact ⟨x, hx, by simp [eqV]⟩
theorem idx_someG {α : Type} [BEq α] [LawfulBEq α] : ∀ {m : List α} {s : α}, s ∈ m → ∃ j, m.idxOf? s = some j ∧ m[j]? = some s
  | x :: m, s, h => by
    by_cases c : x = s
    · subst c
      exact ⟨0, by rw [List.idxOf?_cons, beq_self_eq_true]; rfl, rfl⟩
    · have hs : s ∈ m := by
        rcases List.mem_cons.mp h with rfl | h
        · exact absurd rfl c
        · exact h
      obtain ⟨j, e1, e2⟩ := idx_someG hs
      refine ⟨j + 1, ?_, by rw [List.getElem?_cons_succ]; exact e2⟩
      rw [List.idxOf?_cons, e1]
      have : (x == s) = false := beq_eq_false_iff_ne.mpr c
      rw [this]
      rfl
theorem pys_rows : ∀ ls : List (List Int), D.pys (rows ls) = some (ls.map fun l => .tuple (l.map .int))
  | [] => rfl
  | l :: ls => by
    have e : D.py (.tup (l.map .int)) = some (.tuple (l.map .int)) := by
      rw [D.py, pys_ints (by rw [Tw.ints_map])]; rfl
    have e1 : rows (l :: ls) = .tup (l.map .int) :: rows ls := rfl
    rw [e1, D.pys, e, pys_rows ls]
    rfl
theorem idxOf_rows (c : List Int) : ∀ ls : List (List Int), Tw.idxOf (ls.map fun l => .tuple (l.map .int)) (.tuple (c.map .int)) = ls.idxOf? c
  | [] => rfl
  | l :: ls => by
    rw [List.map_cons, Tw.idxOf, List.idxOf?_cons, idxOf_rows c ls, eqv_ints]
    by_cases h : l = c
    · subst h
      rw [decide_eq_true rfl, beq_self_eq_true]
    · rw [decide_eq_false h, beq_eq_false_iff_ne.mpr h]
theorem index_rows (ls : List (List Int)) (c : List Int) : gIndex (rows ls) (.tup (c.map .int)) = ls.idxOf? c := by
  have s1 : SeqAt.shaped (.tuple (ls.map fun l => .tuple (l.map .int))) = true := by
    obtain ⟨p, e1, cc, dp⟩ := dpt_py (n := 2) (d := .tup (rows ls)) (dpt_tup (dpt_map fun l _ => dpt_ints 0 l))
    have e : D.py (.tup (rows ls)) = some (.tuple (ls.map fun l => .tuple (l.map .int))) := by
      rw [D.py, pys_rows]; rfl
    rw [e] at e1
    cases e1
    unfold SeqAt.shaped
    rw [cc, Bool.true_and]
    exact decide_eq_true (by omega)
  obtain ⟨p, e1, cc, dp⟩ := dpt_py (dpt_ints 0 c)
  have e : D.py (.tup (c.map .int)) = some (.tuple (c.map .int)) := by
    rw [D.py, pys_ints (by rw [Tw.ints_map])]; rfl
  rw [e] at e1
  cases e1
  have s2 : (SeqAt.shaped (.tuple (c.map .int)) && decide ((PyData.tuple (c.map .int)).depth ≤ 60)) = true := by
    unfold SeqAt.shaped
    rw [cc, Bool.true_and, decide_eq_true (by omega), decide_eq_true (by omega)]
    rfl
  unfold gIndex
  rw [pys_rows, Option.bind_some, e, Option.bind_some, s1, s2, Bool.and_self, if_pos rfl, idxOf_rows]
theorem all_pos {sizes : List Int} (sz : Sz sizes) : 0 < (allOf sizes).length := by
  refine List.length_pos_of_mem (a := sizes.map fun _ => 0) (mem_all (List.length_map _) fun z hz => ?_)
  rw [zip_self] at hz
  obtain ⟨s, hs, rfl⟩ := List.mem_map.mp hz
  have := sz.2.2 s hs
  show (0 : Int) ≤ 0 ∧ (0 : Int) ≤ s - 1
  omega
theorem ring_next {n : Nat} {a b d x : Int} (R : Ring n a b d) (h : x ∈ [a, b, d]) : ∃ j : Nat, gIndex [.int a, .int b, .int d] (.int x) = some j ∧ atI [D.int a, .int b, .int d, .int a] ((j : Int) + 1) = some (D.int (cyc3 a b d x)) := by
  have e := index_ints [a, b, d] x
  simp only [List.map_cons, List.map_nil] at e
  have q1 := R.ab
  have q2 := R.ad
  have q3 := R.bd
  simp only [List.mem_cons, List.not_mem_nil, or_false] at h
  rcases h with rfl | rfl | rfl
  · refine ⟨0, by rw [e]; simp [List.idxOf?_cons], ?_⟩
    have : cyc3 x b d x = b := by unfold cyc3; rw [if_neg q2, if_neg q1, if_pos rfl]
    rw [this]; rfl
  · refine ⟨1, by rw [e]; simp [List.idxOf?_cons, q1], ?_⟩
    have : cyc3 a x d x = d := by unfold cyc3; rw [if_neg q3, if_pos rfl]
    rw [this]; rfl
  · refine ⟨2, by rw [e]; simp [List.idxOf?_cons, q2, q3], ?_⟩
    have : cyc3 a b x x = a := by unfold cyc3; rw [if_pos rfl]
    rw [this]; rfl
theorem all_end {sizes c c' : List Int} {n : Nat} {a b d x : Int} (R : Ring n a b d) (sz : Sz sizes) (hc : c ∈ allOf sizes) (hc' : c' ∈ allOf sizes) (h0 : 0 ≤ x) (h1 : x < (n : Int)) : endS sizes c' (roundL sizes c n a b d (sizes.length - 1)) x = if c' = c then cyc3 a b d x else x := by
  have s1 := sz.1
  have e := round_end (c := c) R sz (ct_all sz hc').1 (sizes.length - 1) (by omega) x h0 h1
  have q := pre_all (c := c) (c' := c') (p := sizes.length - 1) (by rw [(ct_all sz hc).1.1]; omega) (by rw [(ct_all sz hc').1.1]; omega)
  by_cases cc : c' = c
  · rw [if_pos cc]; exact e.1 (q.mpr cc)
  · rw [if_neg cc]; exact e.2 fun z => cc (q.mp z)
theorem begin_ok {sizes c : List Int} {n : Nat} {a b d x : Int} (R : Ring n a b d) (sz : Sz sizes) (hc : c ∈ allOf sizes) (h0 : 0 ≤ x) (h1 : x < (n : Int)) (m : Bool) (y0 y1 y2 y10 : Option D) :
    ∃ z10, l_law_1 [y0, y1, y2, some (.tup (sizes.map .int)), some (.tup (c.map .int)), some (.int n), some (.tup [.int a, .int b, .int d]), some (rowD false sizes n (roundL sizes c n a b d (sizes.length - 1))), some (.lst m (rows (allOf sizes))), some (.int x), y10, none, none] =
      .next [y0, y1, y2, some (.tup (sizes.map .int)), some (.tup (c.map .int)), some (.int n), some (.tup [.int a, .int b, .int d]), some (rowD false sizes n (roundL sizes c n a b d (sizes.length - 1))), some (.lst false (rows (allOf sizes))), some (.int x), z10, none, none] := by
  have s1 := sz.1
  have la : (allOf sizes).length ≤ 4096 := allOf_len (fun s hs => (sz.b s hs).2) sz.2.1
  have lA : lenOk (allOf sizes).length = true := lenOk_of (by omega)
  have rl := round_RL (c := c) R sz (sizes.length - 1) (by omega)
  have ee := ends_ok (m := m) (s := x) sz (fun l hl => (rl l hl).1.1) h0 h1
  obtain ⟨V, eV⟩ : ∃ V, V = (allOf sizes).map fun c' => endS sizes c' (roundL sizes c n a b d (sizes.length - 1)) x := ⟨_, rfl⟩
  rw [← eV] at ee
  have b2 : 1 * (allOf sizes).length ≤ 1000000 := by omega
  have b3 : ((allOf sizes).length : Int) ≤ 1000000 := by omega
  have b4 : (-(2 ^ 62) : Int) ≤ ((allOf sizes).length : Int) := by omega
  have tn : ((allOf sizes).length : Int).toNat = (allOf sizes).length := by omega
  have rp := rep_one (D.int x) (allOf sizes).length
  have nn := ne_lints true true V
  have c1 : gSl (.tup [.int a, .int b, .int d]) none (some 1) = some (.tup [.int a]) := cut_to (ns := [a, b, d]) (i := 1) (by omega)
  have hin := in_ints x [a, b, d]
  simp only [List.map_cons, List.map_nil] at hin
  have l4 : lenOk 4 = true := lenOk_of (by omega)
  have ok1 : D.oks (List.replicate (allOf sizes).length (D.int x)) = true := by
    rw [rep_map]
    exact oks_mapD (fun _ => rfl) _
  by_cases hx : x ∈ [a, b, d]
  · rw [decide_eq_true hx] at hin
    obtain ⟨j, i1, i2⟩ := ring_next R hx
    obtain ⟨k, k1, k2⟩ := idx_someG hc
    have ir := index_rows (allOf sizes) c
    rw [k1] at ir
    have kl := (List.getElem?_eq_some_iff.mp k2).1
    have ix : ixN (allOf sizes).length (k : Int) = some k := by
      have := ixN_of (n := (allOf sizes).length) (z := (k : Int)) (by omega) (by omega)
      rwa [show ((k : Int)).toNat = k by omega] at this
    have st : (List.replicate (allOf sizes).length (D.int x)).set k (.int (cyc3 a b d x)) = V.map .int := by
      apply List.ext_getElem?
      intro i
      rw [List.getElem?_set, eV, List.getElem?_map, List.getElem?_map, List.length_replicate, List.getElem?_replicate]
      by_cases hi : i < (allOf sizes).length
      · have am : (allOf sizes)[i] ∈ allOf sizes := List.getElem_mem hi
        rw [List.getElem?_eq_getElem hi, if_pos hi, Option.map_some, Option.map_some, all_end R sz hc am h0 h1]
        have kk : (allOf sizes)[k] = c := (List.getElem?_eq_some_iff.mp k2).2
        by_cases hk : k = i
        · subst hk
          rw [if_pos rfl, if_pos kl, if_pos kk]
        · rw [if_neg hk, if_neg]
          intro z
          have nd := allOf_nodup sz.pos
          have := (List.getElem_inj nd).mp (kk.trans z.symm)
          exact hk this
      · rw [if_neg (by omega), if_neg hi, List.getElem?_eq_none (by omega)]
        rfl
    refine ⟨some (.lst true (V.map .int)), ?_⟩
    simp only [l_law_1, lA, rp, b2, b3, b4, tn, hin, i1, i2, ir, l4, c1, ok1, List.length_replicate, ix, st, rfld_looks, frz_row, ee, nn, Tw.ev, List.replicate, ne_eq, reduceCtorEq, Nat.reduceAdd, Nat.reduceSub, Nat.reduceLT, Nat.reduceLeDiff, Int.reduceEq, Int.reduceNeg, Int.reduceLT, Int.reduceLE, Int.reduceAdd, Int.reduceMul, Int.reduceSub]
  · rw [decide_eq_false hx] at hin
    have cx : cyc3 a b d x = x := by
      simp only [List.mem_cons, List.not_mem_nil, or_false, not_or] at hx
      unfold cyc3
      rw [if_neg hx.2.2, if_neg hx.2.1, if_neg hx.1]
    have st : List.replicate (allOf sizes).length (D.int x) = V.map .int := by
      rw [rep_map, eV, List.map_map]
      refine List.map_congr_left fun c' hc' => ?_
      show _ = D.int (endS sizes c' _ x)
      rw [all_end R sz hc hc' h0 h1, cx]
      split <;> rfl
    refine ⟨some (.lst true (V.map .int)), ?_⟩
    simp only [l_law_1, lA, rp, b2, b3, b4, tn, hin, st, rfld_looks, frz_row, ee, nn, Tw.ev, List.replicate, ne_eq, reduceCtorEq, Nat.reduceAdd, Nat.reduceSub, Nat.reduceLT, Nat.reduceLeDiff, Int.reduceEq, Int.reduceNeg, Int.reduceLT, Int.reduceLE, Int.reduceAdd, Int.reduceMul, Int.reduceSub]
end K29
namespace K29
open PySem PySem.Spec PyProof.Rows L2 Tw
theorem ring_of {n : Nat} {ys : List Int} (h3 : 3 ≤ n) (p : ys.Perm (ups n)) : ∃ a b d, ys.take 3 = [a, b, d] ∧ Ring n a b d := by
  have hl : ys.length = n := by rw [p.length_eq, ups_len]
  have nd : ys.Nodup := p.nodup_iff.mpr (ups_nodup n)
  match ys, hl, nd, p with
  | a :: b :: d :: r, hl, nd, p =>
    have m : ∀ x ∈ [a, b, d], 0 ≤ x ∧ x < (n : Int) := fun x hx => mem_ups.mp (p.mem_iff.mp (by
      simp only [List.mem_cons, List.not_mem_nil, or_false] at hx ⊢
      rcases hx with rfl | rfl | rfl <;> simp))
    simp only [List.nodup_cons, List.mem_cons, not_or] at nd
    exact ⟨a, b, d, rfl, m a (by simp), m b (by simp), m d (by simp), nd.1.1, nd.1.2.1, nd.2.1.1⟩
  | [], hl, _, _ => simp at hl; omega
  | [_], hl, _, _ => simp at hl; omega
  | [_, _], hl, _, _ => simp at hl; omega
theorem turn_ok {hd : D} (hh : Tape hd) (y0 y2 y3 y4 y5 y6 y7 y8 y9 y10 : Option D) : ∃ hd' z3 z4 z5 z6 z7 z8 z9 z10, Tape hd' ∧ l_law_2 [y0, some hd, y2, y3, y4, y5, y6, y7, y8, y9, y10, none, none] = .next [y0, some hd', y2, z3, z4, z5, z6, z7, z8, z9, z10, none, none] := by
  obtain ⟨r, hd1, e1, ⟨r0, r1⟩, hh1⟩ := pick_ok (many := 6) hh (by omega) (by omega)
  have a1 := atI_map (ns := [8, 8, 9, 16, 32, 64]) (i := r) r0 (by simp; omega)
  have v2 : 2 ≤ ([8, 8, 9, 16, 32, 64] : List Int).getD r.toNat 0 := by
    have : r.toNat = 0 ∨ r.toNat = 1 ∨ r.toNat = 2 ∨ r.toNat = 3 ∨ r.toNat = 4 ∨ r.toNat = 5 := by omega
    rcases this with e | e | e | e | e | e <;> rw [e] <;> decide
  simp only [List.map_cons, List.map_nil] at a1
  obtain ⟨sizes, hd2, e2, _, sz, _, hh2⟩ := lsizes16_ok hh1 v2
  obtain ⟨mm, ea⟩ := all_ok' (d := .tup (sizes.map .int)) (d0 := .tup (sizes.map .int)) (by simp only [Tw.ev, List.replicate, ne_eq, reduceCtorEq, Nat.reduceAdd, Nat.reduceSub, Nat.reduceLT, Nat.reduceLeDiff, Int.reduceEq, Int.reduceNeg, Int.reduceLT, Int.reduceLE, Int.reduceAdd, Int.reduceMul, Int.reduceSub]) (by simp only [Tw.ev, List.replicate, ne_eq, reduceCtorEq, Nat.reduceAdd, Nat.reduceSub, Nat.reduceLT, Nat.reduceLeDiff, Int.reduceEq, Int.reduceNeg, Int.reduceLT, Int.reduceLE, Int.reduceAdd, Int.reduceMul, Int.reduceSub]) sz.b sz.2.1
  have la : (allOf sizes).length ≤ 4096 := allOf_len (fun s hs => (sz.b s hs).2) sz.2.1
  have lA : 0 < (allOf sizes).length := all_pos sz
  obtain ⟨c, hd3, e3, hc, hh3⟩ := any_mapD (f := fun c : List Int => D.tup (c.map .int)) (m := mm) (xs := allOf sizes) (fun x => by rw [D.ok, oks_int]) hh2 lA (by omega)
  obtain ⟨q, hd4, e4, ⟨q0, q1⟩, hh4⟩ := pick_ok (many := 6) hh3 (by omega) (by omega)
  obtain ⟨n, en⟩ : ∃ n : Nat, 3 + q = (n : Int) := ⟨(3 + q).toNat, by omega⟩
  have n3 : 3 ≤ n := by omega
  have n8 : n ≤ 8 := by omega
  obtain ⟨ys, hd5, e5, py, hh5⟩ := mixed_ok (f := D.int) (m := true) (xs := ups n) (fun _ => rfl) hh4 (by rw [ups_len]; omega)
  obtain ⟨a, b, d, ey, R⟩ := ring_of n3 py
  have hg := rgN_n (n := n) (by omega)
  have yl : ys.length = n := by rw [py.length_eq, ups_len]
  have cy : gSl (.lst true (ys.map .int)) none (some 3) = some (.lst true [.int a, .int b, .int d]) := by
    have e := cut_lst (m := true) (ns := ys) (i := 3) (by omega)
    rw [show (3 : Int).toNat = 3 from rfl, ey] at e
    exact e
  have rr := round_row_ok R sz hc n3 n8
  obtain ⟨ls, els⟩ : ∃ ls, ls = roundL sizes c n a b d (sizes.length - 1) := ⟨_, rfl⟩
  have s1 := sz.1
  have s6 := sz.2.1
  have rl := round_RL (c := c) R sz (sizes.length - 1) (by omega)
  have rn := round_len (sizes := sizes) (c := c) (n := n) (a := a) (b := b) (d := d) (sizes.length - 1)
  rw [← els] at rr rl rn
  have et : ∀ ls : List Look, gNe [.tup [.tup (sizes.map .int), .int n], .tup [.tup (sizes.map .int), .int n]] = some (.bl false) := fun _ => (eq_same (n := 2) (num_tup fun x hx => by
    simp only [List.mem_cons, List.not_mem_nil, or_false] at hx
    rcases hx with rfl | rfl
    · exact num_tup (num_ints _)
    · exact num_int _ _) (by decide) rfl).2
  have et := et ls
  have ll : ls.length ≤ 94 ∧ atI [D.int 1, .int 4, .int 10, .int 22, .int 46, .int 94] ((sizes.length : Int) - 1) = some (.int ls.length) := by
    have : sizes.length = 1 ∨ sizes.length = 2 ∨ sizes.length = 3 ∨ sizes.length = 4 ∨ sizes.length = 5 ∨ sizes.length = 6 := by omega
    rcases this with e | e | e | e | e | e <;> rw [e] at rn ⊢ <;> simp only [Nat.add_one_sub_one, Nat.reduceSub, Nat.reducePow, Nat.reduceMul] at rn <;> refine ⟨by omega, ?_⟩
    · rw [show ls.length = 1 by omega]; rfl
    · rw [show ls.length = 4 by omega]; rfl
    · rw [show ls.length = 10 by omega]; rfl
    · rw [show ls.length = 22 by omega]; rfl
    · rw [show ls.length = 46 by omega]; rfl
    · rw [show ls.length = 94 by omega]; rfl
  obtain ⟨l94, al⟩ := ll
  have lL : lenOk ls.length = true := lenOk_of (by omega)
  have lS : lenOk sizes.length = true := lenOk_of (by omega)
  have key : ∀ (a0 a1 a2 a3 a4 a5 a6 a8 a9 a10 : Option D), compGo [11, 12] (bTp (bCons (bNm 11) (bCons (bNm 12) bNil))) bTrue c_law_1 (ls.map lkD) [] [a0, a1, a2, a3, a4, a5, a6, some (rowD false sizes n ls), a8, a9, a10, none, none] = .ok (ls.map fun _ => .bl true) [a0, a1, a2, a3, a4, a5, a6, some (rowD false sizes n ls), a8, a9, a10, none, none] := fun a0 a1 a2 a3 a4 a5 a6 a8 a9 a10 =>
    comp_map1 (g := lkD) (fun _ => .bl true) ls fun l hl ds acc => by
      have h1 := (rl l hl).2.2
      obtain ⟨lot, maps⟩ := l
      have h1 : lot.length = 1 := h1
      have l1 : lenOk 1 = true := lenOk_of (by omega)
      rw [show lkD (lot, maps) = .tup [.tup (lot.map .int), .tup (rows maps)] from rfl]
      simp only [c_law_1, h1, l1, Tw.cst_0, Tw.cst_1, Tw.cst_2, Tw.cst_3, Tw.cst_4, Tw.cst_5, Tw.ev, List.replicate, ne_eq, reduceCtorEq, Nat.reduceAdd, Nat.reduceSub, Nat.reduceLT, Nat.reduceLeDiff, Int.reduceEq, Int.reduceNeg, Int.reduceLT, Int.reduceLE, Int.reduceAdd, Int.reduceMul, Int.reduceSub]
  have eb : D.bools (ls.map fun _ => D.bl true) = some (ls.map fun _ => true) := bools_mapP (fun _ => true) ls
  have ec : (ls.map fun _ => true).all id = true := by simp
  have it := lturning_ok n8 (fun l hl => ⟨(rl l hl).1, (rl l hl).2.1⟩)
  obtain ⟨x, hd6, e6, ⟨x0, x1⟩, hh6⟩ := pick_ok (many := (n : Int)) hh5 (by omega) (by omega)
  obtain ⟨env', ⟨z8, z9, z10, rfl⟩, e⟩ := for_keep (bd := bNm 9) (body := l_law_1) (g := D.int) (fun env => ∃ m y9 y10, env = [y0, some hd6, y2, some (.tup (sizes.map .int)), some (.tup (c.map .int)), some (.int n), some (.tup [.int a, .int b, .int d]), some (rowD false sizes n ls), some (.lst m (rows (allOf sizes))), y9, y10, none, none]) [a, b, d, x]
    [y0, some hd6, y2, some (.tup (sizes.map .int)), some (.tup (c.map .int)), some (.int n), some (.tup [.int a, .int b, .int d]), some (rowD false sizes n ls), some (.lst mm (rows (allOf sizes))), y9, y10, none, none] ⟨mm, y9, y10, rfl⟩ (by
      rintro t ht env ⟨m, y9, y10, rfl⟩
      have tb : 0 ≤ t ∧ t < (n : Int) := by
        simp only [List.mem_cons, List.not_mem_nil, or_false] at ht
        rcases ht with rfl | rfl | rfl | rfl
        · exact R.ha
        · exact R.hb
        · exact R.hd
        · exact ⟨x0, x1⟩
      obtain ⟨z10, e⟩ := begin_ok R sz hc tb.1 tb.2 m y0 (some hd6) y2 y10
      rw [← els] at e
      exact ⟨_, ⟨false, some (.int t), z10, rfl⟩, fun ds => by simp only [e, Tw.e_run, Tw.e_rtR, Tw.e_rtX, Tw.e_rtN, Tw.e_io_nil, Tw.e_io_one, Tw.e_ioR1, Tw.e_seqN, Tw.e_seqR, Tw.e_seqB, Tw.e_seqC, Tw.e_sNil, Tw.e_sBrk, Tw.e_sCont, Tw.e_sRet, Tw.e_sExpr, Tw.e_sIf, Tw.e_sAsg, Tw.e_nxR, Tw.e_bNm, Tw.e_sPar, Tw.e_sFor, Tw.e_sAug, Tw.e_augR, Tw.e_own, Tw.e_ownR, Tw.e_stR2, Tw.e_sStore, Tw.e_stR, Tw.e_stR3, Tw.e_m1R, Tw.e_m1S, Tw.e_m1T, Tw.e_mt1, Tw.e_m0S, Tw.e_mt0, Tw.e_var, Tw.e_varR, Tw.e_move, Tw.e_moveR, Tw.e_K, Tw.e_nil, Tw.e_val, Tw.e_slot, Tw.e_slotR, Tw.e_gnil, Tw.e_gval, Tw.e_gvR, Tw.e_gslot, Tw.e_gsR, Tw.e_gR, Tw.e_gpR, Tw.e_N, Tw.e_vals0, Tw.e_vals1, Tw.e_tup, Tw.e_lst, Tw.e_and, Tw.e_andT, Tw.e_andF, Tw.e_or, Tw.e_orT, Tw.e_orF, Tw.e_not, Tw.e_notR, Tw.e_bE, Tw.e_bR, Tw.e_bAnd, Tw.e_bOr, Tw.e_bNot, Tw.e_bTrue, Tw.e_if, Tw.e_chR2, Tw.e_chRT, Tw.e_chRF, Tw.e_chain, Tw.e_part0, Tw.e_part, Tw.e_partR, Tw.e_sl, Tw.e_rev, Tw.e_kval, Tw.e_kval2, Tw.e_kN, Tw.e_ktup, Tw.e_klst, Tw.e_kand, Tw.e_kor, Tw.e_knot, Tw.e_kbE, Tw.e_kbAnd, Tw.e_kbOr, Tw.e_kbNot, Tw.e_kif, Tw.e_kpart, Tw.e_krev, Tw.e_kcall, Tw.e_ksRet, Tw.e_ksExpr, Tw.e_ksIf, Tw.e_ksAsg, Tw.e_ksFor, Tw.e_ksStore, Tw.e_kstR, Tw.e_km1T, Tw.e_kiSeq, Tw.e_kiRng, Tw.e_kiZip, Tw.e_kmake, Tw.e_kfset, Tw.e_kchRT, Tw.e_kchain2, Tw.e_kchain, Tw.e_ksl, Tw.e_ksl2, Tw.e_ksl3, Tw.e_ksPar, Tw.e_ksPar2, Tw.e_ksAug, Tw.e_ksAug2, Tw.e_kcp3, Tw.e_kcomp, Tw.e_kcomp2, Tw.e_coR, Tw.e_kco2, Tw.e_kco, Tw.e_co, Tw.e_callR, Tw.e_call, Tw.e_io0, Tw.e_io1, Tw.e_io1R, Tw.e_itR, Tw.e_iSeq, Tw.e_rgR, Tw.e_iRng, Tw.e_zpR, Tw.e_iZip, Tw.e_comp, Tw.e_comp2, Tw.e_wipe0, Tw.e_wipe1, Tw.e_bTp, Tw.e_bTp2, Tw.e_index, Tw.e_dnew, Tw.ixD_1, Tw.key_int, Tw.key_str, Tw.e_dstore, Tw.ownDAt_eq', Tw.ownD_1, Tw.ixT_1, Tw.frz_dtt, Tw.ok_dtt, Tw.sum_lst, Tw.e_lz, Tw.dictT_1, Tw.e_bNil, Tw.e_bCons, Tw.e_mkR, Tw.e_make, Tw.e_fset, Tw.e_fsR, Tw.e_oo, Tw.e_ooR, Tw.e_coR2, Tw.tru_non, Tw.tru_bl, Tw.tru_int, Tw.tru_tup, Tw.tru_lst, Tw.asI_int, Tw.ints_nil, Tw.ints_cons, Tw.items_lst, Tw.items_tup, Tw.seqK_lst, Tw.seqK_tup, Tw.isN_int, Tw.isN_non, Tw.isN_tup, Tw.notN_int, Tw.notN_non, Tw.notN_tup, Tw.mul_int, Tw.add_int, Tw.sub_int, Tw.fdiv_int, Tw.mod_int, Tw.pow_int, Tw.lt_int, Tw.le_int, Tw.gt_int, Tw.ge_int, Tw.neg_int, Tw.imul_int, Tw.iadd_int, Tw.len_lst, Tw.len_tup, Tw.ix_lst, Tw.ix_tup, Tw.tuple_lst, Tw.tuple_tup, Tw.list_lst, Tw.list_tup, Tw.list_scr, Tw.abs_int, Tw.intC_int, Tw.intC_bl, Tw.all_lst, Tw.any_lst, Tw.isi_2, Tw.tag_non, Tw.tag_bl, Tw.tag_int, Tw.tag_str, Tw.tag_tup, Tw.tag_lst, Tw.tag_obj, Tw.asT_ty, Tw.asT_cl, Tw.frz_int, Tw.frz_bl, Tw.frz_non, Tw.frz_ty, Tw.frz_cl, Tw.frz_scr, Tw.frz_tup, Tw.frz_lst, Tw.frz_obj, Tw.frzs_nil, Tw.frzs_cons, Tw.ok_int, Tw.ok_bl, Tw.ok_non, Tw.ok_tup, Tw.ok_lst, Tw.ok_obj, Tw.doks_nil, Tw.doks_cons, Tw.sl_scr, Tw.sl_lst, Tw.sl_tup, Tw.rev_lst, Tw.rev_tup, Tw.eq_int, Tw.ne_int, Tw.sorted_2, Tw.e_lrR, Tw.e_klrg, Tw.e_lrg, Tw.sorted_lst, Tw.min_int, Tw.max_int, Tw.e_enR, Tw.e_kiEnum, Tw.e_iEnum, Tw.enumOf_1, Tw.e_kcpB, Tw.e_cpB, Tw.e_compB, Tw.e_fgN, Tw.e_fgC, Tw.e_fgB, Tw.e_fgRt, Tw.e_fgR, Tw.e_for0, Tw.e_for1, Tw.e_cgF, Tw.e_cgT, Tw.e_cgR, Tw.e_neo, Tw.e_cg0, Tw.e_cg1, Tw.e_c2A, Tw.e_c2I, Tw.e_c2T, Tw.e_c2R, Tw.e_c20, Tw.e_c21, Tw.at5_0, Tw.at5_1, Tw.at5_2, Tw.at5_3, Tw.at5_4, Tw.ix5_1, Tw.ix5_2, Tw.ix5_3, Tw.ix5_4, Tw.ints_map, Tw.e_frz, Tw.e_kfrz, Tw.e_fldO, Tw.e_Down, Tw.e_mtF1S, Tw.e_kmtF1, Tw.e_mtF1R, Tw.e_mtF1, Tw.e_mtF0R, Tw.e_mtF0, Tw.e_fldV, Tw.e_augF, Tw.e_kfaug, Tw.e_faugR, Tw.e_faug, Tw.e_methR, Tw.e_meth, Tw.e_mxR, Tw.e_kmaxD, Tw.e_maxD, Tw.intsOf_lst, Tw.intsOf_tup, Tw.e_mmR, Tw.e_mm, Tw.mul_tup, Tw.mul_lst, Tw.frz_str, Tw.ok_str, Tw.eq_str, Tw.ne_str, Tw.eq_bool, Tw.lt_str, Tw.le_str, Tw.items_str, Tw.add_tup, Tw.add_lst, Tw.oks_rows, Tw.frzs_rows, Tw.rows_len, Tw.oks_int, Tw.frzs_int, Tw.oks_tI, Tw.ok_tI, Tw.frz_tI, Tw.e_bok, Tw.e_sbok, List.map_cons, List.map_nil, List.length_cons, List.length_nil, List.cons_append, List.nil_append, List.replicate, List.getElem?_cons_zero, List.getElem?_cons_succ, List.set_cons_zero, List.set_cons_succ, Option.bind_some, Option.map_some, Nat.zero_add, Nat.add_zero, Nat.reduceAdd, Nat.reduceSub, Nat.reduceLT, Nat.reduceLeDiff, Bool.and_true, Bool.true_and, Bool.and_self, Bool.not_true, Bool.not_false, Bool.false_and, Bool.and_false, Bool.or_true, Bool.true_or, Bool.or_false, Bool.false_or, if_true, if_false, Bool.false_eq_true, reduceCtorEq, ite_true, ite_false, decide_true, decide_false, decide_eq_true_eq, ne_eq, Int.reduceEq, not_false_eq_true, not_true_eq_false, List.length_map, Option.map_none, Int.reduceNeg, and_self, Int.reduceLT, Int.reduceLE, Int.reduceAdd, Int.reduceMul, Int.reduceSub]⟩)
  simp only [List.map_cons, List.map_nil] at e
  have l4 : lenOk 4 = true := lenOk_of (by omega)
  have l3 : lenOk 3 = true := lenOk_of (by omega)
  refine ⟨hd6, some (.tup (sizes.map .int)), some (.tup (c.map .int)), some (.int n), some (.tup [.int a, .int b, .int d]), some (rowD false sizes n ls), some (.lst z8 (rows (allOf sizes))), z9, z10, hh6, ?_⟩
  have e3' : h__law_any [hd2, .lst mm (rows (allOf sizes))] = _ := e3
  simp only [l_law_2, e1, a1, e2, ea, e3', e4, en, hg, e5, cy, l3, l4, rr, isa_Row_Row, tag_row, frz_row, rfld_sizes, rfld_standings, rfld_looks, et, oks_looks, frzs_looks, key, eb, ec, it, lL, lS, al, e6, e, Tw.ev, List.replicate, ne_eq, reduceCtorEq, Nat.reduceAdd, Nat.reduceSub, Nat.reduceLT, Nat.reduceLeDiff, Int.reduceEq, Int.reduceNeg, Int.reduceLT, Int.reduceLE, Int.reduceAdd, Int.reduceMul, Int.reduceSub]
theorem law_true (ns : List Int) (h : ns.length ≤ 63) : h_law [.scr ns] = .ret (.bl true) [] := by
  obtain ⟨d, e1, hd⟩ := tape_ok (ns := ns)
  have hr : rngOf [3] = some (0, 3) := rngOf_1 (by omega)
  obtain ⟨env', ⟨d2, z2, z3, z4, z5, z6, z7, z8, z9, z10, _, rfl⟩, e4⟩ := for_keep (bd := bNm 2) (body := l_law_2) (g := fun i : Nat => D.int (i : Int))
    (fun env => ∃ hd y2 y3 y4 y5 y6 y7 y8 y9 y10, Tape hd ∧ env = [some (.scr ns), some hd, y2, y3, y4, y5, y6, y7, y8, y9, y10, none, none]) (List.range 3) [some (.scr ns), some d, none, none, none, none, none, none, none, none, none, none, none]
    ⟨d, none, none, none, none, none, none, none, none, none, hd, rfl⟩ (by
      rintro x hx env ⟨hd, y2, y3, y4, y5, y6, y7, y8, y9, y10, hh, rfl⟩
      obtain ⟨hd', z3, z4, z5, z6, z7, z8, z9, z10, hh', e⟩ := turn_ok hh (some (.scr ns)) (some (.int x)) y3 y4 y5 y6 y7 y8 y9 y10
      exact ⟨_, ⟨hd', some (.int x), z3, z4, z5, z6, z7, z8, z9, z10, hh', rfl⟩, fun ds => by simp only [e, Tw.e_run, Tw.e_rtR, Tw.e_rtX, Tw.e_rtN, Tw.e_io_nil, Tw.e_io_one, Tw.e_ioR1, Tw.e_seqN, Tw.e_seqR, Tw.e_seqB, Tw.e_seqC, Tw.e_sNil, Tw.e_sBrk, Tw.e_sCont, Tw.e_sRet, Tw.e_sExpr, Tw.e_sIf, Tw.e_sAsg, Tw.e_nxR, Tw.e_bNm, Tw.e_sPar, Tw.e_sFor, Tw.e_sAug, Tw.e_augR, Tw.e_own, Tw.e_ownR, Tw.e_stR2, Tw.e_sStore, Tw.e_stR, Tw.e_stR3, Tw.e_m1R, Tw.e_m1S, Tw.e_m1T, Tw.e_mt1, Tw.e_m0S, Tw.e_mt0, Tw.e_var, Tw.e_varR, Tw.e_move, Tw.e_moveR, Tw.e_K, Tw.e_nil, Tw.e_val, Tw.e_slot, Tw.e_slotR, Tw.e_gnil, Tw.e_gval, Tw.e_gvR, Tw.e_gslot, Tw.e_gsR, Tw.e_gR, Tw.e_gpR, Tw.e_N, Tw.e_vals0, Tw.e_vals1, Tw.e_tup, Tw.e_lst, Tw.e_and, Tw.e_andT, Tw.e_andF, Tw.e_or, Tw.e_orT, Tw.e_orF, Tw.e_not, Tw.e_notR, Tw.e_bE, Tw.e_bR, Tw.e_bAnd, Tw.e_bOr, Tw.e_bNot, Tw.e_bTrue, Tw.e_if, Tw.e_chR2, Tw.e_chRT, Tw.e_chRF, Tw.e_chain, Tw.e_part0, Tw.e_part, Tw.e_partR, Tw.e_sl, Tw.e_rev, Tw.e_kval, Tw.e_kval2, Tw.e_kN, Tw.e_ktup, Tw.e_klst, Tw.e_kand, Tw.e_kor, Tw.e_knot, Tw.e_kbE, Tw.e_kbAnd, Tw.e_kbOr, Tw.e_kbNot, Tw.e_kif, Tw.e_kpart, Tw.e_krev, Tw.e_kcall, Tw.e_ksRet, Tw.e_ksExpr, Tw.e_ksIf, Tw.e_ksAsg, Tw.e_ksFor, Tw.e_ksStore, Tw.e_kstR, Tw.e_km1T, Tw.e_kiSeq, Tw.e_kiRng, Tw.e_kiZip, Tw.e_kmake, Tw.e_kfset, Tw.e_kchRT, Tw.e_kchain2, Tw.e_kchain, Tw.e_ksl, Tw.e_ksl2, Tw.e_ksl3, Tw.e_ksPar, Tw.e_ksPar2, Tw.e_ksAug, Tw.e_ksAug2, Tw.e_kcp3, Tw.e_kcomp, Tw.e_kcomp2, Tw.e_coR, Tw.e_kco2, Tw.e_kco, Tw.e_co, Tw.e_callR, Tw.e_call, Tw.e_io0, Tw.e_io1, Tw.e_io1R, Tw.e_itR, Tw.e_iSeq, Tw.e_rgR, Tw.e_iRng, Tw.e_zpR, Tw.e_iZip, Tw.e_comp, Tw.e_comp2, Tw.e_wipe0, Tw.e_wipe1, Tw.e_bTp, Tw.e_bTp2, Tw.e_index, Tw.e_dnew, Tw.ixD_1, Tw.key_int, Tw.key_str, Tw.e_dstore, Tw.ownDAt_eq', Tw.ownD_1, Tw.ixT_1, Tw.frz_dtt, Tw.ok_dtt, Tw.sum_lst, Tw.e_lz, Tw.dictT_1, Tw.e_bNil, Tw.e_bCons, Tw.e_mkR, Tw.e_make, Tw.e_fset, Tw.e_fsR, Tw.e_oo, Tw.e_ooR, Tw.e_coR2, Tw.tru_non, Tw.tru_bl, Tw.tru_int, Tw.tru_tup, Tw.tru_lst, Tw.asI_int, Tw.ints_nil, Tw.ints_cons, Tw.items_lst, Tw.items_tup, Tw.seqK_lst, Tw.seqK_tup, Tw.isN_int, Tw.isN_non, Tw.isN_tup, Tw.notN_int, Tw.notN_non, Tw.notN_tup, Tw.mul_int, Tw.add_int, Tw.sub_int, Tw.fdiv_int, Tw.mod_int, Tw.pow_int, Tw.lt_int, Tw.le_int, Tw.gt_int, Tw.ge_int, Tw.neg_int, Tw.imul_int, Tw.iadd_int, Tw.len_lst, Tw.len_tup, Tw.ix_lst, Tw.ix_tup, Tw.tuple_lst, Tw.tuple_tup, Tw.list_lst, Tw.list_tup, Tw.list_scr, Tw.abs_int, Tw.intC_int, Tw.intC_bl, Tw.all_lst, Tw.any_lst, Tw.isi_2, Tw.tag_non, Tw.tag_bl, Tw.tag_int, Tw.tag_str, Tw.tag_tup, Tw.tag_lst, Tw.tag_obj, Tw.asT_ty, Tw.asT_cl, Tw.frz_int, Tw.frz_bl, Tw.frz_non, Tw.frz_ty, Tw.frz_cl, Tw.frz_scr, Tw.frz_tup, Tw.frz_lst, Tw.frz_obj, Tw.frzs_nil, Tw.frzs_cons, Tw.ok_int, Tw.ok_bl, Tw.ok_non, Tw.ok_tup, Tw.ok_lst, Tw.ok_obj, Tw.doks_nil, Tw.doks_cons, Tw.sl_scr, Tw.sl_lst, Tw.sl_tup, Tw.rev_lst, Tw.rev_tup, Tw.eq_int, Tw.ne_int, Tw.sorted_2, Tw.e_lrR, Tw.e_klrg, Tw.e_lrg, Tw.sorted_lst, Tw.min_int, Tw.max_int, Tw.e_enR, Tw.e_kiEnum, Tw.e_iEnum, Tw.enumOf_1, Tw.e_kcpB, Tw.e_cpB, Tw.e_compB, Tw.e_fgN, Tw.e_fgC, Tw.e_fgB, Tw.e_fgRt, Tw.e_fgR, Tw.e_for0, Tw.e_for1, Tw.e_cgF, Tw.e_cgT, Tw.e_cgR, Tw.e_neo, Tw.e_cg0, Tw.e_cg1, Tw.e_c2A, Tw.e_c2I, Tw.e_c2T, Tw.e_c2R, Tw.e_c20, Tw.e_c21, Tw.at5_0, Tw.at5_1, Tw.at5_2, Tw.at5_3, Tw.at5_4, Tw.ix5_1, Tw.ix5_2, Tw.ix5_3, Tw.ix5_4, Tw.ints_map, Tw.e_frz, Tw.e_kfrz, Tw.e_fldO, Tw.e_Down, Tw.e_mtF1S, Tw.e_kmtF1, Tw.e_mtF1R, Tw.e_mtF1, Tw.e_mtF0R, Tw.e_mtF0, Tw.e_fldV, Tw.e_augF, Tw.e_kfaug, Tw.e_faugR, Tw.e_faug, Tw.e_methR, Tw.e_meth, Tw.e_mxR, Tw.e_kmaxD, Tw.e_maxD, Tw.intsOf_lst, Tw.intsOf_tup, Tw.e_mmR, Tw.e_mm, Tw.mul_tup, Tw.mul_lst, Tw.frz_str, Tw.ok_str, Tw.eq_str, Tw.ne_str, Tw.eq_bool, Tw.lt_str, Tw.le_str, Tw.items_str, Tw.add_tup, Tw.add_lst, Tw.oks_rows, Tw.frzs_rows, Tw.rows_len, Tw.oks_int, Tw.frzs_int, Tw.oks_tI, Tw.ok_tI, Tw.frz_tI, Tw.e_bok, Tw.e_sbok, List.map_cons, List.map_nil, List.length_cons, List.length_nil, List.cons_append, List.nil_append, List.replicate, List.getElem?_cons_zero, List.getElem?_cons_succ, List.set_cons_zero, List.set_cons_succ, Option.bind_some, Option.map_some, Nat.zero_add, Nat.add_zero, Nat.reduceAdd, Nat.reduceSub, Nat.reduceLT, Nat.reduceLeDiff, Bool.and_true, Bool.true_and, Bool.and_self, Bool.not_true, Bool.not_false, Bool.false_and, Bool.and_false, Bool.or_true, Bool.true_or, Bool.or_false, Bool.false_or, if_true, if_false, Bool.false_eq_true, reduceCtorEq, ite_true, ite_false, decide_true, decide_false, decide_eq_true_eq, ne_eq, Int.reduceEq, not_false_eq_true, not_true_eq_false, List.length_map, Option.map_none, Int.reduceNeg, and_self, Int.reduceLT, Int.reduceLE, Int.reduceAdd, Int.reduceMul, Int.reduceSub]⟩)
  simp only [h_law, b_law, e1, hr, rngD_0, e4, Tw.ev, List.replicate, ne_eq, reduceCtorEq, Nat.reduceAdd, Nat.reduceSub, Nat.reduceLT, Nat.reduceLeDiff, Int.reduceEq, Int.reduceNeg, Int.reduceLT, Int.reduceLE, Int.reduceAdd, Int.reduceMul, Int.reduceSub]
end K29
namespace K29
open PySem PySem.Spec PyProof.Rows L2 Tw
theorem all_mk {l : PySem.W.OpenLaw} {w : World} {K : PySem.W.Frag} {h : Heap} {mg : Str → Option Value} {fa : Addr} (X : K.In h) (G : h.Ns mainGlobals mg) (hfa : mg "law" = some (.ref fa))
    {t_LEAST_STANDINGS : Tok}
    {t_LEAST_WORTHS : Tok}
    {t_MOST_LOOKED : Tok}
    {t_MOST_LOOKS : Tok}
    {t_MOST_PINS : Tok}
    {t_MOST_STANDINGS : Tok}
    {t_MOST_WORTHS : Tok}
    {C_Row : Addr}
    {g_is_integer : Addr} {od_is_integer an_is_integer : Option Addr} {sl_is_integer : Array (Option Value)} {oc_is_integer kV_is_integer dc_is_integer pm_is_integer cd_is_integer ct_is_integer : Value}
    {g_is_within : Addr} {od_is_within an_is_within : Option Addr} {sl_is_within : Array (Option Value)} {oc_is_within kV_is_within dc_is_within pm_is_within cd_is_within ct_is_within : Value}
    {g_is_lot : Addr} {od_is_lot an_is_lot : Option Addr} {sl_is_lot : Array (Option Value)} {oc_is_lot kV_is_lot dc_is_lot pm_is_lot cd_is_lot ct_is_lot : Value}
    {g_is_pair : Addr} {od_is_pair an_is_pair : Option Addr} {sl_is_pair : Array (Option Value)} {oc_is_pair kV_is_pair dc_is_pair pm_is_pair cd_is_pair ct_is_pair : Value}
    {g_check_sizes : Addr} {od_check_sizes an_check_sizes : Option Addr} {sl_check_sizes : Array (Option Value)} {oc_check_sizes kV_check_sizes dc_check_sizes pm_check_sizes cd_check_sizes ct_check_sizes : Value}
    {g_tuples_of : Addr} {od_tuples_of an_tuples_of : Option Addr} {sl_tuples_of : Array (Option Value)} {oc_tuples_of kV_tuples_of dc_tuples_of pm_tuples_of cd_tuples_of ct_tuples_of : Value}
    {g_many_contents : Addr} {od_many_contents an_many_contents : Option Addr} {sl_many_contents : Array (Option Value)} {oc_many_contents kV_many_contents dc_many_contents pm_many_contents cd_many_contents ct_many_contents : Value}
    {g_is_content : Addr} {od_is_content an_is_content : Option Addr} {sl_is_content : Array (Option Value)} {oc_is_content kV_is_content dc_is_content pm_is_content cd_is_content ct_is_content : Value}
    {g_check_content : Addr} {od_check_content an_check_content : Option Addr} {sl_check_content : Array (Option Value)} {oc_check_content kV_check_content dc_check_content pm_check_content cd_check_content ct_check_content : Value}
    {g_sizes_at : Addr} {od_sizes_at an_sizes_at : Option Addr} {sl_sizes_at : Array (Option Value)} {oc_sizes_at kV_sizes_at dc_sizes_at pm_sizes_at cd_sizes_at ct_sizes_at : Value}
    {g_joints_of : Addr} {od_joints_of an_joints_of : Option Addr} {sl_joints_of : Array (Option Value)} {oc_joints_of kV_joints_of dc_joints_of pm_joints_of cd_joints_of ct_joints_of : Value}
    {g_is_map : Addr} {od_is_map an_is_map : Option Addr} {sl_is_map : Array (Option Value)} {oc_is_map kV_is_map dc_is_map pm_is_map cd_is_map ct_is_map : Value}
    {g_is_look : Addr} {od_is_look an_is_look : Option Addr} {sl_is_look : Array (Option Value)} {oc_is_look kV_is_look dc_is_look pm_is_look cd_is_look ct_is_look : Value}
    {g_Row_init : Addr} {od_Row_init an_Row_init : Option Addr} {sl_Row_init : Array (Option Value)} {oc_Row_init kV_Row_init dc_Row_init pm_Row_init cd_Row_init ct_Row_init : Value}
    {g_raw_row : Addr} {od_raw_row an_raw_row : Option Addr} {sl_raw_row : Array (Option Value)} {oc_raw_row kV_raw_row dc_raw_row pm_raw_row cd_raw_row ct_raw_row : Value}
    {g_turned_back : Addr} {od_turned_back an_turned_back : Option Addr} {sl_turned_back : Array (Option Value)} {oc_turned_back kV_turned_back dc_turned_back pm_turned_back cd_turned_back ct_turned_back : Value}
    {g_one_look : Addr} {od_one_look an_one_look : Option Addr} {sl_one_look : Array (Option Value)} {oc_one_look kV_one_look dc_one_look pm_one_look cd_one_look ct_one_look : Value}
    {g_is_round : Addr} {od_is_round an_is_round : Option Addr} {sl_is_round : Array (Option Value)} {oc_is_round kV_is_round dc_is_round pm_is_round cd_is_round ct_is_round : Value}
    {g_led_round : Addr} {od_led_round an_led_round : Option Addr} {sl_led_round : Array (Option Value)} {oc_led_round kV_led_round dc_led_round pm_led_round cd_led_round ct_led_round : Value}
    {g_undone : Addr} {od_undone an_undone : Option Addr} {sl_undone : Array (Option Value)} {oc_undone kV_undone dc_undone pm_undone cd_undone ct_undone : Value}
    {g_round_looks : Addr} {od_round_looks an_round_looks : Option Addr} {sl_round_looks : Array (Option Value)} {oc_round_looks kV_round_looks dc_round_looks pm_round_looks cd_round_looks ct_round_looks : Value}
    {g_check_standings : Addr} {od_check_standings an_check_standings : Option Addr} {sl_check_standings : Array (Option Value)} {oc_check_standings kV_check_standings dc_check_standings pm_check_standings cd_check_standings ct_check_standings : Value}
    {g_round_row : Addr} {od_round_row an_round_row : Option Addr} {sl_round_row : Array (Option Value)} {oc_round_row kV_round_row dc_round_row pm_round_row cd_round_row ct_round_row : Value}
    {g__law_tape : Addr} {od__law_tape an__law_tape : Option Addr} {sl__law_tape : Array (Option Value)} {oc__law_tape kV__law_tape dc__law_tape pm__law_tape cd__law_tape ct__law_tape : Value}
    {g__law_pick : Addr} {od__law_pick an__law_pick : Option Addr} {sl__law_pick : Array (Option Value)} {oc__law_pick kV__law_pick dc__law_pick pm__law_pick cd__law_pick ct__law_pick : Value}
    {g__law_any : Addr} {od__law_any an__law_any : Option Addr} {sl__law_any : Array (Option Value)} {oc__law_any kV__law_any dc__law_any pm__law_any cd__law_any ct__law_any : Value}
    {g__law_mixed : Addr} {od__law_mixed an__law_mixed : Option Addr} {sl__law_mixed : Array (Option Value)} {oc__law_mixed kV__law_mixed dc__law_mixed pm__law_mixed cd__law_mixed ct__law_mixed : Value}
    {g__law_contents : Addr} {od__law_contents an__law_contents : Option Addr} {sl__law_contents : Array (Option Value)} {oc__law_contents kV__law_contents dc__law_contents pm__law_contents cd__law_contents ct__law_contents : Value}
    {g__law_joints : Addr} {od__law_joints an__law_joints : Option Addr} {sl__law_joints : Array (Option Value)} {oc__law_joints kV__law_joints dc__law_joints pm__law_joints cd__law_joints ct__law_joints : Value}
    {g__law_joint : Addr} {od__law_joint an__law_joint : Option Addr} {sl__law_joint : Array (Option Value)} {oc__law_joint kV__law_joint dc__law_joint pm__law_joint cd__law_joint ct__law_joint : Value}
    {g__law_sizes : Addr} {od__law_sizes an__law_sizes : Option Addr} {sl__law_sizes : Array (Option Value)} {oc__law_sizes kV__law_sizes dc__law_sizes pm__law_sizes cd__law_sizes ct__law_sizes : Value}
    {g__law_ends : Addr} {od__law_ends an__law_ends : Option Addr} {sl__law_ends : Array (Option Value)} {oc__law_ends kV__law_ends dc__law_ends pm__law_ends cd__law_ends ct__law_ends : Value}
    {g__law_is_turning : Addr} {od__law_is_turning an__law_is_turning : Option Addr} {sl__law_is_turning : Array (Option Value)} {oc__law_is_turning kV__law_is_turning dc__law_is_turning pm__law_is_turning cd__law_is_turning ct__law_is_turning : Value}
    {g_law : Addr} {od_law an_law : Option Addr} {sl_law : Array (Option Value)} {oc_law kV_law dc_law pm_law cd_law ct_law : Value}
    (z_abs : PySem.W.nsIn K mainGlobals "abs" = some none)
    (z_all : PySem.W.nsIn K mainGlobals "all" = some none)
    (z_bool : PySem.W.nsIn K mainGlobals "bool" = some none)
    (z_dict : PySem.W.nsIn K mainGlobals "dict" = some none)
    (z_enumerate : PySem.W.nsIn K mainGlobals "enumerate" = some none)
    (z_int : PySem.W.nsIn K mainGlobals "int" = some none)
    (z_isinstance : PySem.W.nsIn K mainGlobals "isinstance" = some none)
    (z_len : PySem.W.nsIn K mainGlobals "len" = some none)
    (z_list : PySem.W.nsIn K mainGlobals "list" = some none)
    (z_max : PySem.W.nsIn K mainGlobals "max" = some none)
    (z_range : PySem.W.nsIn K mainGlobals "range" = some none)
    (z_set : PySem.W.nsIn K mainGlobals "set" = some none)
    (z_tuple : PySem.W.nsIn K mainGlobals "tuple" = some none)
    (z_zip : PySem.W.nsIn K mainGlobals "zip" = some none)
    (c_LEAST_STANDINGS : PySem.W.nsIn K mainGlobals "LEAST_STANDINGS" = some (some (.int 3 t_LEAST_STANDINGS)))
    (c_LEAST_WORTHS : PySem.W.nsIn K mainGlobals "LEAST_WORTHS" = some (some (.int 2 t_LEAST_WORTHS)))
    (c_MOST_LOOKED : PySem.W.nsIn K mainGlobals "MOST_LOOKED" = some (some (.int 3 t_MOST_LOOKED)))
    (c_MOST_LOOKS : PySem.W.nsIn K mainGlobals "MOST_LOOKS" = some (some (.int 5000 t_MOST_LOOKS)))
    (c_MOST_PINS : PySem.W.nsIn K mainGlobals "MOST_PINS" = some (some (.int 6 t_MOST_PINS)))
    (c_MOST_STANDINGS : PySem.W.nsIn K mainGlobals "MOST_STANDINGS" = some (some (.int 8 t_MOST_STANDINGS)))
    (c_MOST_WORTHS : PySem.W.nsIn K mainGlobals "MOST_WORTHS" = some (some (.int 4 t_MOST_WORTHS)))
    (k_Row : PySem.W.nsIn K mainGlobals "Row" = some (some (.ref C_Row)))
    (pg_Row : PySem.W.plainGet K C_Row Str.empty = true)
    (hd_Row : PySem.W.hasDictIn K C_Row = true)
    (po_Row : PySem.W.plainOver K C_Row = true)
    (sa_Row : PySem.W.findIn K (.ref C_Row) "__setattr__" = some (some (.builtin "object.__setattr__")))
    (ha_Row : PySem.W.findIn K (.ref C_Row) "__class__" = some (some (.builtin "object.__class__")))
    (hm_Row : PySem.W.mroIn K C_Row (.type "object") = some true)
    (hn : PySem.W.specialIn K (.builtin "object.__class__") "__get__" = some (some (.builtin "getset_descriptor.__get__")))
    (ht : PySem.W.takesIn K (.builtin "object.__class__") = some true)
    (i0 : PySem.W.kitOne K (.type "int") (.type "int") = some true)
    (i1 : PySem.W.kitOne K (.type "bool") (.type "int") = some true)
    (i2 : PySem.W.kitOne K (.type "str") (.type "int") = some false)
    (i3 : PySem.W.kitOne K (.type "NoneType") (.type "int") = some false)
    (i4 : PySem.W.kitOne K (.type "tuple") (.type "int") = some false)
    (i5 : PySem.W.kitOne K (.type "list") (.type "int") = some false)
    (i6 : PySem.W.kitOne K (.type "dict") (.type "int") = some false)
    (i7 : PySem.W.kitOne K (.ref C_Row) (.type "int") = some false)
    (i8 : PySem.W.kitOne K (.type "int") (.type "bool") = some false)
    (i9 : PySem.W.kitOne K (.type "bool") (.type "bool") = some true)
    (i10 : PySem.W.kitOne K (.type "str") (.type "bool") = some false)
    (i11 : PySem.W.kitOne K (.type "NoneType") (.type "bool") = some false)
    (i12 : PySem.W.kitOne K (.type "tuple") (.type "bool") = some false)
    (i13 : PySem.W.kitOne K (.type "list") (.type "bool") = some false)
    (i14 : PySem.W.kitOne K (.type "dict") (.type "bool") = some false)
    (i15 : PySem.W.kitOne K (.ref C_Row) (.type "bool") = some false)
    (i16 : PySem.W.kitOne K (.type "int") (.type "tuple") = some false)
    (i17 : PySem.W.kitOne K (.type "bool") (.type "tuple") = some false)
    (i18 : PySem.W.kitOne K (.type "str") (.type "tuple") = some false)
    (i19 : PySem.W.kitOne K (.type "NoneType") (.type "tuple") = some false)
    (i20 : PySem.W.kitOne K (.type "tuple") (.type "tuple") = some true)
    (i21 : PySem.W.kitOne K (.type "list") (.type "tuple") = some false)
    (i22 : PySem.W.kitOne K (.type "dict") (.type "tuple") = some false)
    (i23 : PySem.W.kitOne K (.ref C_Row) (.type "tuple") = some false)
    (i24 : PySem.W.kitOne K (.type "int") (.ref C_Row) = some false)
    (i25 : PySem.W.kitOne K (.type "bool") (.ref C_Row) = some false)
    (i26 : PySem.W.kitOne K (.type "str") (.ref C_Row) = some false)
    (i27 : PySem.W.kitOne K (.type "NoneType") (.ref C_Row) = some false)
    (i28 : PySem.W.kitOne K (.type "tuple") (.ref C_Row) = some false)
    (i29 : PySem.W.kitOne K (.type "list") (.ref C_Row) = some false)
    (i30 : PySem.W.kitOne K (.type "dict") (.ref C_Row) = some false)
    (i31 : PySem.W.kitOne K (.ref C_Row) (.ref C_Row) = some true)
    (n_looks_Row : PySem.W.findIn K (.ref C_Row) "looks" = some none)
    (n_sizes_Row : PySem.W.findIn K (.ref C_Row) "sizes" = some none)
    (n_standings_Row : PySem.W.findIn K (.ref C_Row) "standings" = some none)
    (a_is_integer : PySem.W.nsIn K mainGlobals "is_integer" = some (some (.ref g_is_integer)))
    (l_is_integer : K.lookup g_is_integer = some ⟨oc_is_integer, od_is_integer, .func (PySem.W.fnOf "is_integer" "is_integer" (defArgs s_is_integer) (defBody s_is_integer) (defScope s_is_integer) .none kV_is_integer dc_is_integer pm_is_integer an_is_integer cd_is_integer ct_is_integer), sl_is_integer⟩)
    (c_is_integer : PySem.W.codeIn K cd_is_integer "is_integer" = true)
    (k_is_integer : PySem.W.keepIn K (.ref g_is_integer) = true)
    (a_is_within : PySem.W.nsIn K mainGlobals "is_within" = some (some (.ref g_is_within)))
    (l_is_within : K.lookup g_is_within = some ⟨oc_is_within, od_is_within, .func (PySem.W.fnOf "is_within" "is_within" (defArgs s_is_within) (defBody s_is_within) (defScope s_is_within) .none kV_is_within dc_is_within pm_is_within an_is_within cd_is_within ct_is_within), sl_is_within⟩)
    (c_is_within : PySem.W.codeIn K cd_is_within "is_within" = true)
    (k_is_within : PySem.W.keepIn K (.ref g_is_within) = true)
    (a_is_lot : PySem.W.nsIn K mainGlobals "is_lot" = some (some (.ref g_is_lot)))
    (l_is_lot : K.lookup g_is_lot = some ⟨oc_is_lot, od_is_lot, .func (PySem.W.fnOf "is_lot" "is_lot" (defArgs s_is_lot) (defBody s_is_lot) (defScope s_is_lot) .none kV_is_lot dc_is_lot pm_is_lot an_is_lot cd_is_lot ct_is_lot), sl_is_lot⟩)
    (c_is_lot : PySem.W.codeIn K cd_is_lot "is_lot" = true)
    (k_is_lot : PySem.W.keepIn K (.ref g_is_lot) = true)
    (a_is_pair : PySem.W.nsIn K mainGlobals "is_pair" = some (some (.ref g_is_pair)))
    (l_is_pair : K.lookup g_is_pair = some ⟨oc_is_pair, od_is_pair, .func (PySem.W.fnOf "is_pair" "is_pair" (defArgs s_is_pair) (defBody s_is_pair) (defScope s_is_pair) .none kV_is_pair dc_is_pair pm_is_pair an_is_pair cd_is_pair ct_is_pair), sl_is_pair⟩)
    (c_is_pair : PySem.W.codeIn K cd_is_pair "is_pair" = true)
    (k_is_pair : PySem.W.keepIn K (.ref g_is_pair) = true)
    (a_check_sizes : PySem.W.nsIn K mainGlobals "check_sizes" = some (some (.ref g_check_sizes)))
    (l_check_sizes : K.lookup g_check_sizes = some ⟨oc_check_sizes, od_check_sizes, .func (PySem.W.fnOf "check_sizes" "check_sizes" (defArgs s_check_sizes) (defBody s_check_sizes) (defScope s_check_sizes) .none kV_check_sizes dc_check_sizes pm_check_sizes an_check_sizes cd_check_sizes ct_check_sizes), sl_check_sizes⟩)
    (c_check_sizes : PySem.W.codeIn K cd_check_sizes "check_sizes" = true)
    (k_check_sizes : PySem.W.keepIn K (.ref g_check_sizes) = true)
    (a_tuples_of : PySem.W.nsIn K mainGlobals "tuples_of" = some (some (.ref g_tuples_of)))
    (l_tuples_of : K.lookup g_tuples_of = some ⟨oc_tuples_of, od_tuples_of, .func (PySem.W.fnOf "tuples_of" "tuples_of" (defArgs s_tuples_of) (defBody s_tuples_of) (defScope s_tuples_of) .none kV_tuples_of dc_tuples_of pm_tuples_of an_tuples_of cd_tuples_of ct_tuples_of), sl_tuples_of⟩)
    (c_tuples_of : PySem.W.codeIn K cd_tuples_of "tuples_of" = true)
    (k_tuples_of : PySem.W.keepIn K (.ref g_tuples_of) = true)
    (a_many_contents : PySem.W.nsIn K mainGlobals "many_contents" = some (some (.ref g_many_contents)))
    (l_many_contents : K.lookup g_many_contents = some ⟨oc_many_contents, od_many_contents, .func (PySem.W.fnOf "many_contents" "many_contents" (defArgs s_many_contents) (defBody s_many_contents) (defScope s_many_contents) .none kV_many_contents dc_many_contents pm_many_contents an_many_contents cd_many_contents ct_many_contents), sl_many_contents⟩)
    (c_many_contents : PySem.W.codeIn K cd_many_contents "many_contents" = true)
    (k_many_contents : PySem.W.keepIn K (.ref g_many_contents) = true)
    (a_is_content : PySem.W.nsIn K mainGlobals "is_content" = some (some (.ref g_is_content)))
    (l_is_content : K.lookup g_is_content = some ⟨oc_is_content, od_is_content, .func (PySem.W.fnOf "is_content" "is_content" (defArgs s_is_content) (defBody s_is_content) (defScope s_is_content) .none kV_is_content dc_is_content pm_is_content an_is_content cd_is_content ct_is_content), sl_is_content⟩)
    (c_is_content : PySem.W.codeIn K cd_is_content "is_content" = true)
    (k_is_content : PySem.W.keepIn K (.ref g_is_content) = true)
    (a_check_content : PySem.W.nsIn K mainGlobals "check_content" = some (some (.ref g_check_content)))
    (l_check_content : K.lookup g_check_content = some ⟨oc_check_content, od_check_content, .func (PySem.W.fnOf "check_content" "check_content" (defArgs s_check_content) (defBody s_check_content) (defScope s_check_content) .none kV_check_content dc_check_content pm_check_content an_check_content cd_check_content ct_check_content), sl_check_content⟩)
    (c_check_content : PySem.W.codeIn K cd_check_content "check_content" = true)
    (k_check_content : PySem.W.keepIn K (.ref g_check_content) = true)
    (a_sizes_at : PySem.W.nsIn K mainGlobals "sizes_at" = some (some (.ref g_sizes_at)))
    (l_sizes_at : K.lookup g_sizes_at = some ⟨oc_sizes_at, od_sizes_at, .func (PySem.W.fnOf "sizes_at" "sizes_at" (defArgs s_sizes_at) (defBody s_sizes_at) (defScope s_sizes_at) .none kV_sizes_at dc_sizes_at pm_sizes_at an_sizes_at cd_sizes_at ct_sizes_at), sl_sizes_at⟩)
    (c_sizes_at : PySem.W.codeIn K cd_sizes_at "sizes_at" = true)
    (k_sizes_at : PySem.W.keepIn K (.ref g_sizes_at) = true)
    (a_joints_of : PySem.W.nsIn K mainGlobals "joints_of" = some (some (.ref g_joints_of)))
    (l_joints_of : K.lookup g_joints_of = some ⟨oc_joints_of, od_joints_of, .func (PySem.W.fnOf "joints_of" "joints_of" (defArgs s_joints_of) (defBody s_joints_of) (defScope s_joints_of) .none kV_joints_of dc_joints_of pm_joints_of an_joints_of cd_joints_of ct_joints_of), sl_joints_of⟩)
    (c_joints_of : PySem.W.codeIn K cd_joints_of "joints_of" = true)
    (k_joints_of : PySem.W.keepIn K (.ref g_joints_of) = true)
    (a_is_map : PySem.W.nsIn K mainGlobals "is_map" = some (some (.ref g_is_map)))
    (l_is_map : K.lookup g_is_map = some ⟨oc_is_map, od_is_map, .func (PySem.W.fnOf "is_map" "is_map" (defArgs s_is_map) (defBody s_is_map) (defScope s_is_map) .none kV_is_map dc_is_map pm_is_map an_is_map cd_is_map ct_is_map), sl_is_map⟩)
    (c_is_map : PySem.W.codeIn K cd_is_map "is_map" = true)
    (k_is_map : PySem.W.keepIn K (.ref g_is_map) = true)
    (a_is_look : PySem.W.nsIn K mainGlobals "is_look" = some (some (.ref g_is_look)))
    (l_is_look : K.lookup g_is_look = some ⟨oc_is_look, od_is_look, .func (PySem.W.fnOf "is_look" "is_look" (defArgs s_is_look) (defBody s_is_look) (defScope s_is_look) .none kV_is_look dc_is_look pm_is_look an_is_look cd_is_look ct_is_look), sl_is_look⟩)
    (c_is_look : PySem.W.codeIn K cd_is_look "is_look" = true)
    (k_is_look : PySem.W.keepIn K (.ref g_is_look) = true)
    (a_Row_init : PySem.W.findIn K (.ref C_Row) "__init__" = some (some (.ref g_Row_init)))
    (l_Row_init : K.lookup g_Row_init = some ⟨oc_Row_init, od_Row_init, .func (PySem.W.fnOf "__init__" "Row.__init__" (defArgs s_Row_init) (defBody s_Row_init) (defScope s_Row_init) .none kV_Row_init dc_Row_init pm_Row_init an_Row_init cd_Row_init ct_Row_init), sl_Row_init⟩)
    (c_Row_init : PySem.W.codeIn K cd_Row_init "Row.__init__" = true)
    (k_Row_init : PySem.W.keepIn K (.ref g_Row_init) = true)
    (i_Row_init : PySem.W.isFn K (.ref g_Row_init) = true)
    (mk_Row : PySem.W.makesIn K C_Row = true)
    (kc_Row : PySem.W.keepIn K (.ref C_Row) = true)
    (a_raw_row : PySem.W.nsIn K mainGlobals "raw_row" = some (some (.ref g_raw_row)))
    (l_raw_row : K.lookup g_raw_row = some ⟨oc_raw_row, od_raw_row, .func (PySem.W.fnOf "raw_row" "raw_row" (defArgs s_raw_row) (defBody s_raw_row) (defScope s_raw_row) .none kV_raw_row dc_raw_row pm_raw_row an_raw_row cd_raw_row ct_raw_row), sl_raw_row⟩)
    (c_raw_row : PySem.W.codeIn K cd_raw_row "raw_row" = true)
    (k_raw_row : PySem.W.keepIn K (.ref g_raw_row) = true)
    (a_turned_back : PySem.W.nsIn K mainGlobals "turned_back" = some (some (.ref g_turned_back)))
    (l_turned_back : K.lookup g_turned_back = some ⟨oc_turned_back, od_turned_back, .func (PySem.W.fnOf "turned_back" "turned_back" (defArgs s_turned_back) (defBody s_turned_back) (defScope s_turned_back) .none kV_turned_back dc_turned_back pm_turned_back an_turned_back cd_turned_back ct_turned_back), sl_turned_back⟩)
    (c_turned_back : PySem.W.codeIn K cd_turned_back "turned_back" = true)
    (k_turned_back : PySem.W.keepIn K (.ref g_turned_back) = true)
    (a_one_look : PySem.W.nsIn K mainGlobals "one_look" = some (some (.ref g_one_look)))
    (l_one_look : K.lookup g_one_look = some ⟨oc_one_look, od_one_look, .func (PySem.W.fnOf "one_look" "one_look" (defArgs s_one_look) (defBody s_one_look) (defScope s_one_look) .none kV_one_look dc_one_look pm_one_look an_one_look cd_one_look ct_one_look), sl_one_look⟩)
    (c_one_look : PySem.W.codeIn K cd_one_look "one_look" = true)
    (k_one_look : PySem.W.keepIn K (.ref g_one_look) = true)
    (a_is_round : PySem.W.nsIn K mainGlobals "is_round" = some (some (.ref g_is_round)))
    (l_is_round : K.lookup g_is_round = some ⟨oc_is_round, od_is_round, .func (PySem.W.fnOf "is_round" "is_round" (defArgs s_is_round) (defBody s_is_round) (defScope s_is_round) .none kV_is_round dc_is_round pm_is_round an_is_round cd_is_round ct_is_round), sl_is_round⟩)
    (c_is_round : PySem.W.codeIn K cd_is_round "is_round" = true)
    (k_is_round : PySem.W.keepIn K (.ref g_is_round) = true)
    (a_led_round : PySem.W.nsIn K mainGlobals "led_round" = some (some (.ref g_led_round)))
    (l_led_round : K.lookup g_led_round = some ⟨oc_led_round, od_led_round, .func (PySem.W.fnOf "led_round" "led_round" (defArgs s_led_round) (defBody s_led_round) (defScope s_led_round) .none kV_led_round dc_led_round pm_led_round an_led_round cd_led_round ct_led_round), sl_led_round⟩)
    (c_led_round : PySem.W.codeIn K cd_led_round "led_round" = true)
    (k_led_round : PySem.W.keepIn K (.ref g_led_round) = true)
    (a_undone : PySem.W.nsIn K mainGlobals "undone" = some (some (.ref g_undone)))
    (l_undone : K.lookup g_undone = some ⟨oc_undone, od_undone, .func (PySem.W.fnOf "undone" "undone" (defArgs s_undone) (defBody s_undone) (defScope s_undone) .none kV_undone dc_undone pm_undone an_undone cd_undone ct_undone), sl_undone⟩)
    (c_undone : PySem.W.codeIn K cd_undone "undone" = true)
    (k_undone : PySem.W.keepIn K (.ref g_undone) = true)
    (a_round_looks : PySem.W.nsIn K mainGlobals "round_looks" = some (some (.ref g_round_looks)))
    (l_round_looks : K.lookup g_round_looks = some ⟨oc_round_looks, od_round_looks, .func (PySem.W.fnOf "round_looks" "round_looks" (defArgs s_round_looks) (defBody s_round_looks) (defScope s_round_looks) .none kV_round_looks dc_round_looks pm_round_looks an_round_looks cd_round_looks ct_round_looks), sl_round_looks⟩)
    (c_round_looks : PySem.W.codeIn K cd_round_looks "round_looks" = true)
    (k_round_looks : PySem.W.keepIn K (.ref g_round_looks) = true)
    (a_check_standings : PySem.W.nsIn K mainGlobals "check_standings" = some (some (.ref g_check_standings)))
    (l_check_standings : K.lookup g_check_standings = some ⟨oc_check_standings, od_check_standings, .func (PySem.W.fnOf "check_standings" "check_standings" (defArgs s_check_standings) (defBody s_check_standings) (defScope s_check_standings) .none kV_check_standings dc_check_standings pm_check_standings an_check_standings cd_check_standings ct_check_standings), sl_check_standings⟩)
    (c_check_standings : PySem.W.codeIn K cd_check_standings "check_standings" = true)
    (k_check_standings : PySem.W.keepIn K (.ref g_check_standings) = true)
    (a_round_row : PySem.W.nsIn K mainGlobals "round_row" = some (some (.ref g_round_row)))
    (l_round_row : K.lookup g_round_row = some ⟨oc_round_row, od_round_row, .func (PySem.W.fnOf "round_row" "round_row" (defArgs s_round_row) (defBody s_round_row) (defScope s_round_row) .none kV_round_row dc_round_row pm_round_row an_round_row cd_round_row ct_round_row), sl_round_row⟩)
    (c_round_row : PySem.W.codeIn K cd_round_row "round_row" = true)
    (k_round_row : PySem.W.keepIn K (.ref g_round_row) = true)
    (a__law_tape : PySem.W.nsIn K mainGlobals "_law_tape" = some (some (.ref g__law_tape)))
    (l__law_tape : K.lookup g__law_tape = some ⟨oc__law_tape, od__law_tape, .func (PySem.W.fnOf "_law_tape" "_law_tape" (defArgs s__law_tape) (defBody s__law_tape) (defScope s__law_tape) .none kV__law_tape dc__law_tape pm__law_tape an__law_tape cd__law_tape ct__law_tape), sl__law_tape⟩)
    (c__law_tape : PySem.W.codeIn K cd__law_tape "_law_tape" = true)
    (k__law_tape : PySem.W.keepIn K (.ref g__law_tape) = true)
    (a__law_pick : PySem.W.nsIn K mainGlobals "_law_pick" = some (some (.ref g__law_pick)))
    (l__law_pick : K.lookup g__law_pick = some ⟨oc__law_pick, od__law_pick, .func (PySem.W.fnOf "_law_pick" "_law_pick" (defArgs s__law_pick) (defBody s__law_pick) (defScope s__law_pick) .none kV__law_pick dc__law_pick pm__law_pick an__law_pick cd__law_pick ct__law_pick), sl__law_pick⟩)
    (c__law_pick : PySem.W.codeIn K cd__law_pick "_law_pick" = true)
    (k__law_pick : PySem.W.keepIn K (.ref g__law_pick) = true)
    (a__law_any : PySem.W.nsIn K mainGlobals "_law_any" = some (some (.ref g__law_any)))
    (l__law_any : K.lookup g__law_any = some ⟨oc__law_any, od__law_any, .func (PySem.W.fnOf "_law_any" "_law_any" (defArgs s__law_any) (defBody s__law_any) (defScope s__law_any) .none kV__law_any dc__law_any pm__law_any an__law_any cd__law_any ct__law_any), sl__law_any⟩)
    (c__law_any : PySem.W.codeIn K cd__law_any "_law_any" = true)
    (k__law_any : PySem.W.keepIn K (.ref g__law_any) = true)
    (a__law_mixed : PySem.W.nsIn K mainGlobals "_law_mixed" = some (some (.ref g__law_mixed)))
    (l__law_mixed : K.lookup g__law_mixed = some ⟨oc__law_mixed, od__law_mixed, .func (PySem.W.fnOf "_law_mixed" "_law_mixed" (defArgs s__law_mixed) (defBody s__law_mixed) (defScope s__law_mixed) .none kV__law_mixed dc__law_mixed pm__law_mixed an__law_mixed cd__law_mixed ct__law_mixed), sl__law_mixed⟩)
    (c__law_mixed : PySem.W.codeIn K cd__law_mixed "_law_mixed" = true)
    (k__law_mixed : PySem.W.keepIn K (.ref g__law_mixed) = true)
    (a__law_contents : PySem.W.nsIn K mainGlobals "_law_contents" = some (some (.ref g__law_contents)))
    (l__law_contents : K.lookup g__law_contents = some ⟨oc__law_contents, od__law_contents, .func (PySem.W.fnOf "_law_contents" "_law_contents" (defArgs s__law_contents) (defBody s__law_contents) (defScope s__law_contents) .none kV__law_contents dc__law_contents pm__law_contents an__law_contents cd__law_contents ct__law_contents), sl__law_contents⟩)
    (c__law_contents : PySem.W.codeIn K cd__law_contents "_law_contents" = true)
    (k__law_contents : PySem.W.keepIn K (.ref g__law_contents) = true)
    (a__law_joints : PySem.W.nsIn K mainGlobals "_law_joints" = some (some (.ref g__law_joints)))
    (l__law_joints : K.lookup g__law_joints = some ⟨oc__law_joints, od__law_joints, .func (PySem.W.fnOf "_law_joints" "_law_joints" (defArgs s__law_joints) (defBody s__law_joints) (defScope s__law_joints) .none kV__law_joints dc__law_joints pm__law_joints an__law_joints cd__law_joints ct__law_joints), sl__law_joints⟩)
    (c__law_joints : PySem.W.codeIn K cd__law_joints "_law_joints" = true)
    (k__law_joints : PySem.W.keepIn K (.ref g__law_joints) = true)
    (a__law_joint : PySem.W.nsIn K mainGlobals "_law_joint" = some (some (.ref g__law_joint)))
    (l__law_joint : K.lookup g__law_joint = some ⟨oc__law_joint, od__law_joint, .func (PySem.W.fnOf "_law_joint" "_law_joint" (defArgs s__law_joint) (defBody s__law_joint) (defScope s__law_joint) .none kV__law_joint dc__law_joint pm__law_joint an__law_joint cd__law_joint ct__law_joint), sl__law_joint⟩)
    (c__law_joint : PySem.W.codeIn K cd__law_joint "_law_joint" = true)
    (k__law_joint : PySem.W.keepIn K (.ref g__law_joint) = true)
    (a__law_sizes : PySem.W.nsIn K mainGlobals "_law_sizes" = some (some (.ref g__law_sizes)))
    (l__law_sizes : K.lookup g__law_sizes = some ⟨oc__law_sizes, od__law_sizes, .func (PySem.W.fnOf "_law_sizes" "_law_sizes" (defArgs s__law_sizes) (defBody s__law_sizes) (defScope s__law_sizes) .none kV__law_sizes dc__law_sizes pm__law_sizes an__law_sizes cd__law_sizes ct__law_sizes), sl__law_sizes⟩)
    (c__law_sizes : PySem.W.codeIn K cd__law_sizes "_law_sizes" = true)
    (k__law_sizes : PySem.W.keepIn K (.ref g__law_sizes) = true)
    (a__law_ends : PySem.W.nsIn K mainGlobals "_law_ends" = some (some (.ref g__law_ends)))
    (l__law_ends : K.lookup g__law_ends = some ⟨oc__law_ends, od__law_ends, .func (PySem.W.fnOf "_law_ends" "_law_ends" (defArgs s__law_ends) (defBody s__law_ends) (defScope s__law_ends) .none kV__law_ends dc__law_ends pm__law_ends an__law_ends cd__law_ends ct__law_ends), sl__law_ends⟩)
    (c__law_ends : PySem.W.codeIn K cd__law_ends "_law_ends" = true)
    (k__law_ends : PySem.W.keepIn K (.ref g__law_ends) = true)
    (a__law_is_turning : PySem.W.nsIn K mainGlobals "_law_is_turning" = some (some (.ref g__law_is_turning)))
    (l__law_is_turning : K.lookup g__law_is_turning = some ⟨oc__law_is_turning, od__law_is_turning, .func (PySem.W.fnOf "_law_is_turning" "_law_is_turning" (defArgs s__law_is_turning) (defBody s__law_is_turning) (defScope s__law_is_turning) .none kV__law_is_turning dc__law_is_turning pm__law_is_turning an__law_is_turning cd__law_is_turning ct__law_is_turning), sl__law_is_turning⟩)
    (c__law_is_turning : PySem.W.codeIn K cd__law_is_turning "_law_is_turning" = true)
    (k__law_is_turning : PySem.W.keepIn K (.ref g__law_is_turning) = true)
    (a_law : PySem.W.nsIn K mainGlobals "law" = some (some (.ref g_law)))
    (l_law : K.lookup g_law = some ⟨oc_law, od_law, .func (PySem.W.fnOf "law" "law" (defArgs s_law) (defBody s_law) (defScope s_law) .none kV_law dc_law pm_law an_law cd_law ct_law), sl_law⟩)
    (c_law : PySem.W.codeIn K cd_law "law" = true)
    (k_law : PySem.W.keepIn K (.ref g_law) = true) :
    ∃ fd : FuncData, (∀ (s : Shared) (v : Value), BindsTo s fd ⟨[v], []⟩ [("script", v)]) ∧ ∀ base : Heap, K.In base → base.Ns mainGlobals mg → FnOk l.prog w K mg base (L2.CX l.prog w) 9 fa fd ["script"] (spD K (clOf K clNs) 1 [] h_law) := by
  have e := hfa.symm.trans (PySem.W.mg_of X G a_law)
  cases e
  have e_Row : clOf K clNs 0 = C_Row := clOf_eq rfl k_Row
  have f_Row : ClsF K (clOf K clNs 0) := by rw [e_Row]; exact ⟨⟨pg_Row, hd_Row, po_Row, sa_Row⟩, ha_Row, hn, ht, hm_Row⟩
  have hI : ∀ z ∈ isaT, PySem.W.kitOne K (tgV (clOf K clNs) z.1) (tgV (clOf K clNs) z.2.1) = some z.2.2 := by
    simp only [isaT, List.forall_mem_cons, tgV, e_Row]
    exact ⟨i0, i1, i2, i3, i4, i5, i6, i7, i8, i9, i10, i11, i12, i13, i14, i15, i16, i17, i18, i19, i20, i21, i22, i23, i24, i25, i26, i27, i28, i29, i30, i31,  fun _ z => by cases z⟩
  have hO : ∀ c u b, (Tg.cl c, u, b) ∈ isaT → ClsF K (clOf K clNs c) := by
    intro c u b z
    simp only [isaT, List.mem_cons, Prod.mk.injEq, Tg.cl.injEq, reduceCtorEq, false_and, false_or, List.not_mem_nil, or_false] at z
    rcases z with ⟨rfl, _⟩ | ⟨rfl, _⟩ | ⟨rfl, _⟩ | ⟨rfl, _⟩
    · exact f_Row
    · exact f_Row
    · exact f_Row
    · exact f_Row
  have fld_looks : FldOk K (clOf K clNs) own_looks "looks" := ⟨fun c z => by
    simp only [own_looks, Bool.or_eq_true, beq_iff_eq] at z
    rcases z with rfl
    · exact ⟨f_Row, by rw [e_Row]; exact n_looks_Row⟩⟩
  have fld_sizes : FldOk K (clOf K clNs) own_sizes "sizes" := ⟨fun c z => by
    simp only [own_sizes, Bool.or_eq_true, beq_iff_eq] at z
    rcases z with rfl
    · exact ⟨f_Row, by rw [e_Row]; exact n_sizes_Row⟩⟩
  have fld_standings : FldOk K (clOf K clNs) own_standings "standings" := ⟨fun c z => by
    simp only [own_standings, Bool.or_eq_true, beq_iff_eq] at z
    rcases z with rfl
    · exact ⟨f_Row, by rw [e_Row]; exact n_standings_Row⟩⟩
  have F_is_integer := fun_mk (st := s_is_integer) l_is_integer c_is_integer k_is_integer
  have F_is_within := fun_mk (st := s_is_within) l_is_within c_is_within k_is_within
  have F_is_lot := fun_mk (st := s_is_lot) l_is_lot c_is_lot k_is_lot
  have F_is_pair := fun_mk (st := s_is_pair) l_is_pair c_is_pair k_is_pair
  have F_check_sizes := fun_mk (st := s_check_sizes) l_check_sizes c_check_sizes k_check_sizes
  have F_tuples_of := fun_mk (st := s_tuples_of) l_tuples_of c_tuples_of k_tuples_of
  have F_many_contents := fun_mk (st := s_many_contents) l_many_contents c_many_contents k_many_contents
  have F_is_content := fun_mk (st := s_is_content) l_is_content c_is_content k_is_content
  have F_check_content := fun_mk (st := s_check_content) l_check_content c_check_content k_check_content
  have F_sizes_at := fun_mk (st := s_sizes_at) l_sizes_at c_sizes_at k_sizes_at
  have F_joints_of := fun_mk (st := s_joints_of) l_joints_of c_joints_of k_joints_of
  have F_is_map := fun_mk (st := s_is_map) l_is_map c_is_map k_is_map
  have F_is_look := fun_mk (st := s_is_look) l_is_look c_is_look k_is_look
  have F_Row_init := fun_mk (st := s_Row_init) l_Row_init c_Row_init k_Row_init
  have F_raw_row := fun_mk (st := s_raw_row) l_raw_row c_raw_row k_raw_row
  have F_turned_back := fun_mk (st := s_turned_back) l_turned_back c_turned_back k_turned_back
  have F_one_look := fun_mk (st := s_one_look) l_one_look c_one_look k_one_look
  have F_is_round := fun_mk (st := s_is_round) l_is_round c_is_round k_is_round
  have F_led_round := fun_mk (st := s_led_round) l_led_round c_led_round k_led_round
  have F_undone := fun_mk (st := s_undone) l_undone c_undone k_undone
  have F_round_looks := fun_mk (st := s_round_looks) l_round_looks c_round_looks k_round_looks
  have F_check_standings := fun_mk (st := s_check_standings) l_check_standings c_check_standings k_check_standings
  have F_round_row := fun_mk (st := s_round_row) l_round_row c_round_row k_round_row
  have F__law_tape := fun_mk (st := s__law_tape) l__law_tape c__law_tape k__law_tape
  have F__law_pick := fun_mk (st := s__law_pick) l__law_pick c__law_pick k__law_pick
  have F__law_any := fun_mk (st := s__law_any) l__law_any c__law_any k__law_any
  have F__law_mixed := fun_mk (st := s__law_mixed) l__law_mixed c__law_mixed k__law_mixed
  have F__law_contents := fun_mk (st := s__law_contents) l__law_contents c__law_contents k__law_contents
  have F__law_joints := fun_mk (st := s__law_joints) l__law_joints c__law_joints k__law_joints
  have F__law_joint := fun_mk (st := s__law_joint) l__law_joint c__law_joint k__law_joint
  have F__law_sizes := fun_mk (st := s__law_sizes) l__law_sizes c__law_sizes k__law_sizes
  have F__law_ends := fun_mk (st := s__law_ends) l__law_ends c__law_ends k__law_ends
  have F__law_is_turning := fun_mk (st := s__law_is_turning) l__law_is_turning c__law_is_turning k__law_is_turning
  have F_law := fun_mk (st := s_law) l_law c_law k_law
  have T : Txt K mg (clOf K clNs) := ⟨PySem.W.mg_none_of X G z_abs,
    PySem.W.mg_none_of X G z_all,
    PySem.W.mg_none_of X G z_bool,
    PySem.W.mg_none_of X G z_dict,
    PySem.W.mg_none_of X G z_enumerate,
    PySem.W.mg_none_of X G z_int,
    PySem.W.mg_none_of X G z_isinstance,
    PySem.W.mg_none_of X G z_len,
    PySem.W.mg_none_of X G z_list,
    PySem.W.mg_none_of X G z_max,
    PySem.W.mg_none_of X G z_range,
    PySem.W.mg_none_of X G z_set,
    PySem.W.mg_none_of X G z_tuple,
    PySem.W.mg_none_of X G z_zip,
    ⟨t_LEAST_STANDINGS, PySem.W.mg_of X G c_LEAST_STANDINGS⟩,
    ⟨t_LEAST_WORTHS, PySem.W.mg_of X G c_LEAST_WORTHS⟩,
    ⟨t_MOST_LOOKED, PySem.W.mg_of X G c_MOST_LOOKED⟩,
    ⟨t_MOST_LOOKS, PySem.W.mg_of X G c_MOST_LOOKS⟩,
    ⟨t_MOST_PINS, PySem.W.mg_of X G c_MOST_PINS⟩,
    ⟨t_MOST_STANDINGS, PySem.W.mg_of X G c_MOST_STANDINGS⟩,
    ⟨t_MOST_WORTHS, PySem.W.mg_of X G c_MOST_WORTHS⟩,
    by rw [e_Row]; exact PySem.W.mg_of X G k_Row,
    isaOk_of hI hO,
    fld_looks,
    fld_sizes,
    fld_standings,
    ⟨g_is_integer, _, PySem.W.mg_of X G a_is_integer, F_is_integer, (F_is_integer.binds (ps := ["thing"]) fun _ _ _ _ _ _ us hl => match us, hl with | [_], _ => rfl)⟩,
    ⟨g_is_within, _, PySem.W.mg_of X G a_is_within, F_is_within, (F_is_within.binds (ps := ["thing", "least", "most"]) fun _ _ _ _ _ _ us hl => match us, hl with | [_, _, _], _ => rfl)⟩,
    ⟨g_is_lot, _, PySem.W.mg_of X G a_is_lot, F_is_lot, (F_is_lot.binds (ps := ["thing", "many"]) fun _ _ _ _ _ _ us hl => match us, hl with | [_, _], _ => rfl)⟩,
    ⟨g_is_pair, _, PySem.W.mg_of X G a_is_pair, F_is_pair, (F_is_pair.binds (ps := ["thing"]) fun _ _ _ _ _ _ us hl => match us, hl with | [_], _ => rfl)⟩,
    ⟨g_check_sizes, _, PySem.W.mg_of X G a_check_sizes, F_check_sizes, (F_check_sizes.binds (ps := ["thing"]) fun _ _ _ _ _ _ us hl => match us, hl with | [_], _ => rfl)⟩,
    ⟨g_tuples_of, _, PySem.W.mg_of X G a_tuples_of, F_tuples_of, (F_tuples_of.binds (ps := ["sizes"]) fun _ _ _ _ _ _ us hl => match us, hl with | [_], _ => rfl)⟩,
    ⟨g_many_contents, _, PySem.W.mg_of X G a_many_contents, F_many_contents, (F_many_contents.binds (ps := ["sizes"]) fun _ _ _ _ _ _ us hl => match us, hl with | [_], _ => rfl)⟩,
    ⟨g_is_content, _, PySem.W.mg_of X G a_is_content, F_is_content, (F_is_content.binds (ps := ["sizes", "thing"]) fun _ _ _ _ _ _ us hl => match us, hl with | [_, _], _ => rfl)⟩,
    ⟨g_check_content, _, PySem.W.mg_of X G a_check_content, F_check_content, (F_check_content.binds (ps := ["sizes", "thing"]) fun _ _ _ _ _ _ us hl => match us, hl with | [_, _], _ => rfl)⟩,
    ⟨g_sizes_at, _, PySem.W.mg_of X G a_sizes_at, F_sizes_at, (F_sizes_at.binds (ps := ["sizes", "lot"]) fun _ _ _ _ _ _ us hl => match us, hl with | [_, _], _ => rfl)⟩,
    ⟨g_joints_of, _, PySem.W.mg_of X G a_joints_of, F_joints_of, (F_joints_of.binds (ps := ["sizes", "lot"]) fun _ _ _ _ _ _ us hl => match us, hl with | [_, _], _ => rfl)⟩,
    ⟨g_is_map, _, PySem.W.mg_of X G a_is_map, F_is_map, (F_is_map.binds (ps := ["standings", "thing"]) fun _ _ _ _ _ _ us hl => match us, hl with | [_, _], _ => rfl)⟩,
    ⟨g_is_look, _, PySem.W.mg_of X G a_is_look, F_is_look, (F_is_look.binds (ps := ["sizes", "standings", "thing"]) fun _ _ _ _ _ _ us hl => match us, hl with | [_, _, _], _ => rfl)⟩,
    ⟨g_Row_init, by rw [e_Row]; exact ⟨mk_Row, a_Row_init, i_Row_init, kc_Row⟩, _, F_Row_init, (F_Row_init.binds (ps := ["self", "sizes", "standings", "looks"]) fun _ _ _ _ _ _ us hl => match us, hl with | [_, _, _, _], _ => rfl)⟩,
    ⟨g_raw_row, _, PySem.W.mg_of X G a_raw_row, F_raw_row, (F_raw_row.binds (ps := ["sizes", "standings", "looks"]) fun _ _ _ _ _ _ us hl => match us, hl with | [_, _, _], _ => rfl)⟩,
    ⟨g_turned_back, _, PySem.W.mg_of X G a_turned_back, F_turned_back, (F_turned_back.binds (ps := ["one"]) fun _ _ _ _ _ _ us hl => match us, hl with | [_], _ => rfl)⟩,
    ⟨g_one_look, _, PySem.W.mg_of X G a_one_look, F_one_look, (F_one_look.binds (ps := ["sizes", "lot", "joint", "there", "elsewhere"]) fun _ _ _ _ _ _ us hl => match us, hl with | [_, _, _, _, _], _ => rfl)⟩,
    ⟨g_is_round, _, PySem.W.mg_of X G a_is_round, F_is_round, (F_is_round.binds (ps := ["standings", "thing"]) fun _ _ _ _ _ _ us hl => match us, hl with | [_, _], _ => rfl)⟩,
    ⟨g_led_round, _, PySem.W.mg_of X G a_led_round, F_led_round, (F_led_round.binds (ps := ["standings", "some"]) fun _ _ _ _ _ _ us hl => match us, hl with | [_, _], _ => rfl)⟩,
    ⟨g_undone, _, PySem.W.mg_of X G a_undone, F_undone, (F_undone.binds (ps := ["looks"]) fun _ _ _ _ _ _ us hl => match us, hl with | [_], _ => rfl)⟩,
    ⟨g_round_looks, _, PySem.W.mg_of X G a_round_looks, F_round_looks, (F_round_looks.binds (ps := ["sizes", "content", "standings", "some"]) fun _ _ _ _ _ _ us hl => match us, hl with | [_, _, _, _], _ => rfl)⟩,
    ⟨g_check_standings, _, PySem.W.mg_of X G a_check_standings, F_check_standings, (F_check_standings.binds (ps := ["thing", "least"]) fun _ _ _ _ _ _ us hl => match us, hl with | [_, _], _ => rfl)⟩,
    ⟨g_round_row, _, PySem.W.mg_of X G a_round_row, F_round_row, (F_round_row.binds (ps := ["sizes", "content", "standings", "some"]) fun _ _ _ _ _ _ us hl => match us, hl with | [_, _, _, _], _ => rfl)⟩,
    ⟨g__law_tape, _, PySem.W.mg_of X G a__law_tape, F__law_tape, (F__law_tape.binds (ps := ["script"]) fun _ _ _ _ _ _ us hl => match us, hl with | [_], _ => rfl)⟩,
    ⟨g__law_pick, _, PySem.W.mg_of X G a__law_pick, F__law_pick, (F__law_pick.binds (ps := ["tape", "many"]) fun _ _ _ _ _ _ us hl => match us, hl with | [_, _], _ => rfl)⟩,
    ⟨g__law_any, _, PySem.W.mg_of X G a__law_any, F__law_any, (F__law_any.binds (ps := ["tape", "things"]) fun _ _ _ _ _ _ us hl => match us, hl with | [_, _], _ => rfl)⟩,
    ⟨g__law_mixed, _, PySem.W.mg_of X G a__law_mixed, F__law_mixed, (F__law_mixed.binds (ps := ["tape", "things"]) fun _ _ _ _ _ _ us hl => match us, hl with | [_, _], _ => rfl)⟩,
    ⟨g__law_contents, _, PySem.W.mg_of X G a__law_contents, F__law_contents, (F__law_contents.binds (ps := ["sizes"]) fun _ _ _ _ _ _ us hl => match us, hl with | [_], _ => rfl)⟩,
    ⟨g__law_joints, _, PySem.W.mg_of X G a__law_joints, F__law_joints, (F__law_joints.binds (ps := ["sizes", "lot"]) fun _ _ _ _ _ _ us hl => match us, hl with | [_, _], _ => rfl)⟩,
    ⟨g__law_joint, _, PySem.W.mg_of X G a__law_joint, F__law_joint, (F__law_joint.binds (ps := ["lot", "content"]) fun _ _ _ _ _ _ us hl => match us, hl with | [_, _], _ => rfl)⟩,
    ⟨g__law_sizes, _, PySem.W.mg_of X G a__law_sizes, F__law_sizes, (F__law_sizes.binds (ps := ["tape", "most"]) fun _ _ _ _ _ _ us hl => match us, hl with | [_, _], _ => rfl)⟩,
    ⟨g__law_ends, _, PySem.W.mg_of X G a__law_ends, F__law_ends, (F__law_ends.binds (ps := ["looks", "sizes", "begin"]) fun _ _ _ _ _ _ us hl => match us, hl with | [_, _, _], _ => rfl)⟩,
    ⟨g__law_is_turning, _, PySem.W.mg_of X G a__law_is_turning, F__law_is_turning, (F__law_is_turning.binds (ps := ["looks"]) fun _ _ _ _ _ _ us hl => match us, hl with | [_], _ => rfl)⟩⟩
  exact ⟨PySem.W.fnOf "law" "law" (defArgs s_law) (defBody s_law) (defScope s_law) .none kV_law dc_law pm_law an_law cd_law ct_law, fun s v => .of_eq rfl, fun base _ _ => ok_law T F_law⟩
theorem walk {l : PySem.W.OpenLaw} {q : Program} {loose : List Str} {XP : (Str → Option Value) → Heap → Prop} {YP : World → Heap → Prop} {d : DefRec} {K : Params → PySem.W.Frag} (hn : l.most = some 63) (hdf : d.params.defaults = [])
    (hY : ∀ (w : World) (h : Heap), YP w h → (K w.params).In h)
    (F : ∀ (w : World) (mg : Str → Option Value) (fa : Addr) (h : Heap), (K w.params).In h → h.Ns mainGlobals mg → mg d.name = some (.ref fa) →
      ∃ fd : FuncData, (∀ (s : Shared) (u : Value), BindsTo s fd ⟨[u], []⟩ [("script", u)]) ∧ ∀ base : Heap, (K w.params).In base → base.Ns mainGlobals mg → FnOk l.prog w (K w.params) mg base (L2.CX l.prog w) 9 fa fd ["script"] (spD (K w.params) (clOf (K w.params) clNs) 1 [] h_law)) :
    PySem.W.WalkO q loose XP YP l.row.toRowW d [] (fun f vs => PySem.call f vs) :=
  L2.walk_of (n := 63) (k := 9) (x := "script") (CX := fun w => L2.CX l.prog w) (sp := fun w => spD (K w.params) (clOf (K w.params) clNs) 1 [] h_law) hn (by decide) hdf ⟨rfl, by decide, by decide⟩ hY F (fun _ _ a ns hl _ hS => law_sp (law_true ns hl) hS) fun _ _ _ _ _ ⟨_, _, _, _, _, z⟩ => z.2.2.2.2.2.2.2
end K29
open PySem PySem.W PyProof.Rows in
set_option maxRecDepth 100000 in
set_option maxHeartbeats 0 in
theorem PySem.Challenge.cw_twostandings_k29_whole_rounds_by_one_con_holds : PySem.Challenge.rw_twostandings_k29_whole_rounds_by_one_con.Holds := by
  w_on; o_law; k_head; (case hw => w_witness2)
  k_fill
  refine K29.walk (l := PySem.Challenge.rw_twostandings_k29_whole_rounds_by_one_con) rfl rfl (fun w h Y => PySem.W.kIn_of Y) ?F
  case F =>
    intro w mg fa h KX G hmg
    refine' K29.all_mk KX G hmg ?z_abs ?z_all ?z_bool ?z_dict ?z_enumerate ?z_int ?z_isinstance ?z_len ?z_list ?z_max ?z_range ?z_set ?z_tuple ?z_zip ?c_LEAST_STANDINGS ?c_LEAST_WORTHS ?c_MOST_LOOKED ?c_MOST_LOOKS ?c_MOST_PINS ?c_MOST_STANDINGS ?c_MOST_WORTHS ?k_Row ?pg_Row ?hd_Row ?po_Row ?sa_Row ?ha_Row ?hm_Row ?hn ?ht ?i0 ?i1 ?i2 ?i3 ?i4 ?i5 ?i6 ?i7 ?i8 ?i9 ?i10 ?i11 ?i12 ?i13 ?i14 ?i15 ?i16 ?i17 ?i18 ?i19 ?i20 ?i21 ?i22 ?i23 ?i24 ?i25 ?i26 ?i27 ?i28 ?i29 ?i30 ?i31 ?n_looks_Row ?n_sizes_Row ?n_standings_Row ?a_is_integer ?l_is_integer ?c_is_integer ?k_is_integer ?a_is_within ?l_is_within ?c_is_within ?k_is_within ?a_is_lot ?l_is_lot ?c_is_lot ?k_is_lot ?a_is_pair ?l_is_pair ?c_is_pair ?k_is_pair ?a_check_sizes ?l_check_sizes ?c_check_sizes ?k_check_sizes ?a_tuples_of ?l_tuples_of ?c_tuples_of ?k_tuples_of ?a_many_contents ?l_many_contents ?c_many_contents ?k_many_contents ?a_is_content ?l_is_content ?c_is_content ?k_is_content ?a_check_content ?l_check_content ?c_check_content ?k_check_content ?a_sizes_at ?l_sizes_at ?c_sizes_at ?k_sizes_at ?a_joints_of ?l_joints_of ?c_joints_of ?k_joints_of ?a_is_map ?l_is_map ?c_is_map ?k_is_map ?a_is_look ?l_is_look ?c_is_look ?k_is_look ?a_Row_init ?l_Row_init ?c_Row_init ?k_Row_init ?i_Row_init ?mk_Row ?kc_Row ?a_raw_row ?l_raw_row ?c_raw_row ?k_raw_row ?a_turned_back ?l_turned_back ?c_turned_back ?k_turned_back ?a_one_look ?l_one_look ?c_one_look ?k_one_look ?a_is_round ?l_is_round ?c_is_round ?k_is_round ?a_led_round ?l_led_round ?c_led_round ?k_led_round ?a_undone ?l_undone ?c_undone ?k_undone ?a_round_looks ?l_round_looks ?c_round_looks ?k_round_looks ?a_check_standings ?l_check_standings ?c_check_standings ?k_check_standings ?a_round_row ?l_round_row ?c_round_row ?k_round_row ?a__law_tape ?l__law_tape ?c__law_tape ?k__law_tape ?a__law_pick ?l__law_pick ?c__law_pick ?k__law_pick ?a__law_any ?l__law_any ?c__law_any ?k__law_any ?a__law_mixed ?l__law_mixed ?c__law_mixed ?k__law_mixed ?a__law_contents ?l__law_contents ?c__law_contents ?k__law_contents ?a__law_joints ?l__law_joints ?c__law_joints ?k__law_joints ?a__law_joint ?l__law_joint ?c__law_joint ?k__law_joint ?a__law_sizes ?l__law_sizes ?c__law_sizes ?k__law_sizes ?a__law_ends ?l__law_ends ?c__law_ends ?k__law_ends ?a__law_is_turning ?l__law_is_turning ?c__law_is_turning ?k__law_is_turning ?a_law ?l_law ?c_law ?k_law
    (case z_abs => k_is)
    (case z_all => k_is)
    (case z_bool => k_is)
    (case z_dict => k_is)
    (case z_enumerate => k_is)
    (case z_int => k_is)
    (case z_isinstance => k_is)
    (case z_len => k_is)
    (case z_list => k_is)
    (case z_max => k_is)
    (case z_range => k_is)
    (case z_set => k_is)
    (case z_tuple => k_is)
    (case z_zip => k_is)
    (case c_LEAST_STANDINGS => k_is)
    (case c_LEAST_WORTHS => k_is)
    (case c_MOST_LOOKED => k_is)
    (case c_MOST_LOOKS => k_is)
    (case c_MOST_PINS => k_is)
    (case c_MOST_STANDINGS => k_is)
    (case c_MOST_WORTHS => k_is)
    (case k_Row => k_is)
    (case pg_Row => k_is)
    (case hd_Row => k_is)
    (case po_Row => k_is)
    (case sa_Row => k_is)
    (case ha_Row => k_is)
    (case hm_Row => k_is)
    (case hn => k_is)
    (case ht => k_is)
    (case i0 => kit_is)
    (case i1 => kit_is)
    (case i2 => kit_is)
    (case i3 => kit_is)
    (case i4 => kit_is)
    (case i5 => kit_is)
    (case i6 => kit_is)
    (case i7 => kit_is)
    (case i8 => kit_is)
    (case i9 => kit_is)
    (case i10 => kit_is)
    (case i11 => kit_is)
    (case i12 => kit_is)
    (case i13 => kit_is)
    (case i14 => kit_is)
    (case i15 => kit_is)
    (case i16 => kit_is)
    (case i17 => kit_is)
    (case i18 => kit_is)
    (case i19 => kit_is)
    (case i20 => kit_is)
    (case i21 => kit_is)
    (case i22 => kit_is)
    (case i23 => kit_is)
    (case i24 => kit_is)
    (case i25 => kit_is)
    (case i26 => kit_is)
    (case i27 => kit_is)
    (case i28 => kit_is)
    (case i29 => kit_is)
    (case i30 => kit_is)
    (case i31 => kit_is)
    (case n_looks_Row => k_is)
    (case n_sizes_Row => k_is)
    (case n_standings_Row => k_is)
    (case a_is_integer => k_is)
    (case l_is_integer => k_is)
    (case c_is_integer => k_is)
    (case k_is_integer => k_is)
    (case a_is_within => k_is)
    (case l_is_within => k_is)
    (case c_is_within => k_is)
    (case k_is_within => k_is)
    (case a_is_lot => k_is)
    (case l_is_lot => k_is)
    (case c_is_lot => k_is)
    (case k_is_lot => k_is)
    (case a_is_pair => k_is)
    (case l_is_pair => k_is)
    (case c_is_pair => k_is)
    (case k_is_pair => k_is)
    (case a_check_sizes => k_is)
    (case l_check_sizes => k_is)
    (case c_check_sizes => k_is)
    (case k_check_sizes => k_is)
    (case a_tuples_of => k_is)
    (case l_tuples_of => k_is)
    (case c_tuples_of => k_is)
    (case k_tuples_of => k_is)
    (case a_many_contents => k_is)
    (case l_many_contents => k_is)
    (case c_many_contents => k_is)
    (case k_many_contents => k_is)
    (case a_is_content => k_is)
    (case l_is_content => k_is)
    (case c_is_content => k_is)
    (case k_is_content => k_is)
    (case a_check_content => k_is)
    (case l_check_content => k_is)
    (case c_check_content => k_is)
    (case k_check_content => k_is)
    (case a_sizes_at => k_is)
    (case l_sizes_at => k_is)
    (case c_sizes_at => k_is)
    (case k_sizes_at => k_is)
    (case a_joints_of => k_is)
    (case l_joints_of => k_is)
    (case c_joints_of => k_is)
    (case k_joints_of => k_is)
    (case a_is_map => k_is)
    (case l_is_map => k_is)
    (case c_is_map => k_is)
    (case k_is_map => k_is)
    (case a_is_look => k_is)
    (case l_is_look => k_is)
    (case c_is_look => k_is)
    (case k_is_look => k_is)
    (case a_Row_init => k_is)
    (case l_Row_init => k_is)
    (case c_Row_init => k_is)
    (case k_Row_init => k_is)
    (case i_Row_init => k_is)
    (case mk_Row => k_is)
    (case kc_Row => k_is)
    (case a_raw_row => k_is)
    (case l_raw_row => k_is)
    (case c_raw_row => k_is)
    (case k_raw_row => k_is)
    (case a_turned_back => k_is)
    (case l_turned_back => k_is)
    (case c_turned_back => k_is)
    (case k_turned_back => k_is)
    (case a_one_look => k_is)
    (case l_one_look => k_is)
    (case c_one_look => k_is)
    (case k_one_look => k_is)
    (case a_is_round => k_is)
    (case l_is_round => k_is)
    (case c_is_round => k_is)
    (case k_is_round => k_is)
    (case a_led_round => k_is)
    (case l_led_round => k_is)
    (case c_led_round => k_is)
    (case k_led_round => k_is)
    (case a_undone => k_is)
    (case l_undone => k_is)
    (case c_undone => k_is)
    (case k_undone => k_is)
    (case a_round_looks => k_is)
    (case l_round_looks => k_is)
    (case c_round_looks => k_is)
    (case k_round_looks => k_is)
    (case a_check_standings => k_is)
    (case l_check_standings => k_is)
    (case c_check_standings => k_is)
    (case k_check_standings => k_is)
    (case a_round_row => k_is)
    (case l_round_row => k_is)
    (case c_round_row => k_is)
    (case k_round_row => k_is)
    (case a__law_tape => k_is)
    (case l__law_tape => k_is)
    (case c__law_tape => k_is)
    (case k__law_tape => k_is)
    (case a__law_pick => k_is)
    (case l__law_pick => k_is)
    (case c__law_pick => k_is)
    (case k__law_pick => k_is)
    (case a__law_any => k_is)
    (case l__law_any => k_is)
    (case c__law_any => k_is)
    (case k__law_any => k_is)
    (case a__law_mixed => k_is)
    (case l__law_mixed => k_is)
    (case c__law_mixed => k_is)
    (case k__law_mixed => k_is)
    (case a__law_contents => k_is)
    (case l__law_contents => k_is)
    (case c__law_contents => k_is)
    (case k__law_contents => k_is)
    (case a__law_joints => k_is)
    (case l__law_joints => k_is)
    (case c__law_joints => k_is)
    (case k__law_joints => k_is)
    (case a__law_joint => k_is)
    (case l__law_joint => k_is)
    (case c__law_joint => k_is)
    (case k__law_joint => k_is)
    (case a__law_sizes => k_is)
    (case l__law_sizes => k_is)
    (case c__law_sizes => k_is)
    (case k__law_sizes => k_is)
    (case a__law_ends => k_is)
    (case l__law_ends => k_is)
    (case c__law_ends => k_is)
    (case k__law_ends => k_is)
    (case a__law_is_turning => k_is)
    (case l__law_is_turning => k_is)
    (case c__law_is_turning => k_is)
    (case k__law_is_turning => k_is)
    (case a_law => k_is)
    (case l_law => k_is)
    (case c_law => k_is)
    (case k_law => k_is)
