import PyProof.Rows.All
import Wide.All
import OpenK.AllK
import Wide.FinOn
import HandS.ForMost
import HandS.ForExc
import KE.KeyNested
import HandS.Lambda
import HandS.CallSlots
import HandS.TupAny
import HandS.TupMul
import HandS.IsInst
import HandS.Deep
import HandS.Style
import HandS.Flow
import HandS.Comp
import HandS.Zip
import KE.GoesZip
import KE.GoesMore
import HandS.Ends
import HandS.SetFor
import HandS.OwnEq
import KE.RegKIsAll
import PyProof.InstNe
import PyProof.P3Eq
import HandS.Conv
import HandS.SortInts
import KE.GoesEnum
import HandS.Iter
import HandS.SortOrd
import KE.DataMinMax
import HandS.SortKw
import HandS.ReCall
import HandS.Strs
import HandS.Dict
import KE.KTupSum
import KE.KDictDisplayH
import KE.KDictCopyH
import KE.KDictPairs
import HandS.Keys
import HandS.DictTup
import HandS.TupLe
import HandS.SortRule
import HandS.Walk
import HandS.More
import HandS.DictComp
import KE.KDictSum
import HandS.WideBits
import HandS.TupLen
import KE.KDictKeyed
import HandS.WordsDict
import HandS.TupSets
import HandS.ExcOwn
import HandS.ExcInit
import HandS.ExcField
import HandS.ExcIs
import KE.KExcIs
import HandS.TryMany
import HandS.EndTab
import KE.KNestM
import HandS.Text
import PyProof.ReprRoads
import HandS.EndBits
import PySem.Challenge.RW_twostandings_k08_whole_programs_run
set_option Elab.async false
set_option linter.all false
set_option maxRecDepth 100000
set_option maxHeartbeats 4000000
namespace Tw
open PySem PySem.Spec PyProof.Rows L2

/-! ## the classes' places, and the tables of code objects (place, the name they bear) -/
structure Cl where
  f : Nat → Addr
  T : List (Addr × Str)
instance : CoeFun Cl fun _ => Nat → Addr := ⟨Cl.f⟩
/-! ## values as data, with what may still be changed marked -/
inductive D where
  | non | bl (b : Bool) | int (i : Int) | str (x : Str) | ty (n : String) | cl (c : Nat)
  | scr (ns : List Int)
  | at (a : Addr)
  | tup (xs : List D) | lst (m : Bool) (xs : List D)
  /-- a pair that a walk over zip or enumerate hands on -/
  | pr (xs : List D)
  /-- a dict whose keys are tuples of whole numbers, read only -/
  | dtt (ks : List (List Int)) (xs : List D)
  | obj (m : Bool) (c : Nat) (ns : List Str) (xs : List D)
  | dct (m : Bool) (ks : List Key) (xs : List D)
  /-- a dict whose keys are tuples of whole numbers, of None, and of such tuples -/
  | dcd (m : Bool) (ks xs : List D)
  /-- the exception at hand: its place, its dict's place, its class, its fields -/
  | ex (a d : Addr) (c : Nat) (ns : List Str) (xs : List D)
  /-- a dict while it is walked, a thing while it is made -/
  | wlk (m : Bool) (o : Unit → HO) (ks : List Key) (xs : List D)

abbrev Env := List (Option D)

mutual
def D.frz : D → D
  | .non => .non | .bl b => .bl b | .int i => .int i | .str x => .str x | .ty n => .ty n | .cl c => .cl c | .scr ns => .scr ns | .at a => .at a
  | .tup xs => .tup (D.frzs xs)
  | .pr xs => .pr (D.frzs xs)
  | .dtt ks xs => .dtt ks (D.frzs xs)
  | .lst _ xs => .lst false (D.frzs xs)
  | .obj _ c ns xs => .obj false c ns (D.frzs xs)
  | .dct _ ks xs => .dct false ks (D.frzs xs)
  | .dcd _ ks xs => .dcd false ks (D.frzs xs)
  | .ex a d c ns xs => .ex a d c ns (D.frzs xs)
  | .wlk _ o ks xs => .wlk false o ks (D.frzs xs)
def D.frzs : List D → List D
  | [] => []
  | d :: ds => D.frz d :: D.frzs ds
end
mutual
/-- nothing in it may still be changed -/
def D.ok : D → Bool
  | .non => true | .bl _ => true | .int _ => true | .str _ => true | .ty _ => true | .cl _ => true | .scr _ => true | .at _ => true
  | .tup xs => D.oks xs
  | .pr xs => D.oks xs
  | .dtt _ xs => D.oks xs
  | .lst m xs => !m && D.oks xs
  | .obj m _ _ xs => !m && D.oks xs
  | .dct m _ xs => !m && D.oks xs
  | .dcd m _ xs => !m && D.oks xs
  | .ex _ _ _ _ xs => D.oks xs
  | .wlk m _ _ xs => !m && D.oks xs
def D.oks : List D → Bool
  | [] => true
  | d :: ds => D.ok d && D.oks ds
end
theorem D.oks_iff : ∀ {ds : List D}, D.oks ds = true ↔ ∀ d ∈ ds, D.ok d = true
  | [] => by simp [D.oks]
  | d :: ds => by simp [D.oks, D.oks_iff (ds := ds)]
mutual
theorem D.frz_ok : ∀ {d : D}, D.ok d = true → D.frz d = d
  | .non, _ => rfl | .bl _, _ => rfl | .int _, _ => rfl | .str _, _ => rfl | .ty _, _ => rfl | .cl _, _ => rfl | .scr _, _ => rfl | .at _, _ => rfl
  | .tup xs, h => by rw [D.frz, D.frzs_ok (ds := xs) (by simpa [D.ok] using h)]
  | .pr xs, h => by rw [D.frz, D.frzs_ok (ds := xs) (by simpa [D.ok] using h)]
  | .dtt _ xs, h => by rw [D.frz, D.frzs_ok (ds := xs) (by simpa [D.ok] using h)]
  | .lst m xs, h => by simp [D.ok] at h; rw [D.frz, D.frzs_ok (ds := xs) h.2, h.1]
  | .obj m _ _ xs, h => by simp [D.ok] at h; rw [D.frz, D.frzs_ok (ds := xs) h.2, h.1]
  | .dct m _ xs, h => by simp [D.ok] at h; rw [D.frz, D.frzs_ok (ds := xs) h.2, h.1]
  | .dcd m _ xs, h => by simp [D.ok] at h; rw [D.frz, D.frzs_ok (ds := xs) h.2, h.1]
  | .ex _ _ _ _ xs, h => by rw [D.frz, D.frzs_ok (ds := xs) (by simpa [D.ok] using h)]
  | .wlk m _ _ xs, h => by simp [D.ok] at h; rw [D.frz, D.frzs_ok (ds := xs) h.2, h.1]
theorem D.frzs_ok : ∀ {ds : List D}, D.oks ds = true → D.frzs ds = ds
  | [], _ => rfl
  | d :: ds, h => by simp [D.oks] at h; rw [D.frzs, D.frz_ok h.1, D.frzs_ok h.2]
end
mutual
theorem D.ok_frz : ∀ d : D, D.ok (D.frz d) = true
  | .non => rfl | .bl _ => rfl | .int _ => rfl | .str _ => rfl | .ty _ => rfl | .cl _ => rfl | .scr _ => rfl | .at _ => rfl
  | .tup xs => by simp [D.frz, D.ok, D.oks_frzs xs]
  | .pr xs => by simp [D.frz, D.ok, D.oks_frzs xs]
  | .dtt _ xs => by simp [D.frz, D.ok, D.oks_frzs xs]
  | .lst _ xs => by simp [D.frz, D.ok, D.oks_frzs xs]
  | .obj _ _ _ xs => by simp [D.frz, D.ok, D.oks_frzs xs]
  | .dct _ _ xs => by simp [D.frz, D.ok, D.oks_frzs xs]
  | .dcd _ _ xs => by simp [D.frz, D.ok, D.oks_frzs xs]
  | .ex _ _ _ _ xs => by simp [D.frz, D.ok, D.oks_frzs xs]
  | .wlk _ _ _ xs => by simp [D.frz, D.ok, D.oks_frzs xs]
theorem D.oks_frzs : ∀ ds : List D, D.oks (D.frzs ds) = true
  | [] => rfl
  | d :: ds => by simp [D.frzs, D.oks, D.ok_frz d, D.oks_frzs ds]
end

/-! ## how data lie in the heap; f: the places that may still be changed; M: all such of the whole stack -/
def Ow (m : Bool) (M : Addr → Prop) (a : Addr) (f g : List Addr) : Prop := (m = true ∧ M a ∧ f = a :: g) ∨ (m = false ∧ ¬ M a ∧ f = [] ∧ g = [])
def KTup (K : PySem.W.Frag) (a : Addr) (xs : List V) : Prop := ∃ (o : Obj) (its : Array Value) (n : Nat), K.lookup a = some o ∧ o.cls = .type "tuple" ∧ o.dict = none ∧ o.data = .seq its n ∧ its.size ≤ sizeLine ∧ Vals xs its.toList
/-- a tuple as it is made: no dict hangs on it -/
def tupO (its : List Value) : Obj := { cls := .type "tuple", data := .seq its.toArray }
/-- the abstract thing at a made tuple -/
def tupH (its : List Value) (xs : List V) : HO := .frz (tupO its) (.tup xs)
def FzT (K : PySem.W.Frag) (M : Addr → Prop) (H : Hp) (a : Addr) (xs : List V) : Prop := (∃ its, H a = some (tupH its xs) ∧ ¬ M a) ∨ KTup K a xs
/-- the entry of a dict at a tuple of whole numbers -/
def hashI (ks : List Int) : Int := reduceHash (Builtin.Tuple.tupleHashOf (ks.map hashInt))
def entI (x : List Int × Addr × Value) : DictEntry := ⟨hashI x.1, .ref x.2.1, x.2.2⟩
def RawT (a : Addr) (xs : List (List Int × Addr × Value)) (h : Heap) : Prop := (a == sysModules) = false ∧ ∃ o es ep, h.get? a = some o ∧ o.ExactDict ∧ o.data = .dict es ep ∧ es.toList = xs.map entI ∧ (xs.map (·.1)).Nodup
def DtO (a : Addr) (xs : List (List Int × Addr × Value)) : HO := .ext (RawT a xs)
mutual
/-- a value as a part of a key -/
def D.kN : D → Option NestedKey
  | .non => some .none
  | .int i => some (.num i)
  | .tup xs => (D.kNs xs).map .tup
  | _ => none
def D.kNs : List D → Option (List NestedKey)
  | [] => some []
  | d :: ds => (D.kN d).bind fun k => (D.kNs ds).map (k :: ·)
end
mutual
theorem D.kN_frz : ∀ {d : D} {k : NestedKey}, D.kN d = some k → D.frz d = d
  | .non, _, _ => rfl
  | .int _, _, _ => rfl
  | .tup xs, _, h => by
    simp only [D.kN, Option.map_eq_some_iff] at h
    obtain ⟨ks, e, _⟩ := h
    rw [D.frz, D.kNs_frz e]
  | .bl _, _, h | .str _, _, h | .ty _, _, h | .cl _, _, h | .scr _, _, h | .at _, _, h | .pr _, _, h | .dtt _ _, _, h | .lst _ _, _, h | .obj _ _ _ _, _, h | .dct _ _ _, _, h | .dcd _ _ _, _, h | .wlk _ _ _ _, _, h | .ex _ _ _ _ _, _, h => by simp [D.kN] at h
theorem D.kNs_frz : ∀ {ds : List D} {ks : List NestedKey}, D.kNs ds = some ks → D.frzs ds = ds
  | [], _, _ => rfl
  | d :: ds, _, h => by
    simp only [D.kNs, Option.bind_eq_some_iff, Option.map_eq_some_iff] at h
    obtain ⟨k, e1, ks, e2, _⟩ := h
    rw [D.frzs, D.kN_frz e1, D.kNs_frz e2]
end
/-- a tuple as a key -/
def D.keyN : D → Option NestedKey
  | .tup xs => (D.kNs xs).bind fun ks => if (NestedKey.tup ks).depth ≤ 8 then some (.tup ks) else none
  | _ => none
theorem D.keyN_kN {d : D} {k : NestedKey} (h : D.keyN d = some k) : D.kN d = some k ∧ k.depth ≤ 8 := by
  cases d with
  | tup xs =>
    simp only [D.keyN, Option.bind_eq_some_iff] at h
    obtain ⟨ks, e, h⟩ := h
    split at h
    · cases h
      exact ⟨by rw [D.kN, e]; rfl, by assumption⟩
    · cases h
  | _ => cases h
theorem keys_frz : ∀ {ks : List D} {ns : List NestedKey}, ks.map D.keyN = ns.map some → D.frzs ks = ks
  | [], _, _ => rfl
  | d :: ks, [], h => by cases h
  | d :: ks, n :: ns, h => by
    rw [List.map_cons, List.map_cons] at h
    injection h with h1 h2
    rw [D.frzs, D.kN_frz (D.keyN_kN h1).1, keys_frz h2]
mutual
/-- hash(k), k without texts -/
def hashN : NestedKey → Int
  | .none => reduceHash 0xFCA86420
  | .num i => hashInt i
  | .text _ => 0
  | .tup ks => reduceHash (Builtin.Tuple.tupleHashOf (hashNs ks))
def hashNs : List NestedKey → List Int
  | [] => []
  | k :: ks => hashN k :: hashNs ks
end
mutual
theorem hashN_eq (w : World) : ∀ {d : D} {k : NestedKey}, D.kN d = some k → k.hash w = hashN k
  | .non, _, h => by cases h; rfl
  | .int _, _, h => by cases h; rfl
  | .tup xs, _, h => by
    simp only [D.kN, Option.map_eq_some_iff] at h
    obtain ⟨ks, e, rfl⟩ := h
    rw [NestedKey.hash, hashN, hashNs_eq w e]
  | .bl _, _, h | .str _, _, h | .ty _, _, h | .cl _, _, h | .scr _, _, h | .at _, _, h | .pr _, _, h | .dtt _ _, _, h | .lst _ _, _, h | .obj _ _ _ _, _, h | .dct _ _ _, _, h | .dcd _ _ _, _, h | .wlk _ _ _ _, _, h | .ex _ _ _ _ _, _, h => by simp [D.kN] at h
theorem hashNs_eq (w : World) : ∀ {ds : List D} {ks : List NestedKey}, D.kNs ds = some ks → NestedKey.hashes w ks = hashNs ks
  | [], _, h => by cases h; rfl
  | d :: ds, _, h => by
    simp only [D.kNs, Option.bind_eq_some_iff, Option.map_eq_some_iff] at h
    obtain ⟨k, e1, ks, e2, rfl⟩ := h
    rw [NestedKey.hashes, hashNs, hashN_eq w e1, hashNs_eq w e2]
end
def entN (x : NestedKey × Addr × Value) : DictEntry := ⟨hashN x.1, .ref x.2.1, x.2.2⟩
/-- the object itself is told, too: a walk over the dict asks that it stays -/
def RawN (a : Addr) (xs : Obj × List (NestedKey × Addr × Value)) (h : Heap) : Prop := (a == sysModules) = false ∧ xs.2.length ≤ sizeLine ∧ h.get? a = some xs.1 ∧ ∃ es ep, xs.1.ExactDict ∧ xs.1.data = .dict es ep ∧ es.toList = xs.2.map entN ∧ (xs.2.map (·.1)).Nodup
def DnO (a : Addr) (xs : Obj × List (NestedKey × Addr × Value)) : HO := .ext (RawN a xs)
def FzS (K : PySem.W.Frag) (M : Addr → Prop) (H : Hp) (a : Addr) (xs : List V) : Prop := (Rd H a (.lst xs) ∧ ¬ M a) ∨ ∃ (o : Obj) (its : Array Value) (n : Nat), K.lookup a = some o ∧ o.cls = .type "list" ∧ o.dict = none ∧ o.data = .seq its n ∧ its.size ≤ sizeLine ∧ Vals xs its.toList
theorem FzS.sq {K : PySem.W.Frag} {M : Addr → Prop} {H : Hp} {a : Addr} {xs : List V} (h : FzS K M H a xs) : SqL K H a xs := h.elim (fun z => .inl z.1) .inr
theorem FzT.sq {K : PySem.W.Frag} {M : Addr → Prop} {H : Hp} {a : Addr} {xs : List V} (h : FzT K M H a xs) : SqT K H a xs := h.elim (fun ⟨its, z, _⟩ => .inl (.inr ⟨tupO its, z⟩)) fun ⟨o, its, n, h1, h2, _, h3⟩ => .inr ⟨o, its, n, h1, h2, h3⟩
/-- neither a table of code objects nor a code object, nor an exception's dict -/
def HOpl (o : HO) : Prop := (∀ ps, o ≠ .tbl ps) ∧ (∀ c q, o ≠ LamX.CodeO c q) ∧ ∀ fs, o ≠ .xd fs
theorem hopl_lst (xs : List V) : HOpl (.lst xs) := ⟨(fun _ z => by cases z), (fun _ _ z => by unfold LamX.CodeO at z; cases z), (fun _ z => by cases z)⟩
theorem hopl_ins (C dx : Addr) (fs : List (Str × V)) : HOpl (.ins C dx fs) := ⟨(fun _ z => by cases z), (fun _ _ z => by unfold LamX.CodeO at z; cases z), (fun _ z => by cases z)⟩
theorem hopl_dK (kvs : List (Key × V)) : HOpl (.dK kvs) := ⟨(fun _ z => by cases z), (fun _ _ z => by unfold LamX.CodeO at z; cases z), (fun _ z => by cases z)⟩
theorem hopl_N (a : Addr) (xs : Obj × List (NestedKey × Addr × Value)) : HOpl (DnO a xs) := ⟨(fun _ z => by unfold DnO at z; cases z), (fun c q z => by
  unfold DnO LamX.CodeO at z
  injection z with z
  have h : ∀ h : Heap, RawN a xs h ↔ (∃ (oc : Obj) (vs : Array Value) (t : Tok), h.get? c = some oc ∧ oc.data = .fields vs ∧ vs[1]? = some (.str q t)) := fun h => by rw [z]
  let o0 : Obj := { cls := .none, data := .fields #[.none, .str q 0] }
  have g : ∀ b, b < a + c + 1 → ({ objs := Array.replicate (a + c + 1) o0 } : Heap).get? b = some o0 := fun b hb => by
    have e : (Array.replicate (a + c + 1) o0)[b]? = some o0 := by
      rw [Array.getElem?_replicate, if_pos hb]
    unfold Heap.get?
    show (match (Array.replicate (a + c + 1) o0)[b]? with | some ⟨_, _, .freed, _⟩ => none | x => x) = _
    rw [e]
  obtain ⟨_, _, e, es, ep, _, d, _⟩ := (h { objs := Array.replicate (a + c + 1) o0 }).mpr ⟨o0, _, _, g c (Nat.lt_succ_of_le (Nat.le_add_left c a)), rfl, rfl⟩
  rw [g a (Nat.lt_succ_of_le (Nat.le_add_right a c))] at e
  rw [← Option.some.inj e] at d
  cases d), (fun _ z => by unfold DnO at z; cases z)⟩
mutual
def Dat (K : PySem.W.Frag) (cl : Cl) (M : Addr → Prop) (H : Hp) : D → V → List Addr → Prop
  | .non, v, f => v = .non ∧ f = []
  | .bl b, v, f => v = .bl b ∧ f = []
  | .int i, v, f => v = .int i ∧ f = []
  | .str x, v, f => v = .str x ∧ f = []
  | .ty n, v, f => v = .ty n ∧ f = []
  | .cl c, v, f => v = .ref (cl c) ∧ f = []
  | .at a, v, f => v = .ref a ∧ f = []
  | .scr ns, v, f => f = [] ∧ ∃ a, v = .ref a ∧ FzS K M H a (ns.map V.int)
  | .tup ds, v, f => ∃ a vs, v = .ref a ∧ FzT K M H a vs ∧ Dats K cl M H ds vs f
  | .pr ds, v, f => ∃ a vs, v = .ref a ∧ (H a = some (.tup vs) ∧ ¬ M a) ∧ Dats K cl M H ds vs f
  | .dtt ks ds, v, f => ∃ a vs xs, v = .ref a ∧ (H a = some (DtO a xs) ∧ ¬ M a) ∧ (xs.map (·.1) = ks ∧ (∀ x ∈ xs, FzT K M H x.2.1 (x.1.map V.int)) ∧ Vals vs (xs.map (·.2.2))) ∧ Dats K cl M H ds vs f
  | .lst m ds, v, f => ∃ a vs g, v = .ref a ∧ H a = some (.lst vs) ∧ Dats K cl M H ds vs g ∧ Ow m M a f g
  | .obj m c ns ds, v, f => ∃ a dx vs g, v = .ref a ∧ H a = some (.ins (cl c) dx (ns.zip vs)) ∧ ns.length = vs.length ∧ Dats K cl M H ds vs g ∧ Ow m M a f g
  | .dct m ks ds, v, f => ∃ a vs g, v = .ref a ∧ H a = some (.dK (ks.zip vs)) ∧ ks.length = vs.length ∧ Dats K cl M H ds vs g ∧ Ow m M a f g
  | .dcd m ks ds, v, f => ∃ a vs es g, v = .ref a ∧ H a = some (DnO a es) ∧ (ks.map D.keyN = (es.2.map (·.1)).map some ∧ Vals vs (es.2.map (·.2.2))) ∧ Dats K cl M H ks (es.2.map fun e => V.ref e.2.1) [] ∧ Dats K cl M H ds vs g ∧ Ow m M a f g
  | .ex a d _ ns ds, v, f => ∃ vs, v = .ref a ∧ (ns.length = vs.length ∧ (ns = [] ∨ (H d = some (.xd (ns.zip vs)) ∧ ¬ M d))) ∧ Dats K cl M H ds vs f
  | .wlk m o ks ds, v, f => ∃ a vs g, v = .ref a ∧ H a = some (o ()) ∧ (ks.length = vs.length ∧ (∀ od us, ks.length = us.length → o () = .frz od (.dK (ks.zip us)) → us = vs) ∧ HOpl (o ())) ∧ Dats K cl M H ds vs g ∧ Ow m M a f g
def Dats (K : PySem.W.Frag) (cl : Cl) (M : Addr → Prop) (H : Hp) : List D → List V → List Addr → Prop
  | [], vs, f => vs = [] ∧ f = []
  | d :: ds, vs, f => ∃ v vs' f1 f2, vs = v :: vs' ∧ f = f1 ++ f2 ∧ Dat K cl M H d v f1 ∧ Dats K cl M H ds vs' f2
end
section
variable {K : PySem.W.Frag} {cl : Cl} {M M' : Addr → Prop} {H H' : Hp}
theorem Ow.tr {m : Bool} {a : Addr} {f g : List Addr} {o : HO} (w : Ow m M a f g) (ha : H a = some o) (hM : ∀ a, M' a → M a ∨ H a = none) (hf : ∀ a ∈ f, M' a) : Ow m M' a f g := by
  rcases w with ⟨e, h, e2⟩ | ⟨e, h, e2, e3⟩
  · exact .inl ⟨e, hf a (by rw [e2]; exact List.mem_cons_self), e2⟩
  · exact .inr ⟨e, (fun z => (hM a z).elim h (fun q => by rw [ha] at q; cases q)), e2, e3⟩
theorem Ow.sub {m : Bool} {a b : Addr} {f g : List Addr} (w : Ow m M a f g) (h : b ∈ g) : b ∈ f := by
  rcases w with ⟨_, _, e2⟩ | ⟨_, _, e2, e3⟩
  · rw [e2]; exact List.mem_cons_of_mem _ h
  · rw [e3] at h; cases h
theorem Ow.self {m : Bool} {a : Addr} {f g : List Addr} (w : Ow m M a f g) (h : M a) : a ∈ f := by
  rcases w with ⟨_, _, e2⟩ | ⟨_, n, _, _⟩
  · rw [e2]; exact List.mem_cons_self
  · exact absurd h n
theorem Ow.frz {m : Bool} {a : Addr} {f g : List Addr} {o : HO} (w : Ow m M a f g) (ha : H a = some o) (hM : ∀ a, M' a → (M a ∧ a ∉ f) ∨ H a = none) : Ow false M' a [] [] :=
  .inr ⟨rfl, (fun z => (hM a z).elim (fun q => q.2 (w.self q.1)) (fun q => by rw [ha] at q; cases q)), rfl, rfl⟩
mutual
theorem dat_tr : ∀ {d : D} {v : V} {f : List Addr}, Dat K cl M H d v f → (∀ a, M' a → M a ∨ H a = none) → (∀ a ∈ f, M' a) → (∀ a o, H a = some o → (M a → a ∈ f) → H' a = some o) → Dat K cl M' H' d v f
  | .non, _, _, h, _, _, _ => h
  | .bl _, _, _, h, _, _, _ => h
  | .int _, _, _, h, _, _, _ => h
  | .str _, _, _, h, _, _, _ => h
  | .ty _, _, _, h, _, _, _ => h
  | .cl _, _, _, h, _, _, _ => h
  | .at _, _, _, h, _, _, _ => h
  | .scr ns, v, f, h, hM, hf, hH => by
    obtain ⟨e, a, e2, s⟩ := h
    refine ⟨e, a, e2, ?_⟩
    rcases s with ⟨s, n⟩ | s
    · have ha : ∃ o, H a = some o := s.elim (fun z => ⟨_, z⟩) fun ⟨o, z⟩ => ⟨_, z⟩
      obtain ⟨o, ha⟩ := ha
      refine .inl ⟨?_, fun z => (hM a z).elim n fun q => by rw [ha] at q; cases q⟩
      rcases s with s | ⟨o, s⟩
      · exact .inl (hH a _ s fun z => absurd z n)
      · exact .inr ⟨o, hH a _ s fun z => absurd z n⟩
    · exact .inr s
  | .tup ds, v, f, h, hM, hf, hH => by
    obtain ⟨a, vs, e, t, hd⟩ := h
    refine ⟨a, vs, e, ?_, dats_tr hd hM hf hH⟩
    rcases t with ⟨its, t, n⟩ | t
    · exact .inl ⟨its, hH a _ t fun z => absurd z n, fun z => (hM a z).elim n fun q => by rw [t] at q; cases q⟩
    · exact .inr t
  | .pr ds, v, f, h, hM, hf, hH => by
    obtain ⟨a, vs, e, ⟨t, n⟩, hd⟩ := h
    exact ⟨a, vs, e, ⟨hH a _ t fun z => absurd z n, fun z => (hM a z).elim n fun q => by rw [t] at q; cases q⟩, dats_tr hd hM hf hH⟩
  | .dtt ks ds, v, f, h, hM, hf, hH => by
    obtain ⟨a, vs, xs, e, ⟨t, n⟩, ⟨k1, k2, k3⟩, hd⟩ := h
    refine ⟨a, vs, xs, e, ⟨hH a _ t fun z => absurd z n, fun z => (hM a z).elim n fun q => by rw [t] at q; cases q⟩, ⟨k1, fun x hx => ?_, k3⟩, dats_tr hd hM hf hH⟩
    rcases k2 x hx with ⟨its, t, n⟩ | t
    · exact .inl ⟨its, hH _ _ t fun z => absurd z n, fun z => (hM _ z).elim n fun q => by rw [t] at q; cases q⟩
    · exact .inr t
  | .lst m ds, v, f, h, hM, hf, hH => by
    obtain ⟨a, vs, g, e, t, hd, w⟩ := h
    exact ⟨a, vs, g, e, hH a _ t w.self, dats_tr hd hM (fun b hb => hf b (w.sub hb)) (fun b o q z => hH b o q fun r => w.sub (z r)), w.tr t hM hf⟩
  | .obj m c ns ds, v, f, h, hM, hf, hH => by
    obtain ⟨a, dx, vs, g, e, t, l, hd, w⟩ := h
    exact ⟨a, dx, vs, g, e, hH a _ t w.self, l, dats_tr hd hM (fun b hb => hf b (w.sub hb)) (fun b o q z => hH b o q fun r => w.sub (z r)), w.tr t hM hf⟩
  | .dct m ks ds, v, f, h, hM, hf, hH => by
    obtain ⟨a, vs, g, e, t, l, hd, w⟩ := h
    exact ⟨a, vs, g, e, hH a _ t w.self, l, dats_tr hd hM (fun b hb => hf b (w.sub hb)) (fun b o q z => hH b o q fun r => w.sub (z r)), w.tr t hM hf⟩
  | .dcd m ks ds, v, f, h, hM, hf, hH => by
    obtain ⟨a, vs, es, g, e, t, l, hk, hd, w⟩ := h
    exact ⟨a, vs, es, g, e, hH a _ t w.self, l, dats_tr hk hM (fun b hb => nomatch hb) (fun b o q z => hH b o q fun r => nomatch z r), dats_tr hd hM (fun b hb => hf b (w.sub hb)) (fun b o q z => hH b o q fun r => w.sub (z r)), w.tr t hM hf⟩
  | .ex a d c ns ds, v, f, h, hM, hf, hH => by
    obtain ⟨vs, e, ⟨l, k⟩, hd⟩ := h
    refine ⟨vs, e, ⟨l, k.imp id fun ⟨t, n⟩ => ⟨hH d _ t fun z => absurd z n, fun z => (hM d z).elim n fun q => by rw [t] at q; cases q⟩⟩, dats_tr hd hM hf hH⟩
  | .wlk m o ks ds, v, f, h, hM, hf, hH => by
    obtain ⟨a, vs, g, e, t, l, hd, w⟩ := h
    exact ⟨a, vs, g, e, hH a _ t w.self, l, dats_tr hd hM (fun b hb => hf b (w.sub hb)) (fun b o q z => hH b o q fun r => w.sub (z r)), w.tr t hM hf⟩
theorem dats_tr : ∀ {ds : List D} {vs : List V} {f : List Addr}, Dats K cl M H ds vs f → (∀ a, M' a → M a ∨ H a = none) → (∀ a ∈ f, M' a) → (∀ a o, H a = some o → (M a → a ∈ f) → H' a = some o) → Dats K cl M' H' ds vs f
  | [], _, _, h, _, _, _ => h
  | d :: ds, vs, f, h, hM, hf, hH => by
    obtain ⟨v, vs', f1, f2, e1, e2, h1, h2⟩ := h
    subst e2
    exact ⟨v, vs', f1, f2, e1, rfl, dat_tr h1 hM (fun b hb => hf b (List.mem_append_left _ hb)) (fun b o q z => hH b o q fun r => List.mem_append_left _ (z r)),
      dats_tr h2 hM (fun b hb => hf b (List.mem_append_right _ hb)) (fun b o q z => hH b o q fun r => List.mem_append_right _ (z r))⟩
end
end
end Tw
namespace Tw
open PySem PySem.Spec PyProof.Rows L2
section
variable {K : PySem.W.Frag} {cl : Cl} {M M' : Addr → Prop} {H H' : Hp}
mutual
theorem dat_ok : ∀ {d : D} {v : V} {f : List Addr}, Dat K cl M H d v f → D.ok d = true → f = []
  | .non, _, _, h, _ => h.2 | .bl _, _, _, h, _ => h.2 | .int _, _, _, h, _ => h.2 | .str _, _, _, h, _ => h.2 | .ty _, _, _, h, _ => h.2 | .cl _, _, _, h, _ => h.2
  | .scr _, _, _, h, _ => h.1
  | .at _, _, _, h, _ => h.2
  | .tup ds, _, _, h, e => by
    obtain ⟨_, _, _, _, hd⟩ := h
    exact dats_ok hd e
  | .pr ds, _, _, h, e => by
    obtain ⟨_, _, _, _, hd⟩ := h
    exact dats_ok hd e
  | .dtt _ ds, _, _, h, e => by
    obtain ⟨_, _, _, _, _, _, hd⟩ := h
    exact dats_ok hd e
  | .lst m ds, _, _, h, e => by
    obtain ⟨_, _, _, _, _, _, w⟩ := h
    rcases w with ⟨q, _⟩ | ⟨_, _, q, _⟩
    · subst q; simp [D.ok] at e
    · exact q
  | .obj m _ _ ds, _, _, h, e => by
    obtain ⟨_, _, _, _, _, _, _, _, w⟩ := h
    rcases w with ⟨q, _⟩ | ⟨_, _, q, _⟩
    · subst q; simp [D.ok] at e
    · exact q
  | .dct m _ ds, _, _, h, e => by
    obtain ⟨_, _, _, _, _, _, _, w⟩ := h
    rcases w with ⟨q, _⟩ | ⟨_, _, q, _⟩
    · subst q; simp [D.ok] at e
    · exact q
  | .dcd m _ ds, _, _, h, e => by
    obtain ⟨_, _, _, _, _, _, _, _, _, w⟩ := h
    rcases w with ⟨q, _⟩ | ⟨_, _, q, _⟩
    · subst q; simp [D.ok] at e
    · exact q
  | .ex _ _ _ _ ds, _, _, h, e => by
    obtain ⟨_, _, _, hd⟩ := h
    exact dats_ok hd e
  | .wlk m _ _ ds, _, _, h, e => by
    obtain ⟨_, _, _, _, _, _, _, w⟩ := h
    rcases w with ⟨q, _⟩ | ⟨_, _, q, _⟩
    · subst q; simp [D.ok] at e
    · exact q
theorem dats_ok : ∀ {ds : List D} {vs : List V} {f : List Addr}, Dats K cl M H ds vs f → D.oks ds = true → f = []
  | [], _, _, h, _ => h.2
  | d :: ds, _, _, h, e => by
    obtain ⟨_, _, f1, f2, _, e2, h1, h2⟩ := h
    simp [D.oks] at e
    rw [e2, dat_ok h1 e.1, dats_ok h2 e.2]
    rfl
end
mutual
theorem dat_frz : ∀ {d : D} {v : V} {f : List Addr}, Dat K cl M H d v f → (∀ a, M' a → (M a ∧ a ∉ f) ∨ H a = none) → Dat K cl M' H (D.frz d) v []
  | .non, _, _, h, _ => ⟨h.1, rfl⟩ | .bl _, _, _, h, _ => ⟨h.1, rfl⟩ | .int _, _, _, h, _ => ⟨h.1, rfl⟩ | .str _, _, _, h, _ => ⟨h.1, rfl⟩ | .ty _, _, _, h, _ => ⟨h.1, rfl⟩ | .cl _, _, _, h, _ => ⟨h.1, rfl⟩
  | .at _, _, _, h, _ => ⟨h.1, rfl⟩
  | .scr ns, v, f, h, hM => by
    have q := dat_tr (M' := fun a => M' a ∧ M a) (H' := H) h (fun a z => .inl z.2) (by rw [h.1]; intro a z; cases z) (fun _ _ z _ => z)
    obtain ⟨e, a, e2, s⟩ := h
    refine ⟨rfl, a, e2, ?_⟩
    rcases s with ⟨s, n⟩ | s
    · refine .inl ⟨s, fun z => (hM a z).elim (fun q => n q.1) fun q => ?_⟩
      rcases s with s | ⟨o, s⟩ <;> (rw [s] at q; cases q)
    · exact .inr s
  | .tup ds, v, f, h, hM => by
    obtain ⟨a, vs, e, t, hd⟩ := h
    refine ⟨a, vs, e, ?_, dats_frz hd hM⟩
    rcases t with ⟨its, t, n⟩ | t
    · exact .inl ⟨its, t, fun z => (hM a z).elim (fun q => n q.1) fun q => by rw [t] at q; cases q⟩
    · exact .inr t
  | .pr ds, v, f, h, hM => by
    obtain ⟨a, vs, e, ⟨t, n⟩, hd⟩ := h
    exact ⟨a, vs, e, ⟨t, fun z => (hM a z).elim (fun q => n q.1) fun q => by rw [t] at q; cases q⟩, dats_frz hd hM⟩
  | .dtt ks ds, v, f, h, hM => by
    obtain ⟨a, vs, xs, e, ⟨t, n⟩, ⟨k1, k2, k3⟩, hd⟩ := h
    refine ⟨a, vs, xs, e, ⟨t, fun z => (hM a z).elim (fun q => n q.1) fun q => by rw [t] at q; cases q⟩, ⟨k1, fun x hx => ?_, k3⟩, dats_frz hd hM⟩
    rcases k2 x hx with ⟨its, t, n⟩ | t
    · exact .inl ⟨its, t, fun z => (hM _ z).elim (fun q => n q.1) fun q => by rw [t] at q; cases q⟩
    · exact .inr t
  | .lst m ds, v, f, h, hM => by
    obtain ⟨a, vs, g, e, t, hd, w⟩ := h
    exact ⟨a, vs, [], e, t, dats_frz hd (fun b z => (hM b z).imp (fun q => ⟨q.1, fun r => q.2 (w.sub r)⟩) id), w.frz t hM⟩
  | .obj m c ns ds, v, f, h, hM => by
    obtain ⟨a, dx, vs, g, e, t, l, hd, w⟩ := h
    exact ⟨a, dx, vs, [], e, t, l, dats_frz hd (fun b z => (hM b z).imp (fun q => ⟨q.1, fun r => q.2 (w.sub r)⟩) id), w.frz t hM⟩
  | .dct m ks ds, v, f, h, hM => by
    obtain ⟨a, vs, g, e, t, l, hd, w⟩ := h
    exact ⟨a, vs, [], e, t, l, dats_frz hd (fun b z => (hM b z).imp (fun q => ⟨q.1, fun r => q.2 (w.sub r)⟩) id), w.frz t hM⟩
  | .dcd m ks ds, v, f, h, hM => by
    obtain ⟨a, vs, es, g, e, t, l, hk, hd, w⟩ := h
    refine ⟨a, vs, es, [], e, t, l, ?_, dats_frz hd (fun b z => (hM b z).imp (fun q => ⟨q.1, fun r => q.2 (w.sub r)⟩) id), w.frz t hM⟩
    have q : Dats K cl M' H (D.frzs ks) (es.2.map fun e => V.ref e.2.1) [] := dats_frz hk (fun b z => (hM b z).imp (fun q => ⟨q.1, fun r => nomatch r⟩) id)
    rwa [keys_frz l.1] at q
  | .ex a d c ns ds, v, f, h, hM => by
    obtain ⟨vs, e, ⟨l, k⟩, hd⟩ := h
    exact ⟨vs, e, ⟨l, k.imp id fun ⟨t, n⟩ => ⟨t, fun z => (hM d z).elim (fun q => n q.1) fun q => by rw [t] at q; cases q⟩⟩, dats_frz hd hM⟩
  | .wlk m o ks ds, v, f, h, hM => by
    obtain ⟨a, vs, g, e, t, l, hd, w⟩ := h
    exact ⟨a, vs, [], e, t, l, dats_frz hd (fun b z => (hM b z).imp (fun q => ⟨q.1, fun r => q.2 (w.sub r)⟩) id), w.frz t hM⟩
theorem dats_frz : ∀ {ds : List D} {vs : List V} {f : List Addr}, Dats K cl M H ds vs f → (∀ a, M' a → (M a ∧ a ∉ f) ∨ H a = none) → Dats K cl M' H (D.frzs ds) vs []
  | [], _, _, h, _ => ⟨h.1, rfl⟩
  | d :: ds, vs, f, h, hM => by
    obtain ⟨v, vs', f1, f2, e1, e2, h1, h2⟩ := h
    subst e2
    exact ⟨v, vs', [], [], e1, rfl, dat_frz h1 (fun b z => (hM b z).imp (fun q => ⟨q.1, fun r => q.2 (List.mem_append_left _ r)⟩) id),
      dats_frz h2 (fun b z => (hM b z).imp (fun q => ⟨q.1, fun r => q.2 (List.mem_append_right _ r)⟩) id)⟩
end
mutual
/-- every place that may still be changed stands in the heap, and is such -/
theorem dat_in : ∀ {d : D} {v : V} {f : List Addr}, Dat K cl M H d v f → ∀ a ∈ f, M a ∧ ∃ o, H a = some o
  | .non, _, _, h => by rw [h.2]; intro a z; cases z
  | .bl _, _, _, h => by rw [h.2]; intro a z; cases z
  | .int _, _, _, h => by rw [h.2]; intro a z; cases z
  | .str _, _, _, h => by rw [h.2]; intro a z; cases z
  | .ty _, _, _, h => by rw [h.2]; intro a z; cases z
  | .cl _, _, _, h => by rw [h.2]; intro a z; cases z
  | .scr _, _, _, h => by rw [h.1]; intro a z; cases z
  | .at _, _, _, h => by rw [h.2]; intro a z; cases z
  | .tup ds, _, _, h => by
    obtain ⟨_, _, _, _, hd⟩ := h
    exact dats_in hd
  | .pr ds, _, _, h => by
    obtain ⟨_, _, _, _, hd⟩ := h
    exact dats_in hd
  | .dtt _ ds, _, _, h => by
    obtain ⟨_, _, _, _, _, _, hd⟩ := h
    exact dats_in hd
  | .lst m ds, _, _, h => by
    obtain ⟨a, _, g, _, t, hd, w⟩ := h
    rcases w with ⟨_, q, e⟩ | ⟨_, _, e, _⟩
    · subst e
      intro b z
      rcases List.mem_cons.mp z with z | z
      · rw [z]; exact ⟨q, _, t⟩
      · exact dats_in hd b z
    · rw [e]; intro a z; cases z
  | .obj m _ _ ds, _, _, h => by
    obtain ⟨a, _, _, g, _, t, _, hd, w⟩ := h
    rcases w with ⟨_, q, e⟩ | ⟨_, _, e, _⟩
    · subst e
      intro b z
      rcases List.mem_cons.mp z with z | z
      · rw [z]; exact ⟨q, _, t⟩
      · exact dats_in hd b z
    · rw [e]; intro a z; cases z
  | .dct m _ ds, _, _, h => by
    obtain ⟨a, _, g, _, t, _, hd, w⟩ := h
    rcases w with ⟨_, q, e⟩ | ⟨_, _, e, _⟩
    · subst e
      intro b z
      rcases List.mem_cons.mp z with z | z
      · rw [z]; exact ⟨q, _, t⟩
      · exact dats_in hd b z
    · rw [e]; intro a z; cases z
  | .dcd m _ ds, _, _, h => by
    obtain ⟨a, _, _, g, _, t, _, _, hd, w⟩ := h
    rcases w with ⟨_, q, e⟩ | ⟨_, _, e, _⟩
    · subst e
      intro b z
      rcases List.mem_cons.mp z with z | z
      · rw [z]; exact ⟨q, _, t⟩
      · exact dats_in hd b z
    · rw [e]; intro a z; cases z
  | .ex _ _ _ _ ds, _, _, h => by
    obtain ⟨_, _, _, hd⟩ := h
    exact dats_in hd
  | .wlk m _ _ ds, _, _, h => by
    obtain ⟨a, _, g, _, t, _, hd, w⟩ := h
    rcases w with ⟨_, q, e⟩ | ⟨_, _, e, _⟩
    · subst e
      intro b z
      rcases List.mem_cons.mp z with z | z
      · rw [z]; exact ⟨q, _, t⟩
      · exact dats_in hd b z
    · rw [e]; intro a z; cases z
theorem dats_in : ∀ {ds : List D} {vs : List V} {f : List Addr}, Dats K cl M H ds vs f → ∀ a ∈ f, M a ∧ ∃ o, H a = some o
  | [], _, _, h => by rw [h.2]; intro a z; cases z
  | d :: ds, _, _, h => by
    obtain ⟨_, _, f1, f2, _, e2, h1, h2⟩ := h
    subst e2
    intro a z
    rcases List.mem_append.mp z with z | z
    · exact dat_in h1 a z
    · exact dats_in h2 a z
end
theorem dats_length : ∀ {ds : List D} {vs : List V} {f : List Addr}, Dats K cl M H ds vs f → vs.length = ds.length
  | [], _, _, h => by rw [h.1]; rfl
  | d :: ds, _, _, h => by
    obtain ⟨_, _, f1, f2, e1, _, _, h2⟩ := h
    rw [e1, List.length_cons, List.length_cons, dats_length h2]
/-- one of some things none of which may be changed -/
theorem dats_get : ∀ {ds : List D} {vs : List V} {i : Nat} {d : D}, Dats K cl M H ds vs [] → ds[i]? = some d → ∃ v, vs[i]? = some v ∧ Dat K cl M H d v []
  | [], _, _, _, _, e => by simp at e
  | d :: ds, _, i, x, h, e => by
    obtain ⟨v, vs', f1, f2, e1, e2, h1, h2⟩ := h
    obtain ⟨rfl, rfl⟩ := List.append_eq_nil_iff.mp e2.symm
    subst e1
    cases i with
    | zero => cases e; exact ⟨v, rfl, h1⟩
    | succ i =>
      obtain ⟨w, q1, q2⟩ := dats_get (i := i) (d := x) h2 (by simpa using e)
      exact ⟨w, by simpa using q1, q2⟩
theorem dats_nil_append : ∀ {ds es : List D} {vs us : List V}, Dats K cl M H ds vs [] → Dats K cl M H es us [] → Dats K cl M H (ds ++ es) (vs ++ us) []
  | [], _, _, _, h, q => by rw [h.1]; exact q
  | d :: ds, es, _, us, h, q => by
    obtain ⟨v, vs', f1, f2, e1, e2, h1, h2⟩ := h
    obtain ⟨rfl, rfl⟩ := List.append_eq_nil_iff.mp e2.symm
    subst e1
    exact ⟨v, vs' ++ us, [], [], rfl, rfl, h1, dats_nil_append h2 q⟩
theorem dats_append : ∀ {ds es : List D} {vs us : List V} {f g : List Addr}, Dats K cl M H ds vs f → Dats K cl M H es us g → Dats K cl M H (ds ++ es) (vs ++ us) (f ++ g)
  | [], _, _, _, _, _, h, q => by rw [h.1, h.2]; exact q
  | d :: ds, es, _, us, _, g, h, q => by
    obtain ⟨v, vs', f1, f2, e1, e2, h1, h2⟩ := h
    subst e1; subst e2
    exact ⟨v, vs' ++ us, f1, f2 ++ g, rfl, by rw [List.append_assoc], h1, dats_append h2 q⟩
theorem dats_take : ∀ {ds : List D} {vs : List V} (n : Nat), Dats K cl M H ds vs [] → Dats K cl M H (ds.take n) (vs.take n) []
  | _, _, 0, _ => ⟨rfl, rfl⟩
  | [], _, n + 1, h => by rw [h.1]; exact ⟨rfl, rfl⟩
  | d :: ds, _, n + 1, h => by
    obtain ⟨v, vs', f1, f2, e1, e2, h1, h2⟩ := h
    obtain ⟨rfl, rfl⟩ := List.append_eq_nil_iff.mp e2.symm
    subst e1
    exact ⟨v, vs'.take n, [], [], rfl, rfl, h1, dats_take n h2⟩
theorem dats_drop : ∀ {ds : List D} {vs : List V} (n : Nat), Dats K cl M H ds vs [] → Dats K cl M H (ds.drop n) (vs.drop n) []
  | _, _, 0, h => h
  | [], _, n + 1, h => by rw [h.1]; exact ⟨rfl, rfl⟩
  | d :: ds, _, n + 1, h => by
    obtain ⟨v, vs', f1, f2, e1, e2, h1, h2⟩ := h
    obtain ⟨rfl, rfl⟩ := List.append_eq_nil_iff.mp e2.symm
    subst e1
    exact dats_drop n h2
end

/-! ## the stack: slots of frames and things held meanwhile -/
/-- the tables of code objects stand, and none of them may be changed as data -/
def Tb (T : List (Addr × Str)) (M : Addr → Prop) (H : Hp) : Prop := ∀ p ∈ T, ¬ M p.1 ∧ ∃ ps : Array Value, H p.1 = some (.tbl ps) ∧ TriplesOk ps.toList ∧ ∀ (pos : Pos) (cv : Value), codeAmong pos ps.toList = some cv → ∃ c, cv = .ref c ∧ H c = some (LamX.CodeO c p.2) ∧ ¬ M c
theorem Tb.tr {T : List (Addr × Str)} {M M' : Addr → Prop} {H H' : Hp} (t : Tb T M H) (hM : ∀ a, M' a → M a ∨ H a = none) (hH : ∀ a o, H a = some o → ¬ M a → H' a = some o) : Tb T M' H' := fun p hp => by
  obtain ⟨h1, ps, h2, h3, h4⟩ := t p hp
  have no : ∀ {a o}, H a = some o → ¬ M a → ¬ M' a := fun {a o} e n z => (hM a z).elim n fun q => by rw [e] at q; cases q
  refine ⟨no h2 h1, ps, hH _ _ h2 h1, h3, fun pos cv hc => ?_⟩
  obtain ⟨c, e1, e2, e3⟩ := h4 pos cv hc
  exact ⟨c, e1, hH _ _ e2 e3, no e2 e3⟩
def Slots (K : PySem.W.Frag) (cl : Cl) (M : Addr → Prop) (H : Hp) : Env → L2.St → List Addr → Prop
  | [], xs, f => (xs = [] ∧ f = []) ∧ Tb cl.T M H
  | none :: ds, xs, f => ∃ x xs', xs = x :: xs' ∧ Slots K cl M H ds xs' f
  | some d :: ds, xs, f => ∃ v xs' f1 f2, xs = some v :: xs' ∧ f = f1 ++ f2 ∧ Dat K cl M H d v f1 ∧ Slots K cl M H ds xs' f2
def Rel (K : PySem.W.Frag) (cl : Cl) (H : Hp) (ds : Env) (xs : L2.St) : Prop := ∃ f, f.Nodup ∧ Slots K cl (· ∈ f) H ds xs f
section
variable {K : PySem.W.Frag} {cl : Cl} {M M' : Addr → Prop} {H H' : Hp}
theorem slots_len : ∀ {ds : Env} {xs : L2.St} {f : List Addr}, Slots K cl M H ds xs f → xs.length = ds.length
  | [], _, _, h => by rw [h.1.1]; rfl
  | none :: ds, _, _, h => by
    obtain ⟨x, xs', e, h⟩ := h
    rw [e, List.length_cons, List.length_cons, slots_len h]
  | some d :: ds, _, _, h => by
    obtain ⟨v, xs', f1, f2, e, _, _, h⟩ := h
    rw [e, List.length_cons, List.length_cons, slots_len h]
theorem Rel.len {ds : Env} {xs : L2.St} (h : Rel K cl H ds xs) : xs.length = ds.length := by
  obtain ⟨f, _, h⟩ := h
  exact slots_len h
theorem slots_tr : ∀ {ds : Env} {xs : L2.St} {f : List Addr}, Slots K cl M H ds xs f → (∀ a, M' a → M a ∨ H a = none) → (∀ a ∈ f, M' a) → (∀ a o, H a = some o → (M a → a ∈ f) → H' a = some o) → Slots K cl M' H' ds xs f
  | [], _, _, h, hM, _, hH => by
    obtain ⟨⟨rfl, rfl⟩, t⟩ := h
    exact ⟨⟨rfl, rfl⟩, t.tr hM fun a o e n => hH a o e fun z => absurd z n⟩
  | none :: ds, _, _, h, hM, hf, hH => by
    obtain ⟨x, xs', e, h⟩ := h
    exact ⟨x, xs', e, slots_tr h hM hf hH⟩
  | some d :: ds, _, _, h, hM, hf, hH => by
    obtain ⟨v, xs', f1, f2, e, e2, h1, h2⟩ := h
    subst e2
    exact ⟨v, xs', f1, f2, e, rfl, dat_tr h1 hM (fun b hb => hf b (List.mem_append_left _ hb)) (fun b o q z => hH b o q fun r => List.mem_append_left _ (z r)),
      slots_tr h2 hM (fun b hb => hf b (List.mem_append_right _ hb)) (fun b o q z => hH b o q fun r => List.mem_append_right _ (z r))⟩
theorem slots_in : ∀ {ds : Env} {xs : L2.St} {f : List Addr}, Slots K cl M H ds xs f → ∀ a ∈ f, M a ∧ ∃ o, H a = some o
  | [], _, _, h => by rw [h.1.2]; intro a z; cases z
  | none :: ds, _, _, h => by
    obtain ⟨x, xs', e, h⟩ := h
    exact slots_in h
  | some d :: ds, _, _, h => by
    obtain ⟨v, xs', f1, f2, e, e2, h1, h2⟩ := h
    subst e2
    intro a z
    rcases List.mem_append.mp z with z | z
    · exact dat_in h1 a z
    · exact slots_in h2 a z
/-- the heap only grows -/
theorem Rel.same {ds : Env} {xs : L2.St} (h : Rel K cl H ds xs) (s : Same H H') : Rel K cl H' ds xs := by
  obtain ⟨f, n, h⟩ := h
  exact ⟨f, n, slots_tr h (fun a z => .inl z) (fun a z => z) fun a o q _ => s a o q⟩
theorem same_upd {p : Addr} {o : HO} (h : H p = none) : Same H (upd H p o) := fun b x e => by
  rw [upd_ne (ne_of_none e h)]
  exact e
/-- split at a place -/
theorem slots_at : ∀ {ds : Env} {xs : L2.St} {f : List Addr} {i : Nat} {d : D}, Slots K cl M H ds xs f → ds[i]? = some (some d) →
    ∃ v f1 g f2, xs[i]? = some (some v) ∧ f = f1 ++ (g ++ f2) ∧ Dat K cl M H d v g ∧ Slots K cl M H (ds.set i none) xs (f1 ++ f2)
  | [], _, _, _, _, _, e => by simp at e
  | none :: ds, _, f, 0, d, h, e => by simp at e
  | none :: ds, _, f, i + 1, d, h, e => by
    obtain ⟨x, xs', e1, h⟩ := h
    subst e1
    obtain ⟨v, f1, g, f2, q1, q2, q3, q4⟩ := slots_at (i := i) (d := d) h (by simpa using e)
    exact ⟨v, f1, g, f2, by simpa using q1, q2, q3, x, xs', rfl, q4⟩
  | some c :: ds, _, f, 0, d, h, e => by
    obtain ⟨v, xs', f1, f2, e1, e2, h1, h2⟩ := h
    cases e
    subst e1
    exact ⟨v, [], f1, f2, rfl, e2, h1, some v, xs', rfl, h2⟩
  | some c :: ds, _, f, i + 1, d, h, e => by
    obtain ⟨v, xs', f1, f2, e1, e2, h1, h2⟩ := h
    subst e1; subst e2
    obtain ⟨v', g1, g, g2, q1, q2, q3, q4⟩ := slots_at (i := i) (d := d) h2 (by simpa using e)
    exact ⟨v', f1 ++ g1, g, g2, by simpa using q1, by rw [q2, List.append_assoc], q3, v, xs', f1, g1 ++ g2, rfl, by rw [List.append_assoc], h1, q4⟩
/-- put at a place -/
theorem slots_put : ∀ {ds : Env} {xs : L2.St} {f g : List Addr} {i : Nat} {d : D} {v : V}, Slots K cl M H ds xs f → i < ds.length → Dat K cl M H d v g →
    ∃ f1 f2 k, f.Perm (f1 ++ (k ++ f2)) ∧ Slots K cl M H (ds.set i (some d)) (xs.set i (some v)) (f1 ++ (g ++ f2))
  | [], _, _, _, _, _, _, _, l, _ => absurd l (by simp)
  | none :: ds, _, f, g, 0, d, v, h, l, hd => by
    obtain ⟨x, xs', e1, h⟩ := h
    subst e1
    exact ⟨[], f, [], .refl _, v, xs', g, f, rfl, rfl, hd, h⟩
  | some c :: ds, _, f, g, 0, d, v, h, l, hd => by
    obtain ⟨x, xs', f1, f2, e1, e2, h1, h2⟩ := h
    subst e1; subst e2
    exact ⟨[], f2, f1, .refl _, v, xs', g, f2, rfl, rfl, hd, h2⟩
  | none :: ds, _, f, g, i + 1, d, v, h, l, hd => by
    obtain ⟨x, xs', e1, h⟩ := h
    subst e1
    obtain ⟨f1, f2, k, p, q⟩ := slots_put (i := i) h (by simpa using l) hd
    exact ⟨f1, f2, k, p, x, xs'.set i (some v), rfl, q⟩
  | some c :: ds, _, f, g, i + 1, d, v, h, l, hd => by
    obtain ⟨x, xs', f1, f2, e1, e2, h1, h2⟩ := h
    subst e1; subst e2
    obtain ⟨g1, g2, k, p, q⟩ := slots_put (i := i) h2 (by simpa using l) hd
    refine ⟨f1 ++ g1, g2, k, ?_, x, xs'.set i (some v), f1, g1 ++ (g ++ g2), rfl, by rw [List.append_assoc], h1, q⟩
    rw [List.append_assoc]
    exact List.Perm.append_left f1 p
theorem slots_app : ∀ {ds es : Env} {xs ys : L2.St} {f g : List Addr}, Slots K cl M H ds xs f → Slots K cl M H es ys g → Slots K cl M H (ds ++ es) (xs ++ ys) (f ++ g)
  | [], _, _, _, _, _, h, q => by rw [h.1.1, h.1.2]; exact q
  | none :: ds, _, _, _, _, _, h, q => by
    obtain ⟨x, xs', e1, h⟩ := h
    subst e1
    exact ⟨x, _, rfl, slots_app h q⟩
  | some c :: ds, _, _, _, _, _, h, q => by
    obtain ⟨x, xs', f1, f2, e1, e2, h1, h2⟩ := h
    subst e1; subst e2
    exact ⟨x, _, f1, _, rfl, by rw [List.append_assoc], h1, slots_app h2 q⟩
theorem slots_tb : ∀ {ds : Env} {xs : L2.St} {f : List Addr}, Slots K cl M H ds xs f → Tb cl.T M H
  | [], _, _, h => h.2
  | none :: ds, _, _, h => by
    obtain ⟨x, xs', e, h⟩ := h
    exact slots_tb h
  | some d :: ds, _, _, h => by
    obtain ⟨v, xs', f1, f2, e, e2, h1, h2⟩ := h
    exact slots_tb h2
theorem slots_split : ∀ {ds es : Env} {zs : L2.St} {f : List Addr}, Slots K cl M H (ds ++ es) zs f → ∃ xs ys g k, zs = xs ++ ys ∧ f = g ++ k ∧ xs.length = ds.length ∧ Slots K cl M H ds xs g ∧ Slots K cl M H es ys k
  | [], es, zs, f, h => ⟨[], zs, [], f, rfl, rfl, rfl, ⟨⟨rfl, rfl⟩, slots_tb h⟩, h⟩
  | none :: ds, es, zs, f, h => by
    obtain ⟨x, xs', e1, h⟩ := h
    subst e1
    obtain ⟨xs, ys, g, k, e2, e3, l, h1, h2⟩ := slots_split h
    subst e2
    exact ⟨x :: xs, ys, g, k, rfl, e3, by simp [l], ⟨x, xs, rfl, h1⟩, h2⟩
  | some c :: ds, es, zs, f, h => by
    obtain ⟨x, xs', f1, f2, e1, e2, h1, h⟩ := h
    subst e1; subst e2
    obtain ⟨xs, ys, g, k, e2, e3, l, h2, h3⟩ := slots_split h
    subst e2; subst e3
    exact ⟨some x :: xs, ys, f1 ++ g, k, rfl, by rw [List.append_assoc], by simp [l], ⟨x, xs, f1, g, rfl, rfl, h1, h2⟩, h3⟩
/-- the same stack, its places counted in another order -/
theorem Rel.of_perm {ds : Env} {xs : L2.St} {f g : List Addr} (h : Slots K cl (· ∈ f) H ds xs g) (n : f.Nodup) (p : f.Perm g) : Rel K cl H ds xs :=
  ⟨g, p.nodup_iff.mp n, slots_tr h (fun a z => .inl (p.mem_iff.mpr z)) (fun a z => z) fun a o q _ => q⟩
/-- some of the places are let go -/
theorem Rel.of_sub {ds : Env} {xs : L2.St} {f g : List Addr} (h : Slots K cl (· ∈ f) H ds xs g) (n : g.Nodup) (p : ∀ a ∈ g, a ∈ f) : Rel K cl H ds xs :=
  ⟨g, n, slots_tr h (fun a z => .inl (p a z)) (fun a z => z) fun a o q _ => q⟩
theorem Rel.swap {A B : Env} {X Y : L2.St} (h : Rel K cl H (A ++ B) (X ++ Y)) (l : X.length = A.length) : Rel K cl H (B ++ A) (Y ++ X) := by
  obtain ⟨f, n, h⟩ := h
  obtain ⟨X', Y', g, k, e, e2, l2, h1, h2⟩ := slots_split h
  obtain ⟨rfl, rfl⟩ := List.append_inj e (by omega)
  subst e2
  exact .of_perm (slots_app h2 h1) n List.perm_append_comm
theorem Rel.drop {A B : Env} {X Y : L2.St} (h : Rel K cl H (A ++ B) (X ++ Y)) (l : X.length = A.length) : Rel K cl H B Y := by
  obtain ⟨f, n, h⟩ := h
  obtain ⟨X', Y', g, k, e, e2, l2, h1, h2⟩ := slots_split h
  obtain ⟨rfl, rfl⟩ := List.append_inj e (by omega)
  subst e2
  exact .of_sub h2 (List.nodup_append.mp n).2.1 fun a z => List.mem_append_right _ z
theorem Rel.pop {d : Option D} {x : Option V} {B : Env} {Y : L2.St} (h : Rel K cl H (d :: B) (x :: Y)) : Rel K cl H B Y := Rel.drop (A := [d]) (X := [x]) h rfl
/-- a block moves over another, in front of a rest -/
theorem Rel.swap3 {A B C : Env} {X Y Z : L2.St} (h : Rel K cl H (A ++ (B ++ C)) (X ++ (Y ++ Z))) (l : X.length = A.length) (l2 : Y.length = B.length) : Rel K cl H (B ++ (A ++ C)) (Y ++ (X ++ Z)) := by
  obtain ⟨f, n, h⟩ := h
  obtain ⟨X', Y', g, k, e, e2, l3, h1, h2⟩ := slots_split h
  obtain ⟨rfl, rfl⟩ := List.append_inj e (by omega)
  obtain ⟨X', Y', g', k', e, e3, l4, h3, h4⟩ := slots_split h2
  obtain ⟨rfl, rfl⟩ := List.append_inj e (by omega)
  subst e2; subst e3
  refine .of_perm (slots_app h3 (slots_app h1 h4)) n ?_
  rw [← List.append_assoc, ← List.append_assoc]
  exact List.Perm.append_right _ List.perm_append_comm
/-- a thing that lies nowhere -/
theorem Rel.push {ds : Env} {xs : L2.St} {d : D} {v : V} (h : Rel K cl H ds xs) (q : ∀ M : Addr → Prop, Dat K cl M H d v []) : Rel K cl H (some d :: ds) (some v :: xs) := by
  obtain ⟨f, n, h⟩ := h
  exact ⟨f, n, v, xs, [], f, rfl, rfl, q _, h⟩
/-- take out of a place to the front -/
theorem Rel.take {ds : Env} {xs : L2.St} {i : Nat} {d : D} (h : Rel K cl H ds xs) (e : ds[i]? = some (some d)) : ∃ v, xs[i]? = some (some v) ∧ Rel K cl H (some d :: ds.set i none) (some v :: xs) := by
  obtain ⟨f, n, h⟩ := h
  obtain ⟨v, f1, g, f2, e1, e2, h1, h2⟩ := slots_at h e
  refine ⟨v, e1, .of_perm (g := g ++ (f1 ++ f2)) ⟨v, xs, g, f1 ++ f2, rfl, rfl, h1, h2⟩ n ?_⟩
  rw [e2, ← List.append_assoc, ← List.append_assoc]
  exact List.Perm.append_right _ List.perm_append_comm
/-- put from the front into a place -/
theorem Rel.put {ds : Env} {xs : L2.St} {i : Nat} {d : D} {v : V} (h : Rel K cl H (some d :: ds) (some v :: xs)) (l : i < ds.length) : Rel K cl H (ds.set i (some d)) (xs.set i (some v)) := by
  obtain ⟨f, n, h⟩ := h
  obtain ⟨v', xs', f1, f2, e1, e2, h1, h2⟩ := h
  cases e1
  obtain ⟨g1, g2, k, p, q⟩ := slots_put h2 l h1
  subst e2
  have p2 : (f1 ++ f2).Perm (k ++ (g1 ++ (f1 ++ g2))) := by
    refine (List.Perm.append_left f1 p).trans ?_
    refine List.Perm.trans ?_ (List.perm_append_comm_assoc g1 k (f1 ++ g2))
    refine (List.perm_append_comm_assoc f1 g1 (k ++ g2)).trans (List.Perm.append_left g1 ?_)
    exact List.perm_append_comm_assoc f1 k g2
  have n2 := (p2.nodup_iff.mp n)
  exact .of_sub q (List.nodup_append.mp n2).2.1 fun a z => p2.mem_iff.mpr (List.mem_append_right _ z)
theorem Rel.back {ds : Env} {xs : L2.St} {i : Nat} {d : D} {v : V} (h : Rel K cl H (some d :: ds) (some v :: xs)) (e : xs[i]? = some (some v)) : Rel K cl H (ds.set i (some d)) xs := by
  have l : i < ds.length := by
    have q := h.len
    have q2 := (List.getElem?_eq_some_iff.mp e).1
    simp only [List.length_cons] at q
    omega
  have q := h.put l
  have e2 : xs.set i (some v) = xs := by
    obtain ⟨hi, e⟩ := List.getElem?_eq_some_iff.mp e
    rw [← e]
    exact List.set_getElem_self hi
  rwa [e2] at q
/-- the front is frozen -/
theorem Rel.freeze {ds : Env} {xs : L2.St} {d : D} {v : V} (h : Rel K cl H (some d :: ds) (some v :: xs)) : Rel K cl H (some (D.frz d) :: ds) (some v :: xs) := by
  obtain ⟨f, n, h⟩ := h
  obtain ⟨v', xs', f1, f2, e1, e2, h1, h2⟩ := h
  cases e1
  subst e2
  have n3 := List.nodup_append.mp n
  refine ⟨f2, n3.2.1, v, xs, [], f2, rfl, rfl, dat_frz h1 fun a z => .inl ⟨List.mem_append_right _ z, fun q => n3.2.2 a q a z rfl⟩, ?_⟩
  exact slots_tr h2 (fun a z => .inl (List.mem_append_right _ z)) (fun a z => z) fun a o q _ => q
/-- what is frozen may be held twice -/
theorem Rel.dup {ds : Env} {xs : L2.St} {d : D} {v : V} (h : Rel K cl H (some d :: ds) (some v :: xs)) (o : D.ok d = true) : Rel K cl H (some d :: some d :: ds) (some v :: some v :: xs) := by
  obtain ⟨f, n, h⟩ := h
  obtain ⟨v', xs', f1, f2, e1, e2, h1, h2⟩ := h
  cases e1
  subst e2
  have e := dat_ok h1 o
  subst e
  exact ⟨_, n, v, _, [], _, rfl, rfl, h1, v, xs, [], f2, rfl, rfl, h1, h2⟩
/-- read a place as a value: it is frozen from then on -/
theorem Rel.read {ds : Env} {xs : L2.St} {i : Nat} {d : D} (h : Rel K cl H ds xs) (e : ds[i]? = some (some d)) : ∃ v, xs[i]? = some (some v) ∧ Rel K cl H (some (D.frz d) :: ds.set i (some (D.frz d))) (some v :: xs) := by
  obtain ⟨v, e1, q⟩ := h.take e
  refine ⟨v, e1, ?_⟩
  have q2 := (q.freeze.dup (D.ok_frz d))
  have q3 := Rel.back (i := i + 1) (ds := some (D.frz d) :: ds.set i none) (xs := some v :: xs) q2 (by simpa using e1)
  simpa using q3
/-- the front's description -/
theorem Rel.top {ds : Env} {xs : L2.St} {d : D} {x : Option V} (h : Rel K cl H (some d :: ds) (x :: xs)) : ∃ M v f, x = some v ∧ Dat K cl M H d v f := by
  obtain ⟨f, n, h⟩ := h
  obtain ⟨v', xs', f1, f2, e1, e2, h1, h2⟩ := h
  cases e1
  exact ⟨_, _, _, rfl, h1⟩
end
end Tw
namespace Tw
open PySem PySem.Spec PyProof.Rows L2
abbrev S := L2.St

inductive Rs (α : Type) where
  | ok (a : α) (env : Tw.Env) | exc (c : Nat) (ns : List Str) (ds : List D) (env : Tw.Env) | stuck
abbrev Ev := Tw.Env → Rs D
def Rs.bind {α β : Type} (r : Rs α) (k : α → Tw.Env → Rs β) : Rs β := match r with
  | .ok a e => k a e
  | .exc c ns ds e => .exc c ns ds e
  | .stuck => .stuck
@[simp] theorem Rs.bind_ok {α β : Type} (a : α) (e : Tw.Env) (k : α → Tw.Env → Rs β) : Rs.bind (.ok a e) k = k a e := rfl
@[simp] theorem Rs.bind_exc {α β : Type} (c ns ds) (e : Tw.Env) (k : α → Tw.Env → Rs β) : Rs.bind (.exc c ns ds e) k = .exc c ns ds e := rfl
@[simp] theorem Rs.bind_stuck {α β : Type} (k : α → Tw.Env → Rs β) : Rs.bind .stuck k = .stuck := rfl
def Rs.P {α : Type} (r : Rs α) (ok : α → Tw.Env → Prop) (ex : Nat → List Str → List D → Tw.Env → Prop) : Prop := match r with
  | .ok a e => ok a e
  | .exc c ns ds e => ex c ns ds e
  | .stuck => False
theorem Rs.P.imp {α : Type} {r : Rs α} {ok ok' : α → Tw.Env → Prop} {ex ex' : Nat → List Str → List D → Tw.Env → Prop} (h : r.P ok ex) (h1 : ∀ a e, ok a e → ok' a e) (h2 : ∀ c ns ds e, ex c ns ds e → ex' c ns ds e) : r.P ok' ex' := by
  cases r with
  | ok a e => exact h1 _ _ h
  | exc c ns ds e => exact h2 _ _ _ _ h
  | stuck => exact h

/-- an exception: its class, its fields -/
def ExAt (cl : Cl) (H : Hp) (cls : Value) (dd : Option Addr) (c : Nat) (ns : List Str) (vs : List V) : Prop :=
  cls = .ref (cl c) ∧ ns.length = vs.length ∧ (ns = [] ∧ dd = none ∨ ∃ d, dd = some d ∧ ns ≠ [] ∧ H d = some (.xd (ns.zip vs)))

section
variable {K : PySem.W.Frag} {cl : Cl}
def WP (K : PySem.W.Frag) (cl : Cl) (W : WX) (κ : Tw.Env) (τ σ : S) : Nat → List Str → List D → Tw.Env → Prop := fun c ns ds env => ∀ cls dd H' vs, ExAt cl H' cls dd c ns vs → Rel K cl H' (ds.map some ++ (κ ++ env)) (vs.map some ++ (τ ++ σ)) → ds.length = vs.length → W cls dd σ H'
theorem WP.weak {W : WX} {A κ : Tw.Env} {X τ σ : S} (l : X.length = A.length) {c ns ds env} (h : WP K cl W κ τ σ c ns ds env) : WP K cl W (A ++ κ) (X ++ τ) σ c ns ds env := fun cls dd H' vs e r l2 => by
  refine h cls dd H' vs e ?_ l2
  rw [List.append_assoc, List.append_assoc] at r
  have r2 := r.swap3 (by simp [l2]) l
  exact Rel.drop r2 l
/-- an expression's reading: what it gives is f of the slots -/
def tE (K : PySem.W.Frag) (cl : Cl) (W : WX) (f : Ev) : TE := fun σ H Q => ∃ (τ : S) (κ env : Tw.Env), Rel K cl H (κ ++ env) (τ ++ σ) ∧ τ.length = κ.length ∧
  (f env).P (fun d env' => ∀ v H', Rel K cl H' (some d :: (κ ++ env')) (some v :: (τ ++ σ)) → Q v H') (WP K cl W κ τ σ)
theorem tE_bind {β : Type} {W : WX} {f : Ev} {k : D → Tw.Env → Rs β} {ok : β → Tw.Env → Prop} {τ σ : S} {κ env : Tw.Env} {H : Hp} {Q : VK} (r : Rel K cl H (κ ++ env) (τ ++ σ)) (l : τ.length = κ.length) (h : ((f env).bind k).P ok (WP K cl W κ τ σ))
    (hk : ∀ d env1 v H1, (k d env1).P ok (WP K cl W κ τ σ) → Rel K cl H1 (some d :: (κ ++ env1)) (some v :: (τ ++ σ)) → Q v H1) : tE K cl W f σ H Q := by
  refine ⟨τ, κ, env, r, l, ?_⟩
  cases e : f env with
  | ok d env1 =>
    rw [e] at h
    exact fun v H1 r1 => hk d env1 v H1 h r1
  | exc c ns ds env1 => rw [e] at h; exact h
  | stuck => rw [e] at h; exact h

/-! ## operands: worked out, or a slot's own thing, looked at where it lies -/
inductive Opd where
  | val (f : Ev) | slot (i : Nat)
def tOpd (K : PySem.W.Frag) (cl : Cl) (W : WX) : Opd → TE
  | .val f => tE K cl W f
  | .slot i => tVar i
def tOs (K : PySem.W.Frag) (cl : Cl) (W : WX) : List Opd → TA
  | [] => tNil
  | o :: os => tCons (tOpd K cl W o) (tOs K cl W os)
def evs : List Opd → Tw.Env → Rs (List D)
  | [], env => .ok [] env
  | .val f :: os, env => (f env).bind fun d env1 => (evs os env1).bind fun ds env2 => .ok (d :: ds) env2
  | .slot i :: os, env => match env[i]? with
    | some (some _) => evs os env
    | _ => .stuck
def gat : List Opd → List D → Tw.Env → Option (List D × Tw.Env)
  | [], [], env => some ([], env)
  | .val _ :: os, d :: ds, env => (gat os ds env).map fun p => (d :: p.1, p.2)
  | .slot i :: os, ds, env => match env[i]? with
    | some (some d) => (gat os ds (env.set i none)).map fun p => (d :: p.1, p.2)
    | _ => none
  | _, _, _ => none
def Full : List Opd → List V → S → List V → Prop
  | [], us, _, vs => us = [] ∧ vs = []
  | .val _ :: os, us, σ, vs => ∃ u us' vs', us = u :: us' ∧ vs = u :: vs' ∧ Full os us' σ vs'
  | .slot i :: os, us, σ, vs => ∃ v vs', σ[i]? = some (some v) ∧ vs = v :: vs' ∧ Full os us σ vs'
theorem Full.len : ∀ {os : List Opd} {us : List V} {σ : S} {vs : List V}, Full os us σ vs → vs.length = os.length
  | [], _, _, _, h => by rw [h.2]; rfl
  | .val _ :: os, _, _, _, h => by
    obtain ⟨u, us', vs', _, e, h⟩ := h
    rw [e, List.length_cons, List.length_cons, h.len]
  | .slot i :: os, _, _, _, h => by
    obtain ⟨v, vs', _, e, h⟩ := h
    rw [e, List.length_cons, List.length_cons, h.len]
def tA (K : PySem.W.Frag) (cl : Cl) (W : WX) (os : List Opd) : TA := fun σ H Q => ∃ (τ : S) (κ env : Tw.Env), Rel K cl H (κ ++ env) (τ ++ σ) ∧ τ.length = κ.length ∧
  (evs os env).P (fun ds env' => ∀ us vs H', us.length = ds.length → Rel K cl H' (ds.map some ++ (κ ++ env')) (us.map some ++ (τ ++ σ)) → Full os us σ vs → Q vs H') (WP K cl W κ τ σ)
theorem slot_at {H : Hp} {κ env : Tw.Env} {τ σ : S} {i : Nat} {d : D} (r : Rel K cl H (κ ++ env) (τ ++ σ)) (l : τ.length = κ.length) (e : env[i]? = some (some d)) : ∃ v, σ[i]? = some (some v) := by
  have e2 : (κ ++ env)[κ.length + i]? = some (some d) := by rw [List.getElem?_append_right (by omega)]; simpa using e
  obtain ⟨v, e3, _⟩ := r.take e2
  refine ⟨v, ?_⟩
  rw [List.getElem?_append_right (by omega)] at e3
  simpa [l] using e3
theorem tA_os {W : WX} : ∀ {os : List Opd} {σ : S} {H : Hp} {Q : List V → Hp → Prop}, tA K cl W os σ H Q → tOs K cl W os σ H Q
  | [], σ, H, Q, h => by
    obtain ⟨τ, κ, env, r, l, h⟩ := h
    exact h [] [] H rfl r ⟨rfl, rfl⟩
  | .val f :: os, σ, H, Q, h => by
    obtain ⟨τ, κ, env, r, l, h⟩ := h
    refine tE_bind r l h fun d env1 v H1 h1 r1 => tA_os (os := os) ⟨some v :: τ, some d :: κ, env1, r1, by simp [l], ?_⟩
    cases e : evs os env1 with
    | ok ds env2 =>
      rw [e] at h1
      intro us vs H2 l2 r2 fu
      refine h1 (v :: us) (v :: vs) H2 (by simp [l2]) ?_ ⟨v, us, vs, rfl, rfl, fu⟩
      exact Rel.swap3 (A := ds.map some) (B := [some d]) (X := us.map some) (Y := [some v]) r2 (by simp [l2]) rfl
    | exc c ns ds env2 =>
      rw [e] at h1
      exact WP.weak (A := [some d]) (X := [some v]) rfl h1
    | stuck => rw [e] at h1; exact h1
  | .slot i :: os, σ, H, Q, h => by
    obtain ⟨τ, κ, env, r, l, h⟩ := h
    cases e : env[i]? with
    | none => simp [evs, e] at h; exact False.elim h
    | some x =>
      cases x with
      | none => simp [evs, e] at h; exact False.elim h
      | some d =>
        simp only [evs, e] at h
        obtain ⟨v, ev⟩ := slot_at r l e
        exact ⟨v, ev, tA_os (os := os) ⟨τ, κ, env, r, l, h.imp (fun ds env' q us vs H' l2 r2 fu => q us (v :: vs) H' l2 r2 ⟨v, vs, ev, rfl, fu⟩) fun _ _ _ _ q => q⟩⟩
/-- all the operands in front -/
theorem gat_rel : ∀ {os : List Opd} {ds as : List D} {us vs : List V} {κ env env' : Tw.Env} {τ σ : S} {H : Hp}, Rel K cl H (ds.map some ++ (κ ++ env)) (us.map some ++ (τ ++ σ)) → us.length = ds.length → τ.length = κ.length → Full os us σ vs → gat os ds env = some (as, env') →
    as.length = vs.length ∧ Rel K cl H (as.map some ++ (κ ++ env')) (vs.map some ++ (τ ++ σ)) ∧ ∀ {H' : Hp} {κ2 : Tw.Env} {τ2 : S}, τ2.length = κ2.length → Rel K cl H' (as.map some ++ (κ2 ++ env')) (vs.map some ++ (τ2 ++ σ)) → Rel K cl H' (ds.map some ++ (κ2 ++ env)) (us.map some ++ (τ2 ++ σ))
  | [], ds, as, us, vs, κ, env, env', τ, σ, H, r, l, lt, f, g => by
    obtain ⟨rfl, rfl⟩ := f
    cases ds with
    | nil => cases g; exact ⟨rfl, r, fun _ z => z⟩
    | cons d ds => simp at l
  | .val fv :: os, ds, as, us, vs, κ, env, env', τ, σ, H, r, l, lt, f, g => by
    obtain ⟨u, us', vs', rfl, rfl, f⟩ := f
    cases ds with
    | nil => simp at l
    | cons d ds =>
      simp only [gat, Option.map_eq_some_iff] at g
      obtain ⟨⟨as', e3⟩, g, e⟩ := g
      cases e
      have r2 : Rel K cl H (ds.map some ++ ((some d :: κ) ++ env)) (us'.map some ++ ((some u :: τ) ++ σ)) := Rel.swap3 (A := [some d]) (X := [some u]) (B := ds.map some) (Y := us'.map some) r rfl (by simpa using l)
      obtain ⟨l3, r3, b3⟩ := gat_rel (os := os) r2 (by simpa using l) (by simp [lt]) f g
      refine ⟨by simp [l3], ?_, fun {H' κ2 τ2} lt2 r4 => ?_⟩
      · exact Rel.swap3 (A := as'.map some) (X := vs'.map some) (B := [some d]) (Y := [some u]) r3 (by simp [l3]) rfl
      · have r5 := Rel.swap3 (A := [some d]) (X := [some u]) (B := as'.map some) (Y := vs'.map some) r4 rfl (by simp [l3])
        have r6 := b3 (κ2 := some d :: κ2) (τ2 := some u :: τ2) (by simp [lt2]) r5
        exact Rel.swap3 (A := ds.map some) (X := us'.map some) (B := [some d]) (Y := [some u]) r6 (by simpa using l) rfl
  | .slot i :: os, ds, as, us, vs, κ, env, env', τ, σ, H, r, l, lt, f, g => by
    obtain ⟨v, vs', ev, rfl, f⟩ := f
    cases e : env[i]? with
    | none => simp [gat, e] at g
    | some x =>
      cases x with
      | none => simp [gat, e] at g
      | some d =>
        simp only [gat, e, Option.map_eq_some_iff] at g
        obtain ⟨⟨as', e3⟩, g, e4⟩ := g
        cases e4
        have il : i < env.length := (List.getElem?_eq_some_iff.mp e).1
        have e5 : (ds.map some ++ (κ ++ env))[ds.length + (κ.length + i)]? = some (some d) := by
          rw [List.getElem?_append_right (by simp)]
          rw [List.length_map, Nat.add_sub_cancel_left, List.getElem?_append_right (by omega), Nat.add_sub_cancel_left]
          exact e
        obtain ⟨w, e6, r2⟩ := r.take e5
        have ew : w = v := by
          rw [List.getElem?_append_right (by simp [l]), List.length_map, l, Nat.add_sub_cancel_left, List.getElem?_append_right (by omega), lt, Nat.add_sub_cancel_left, ev] at e6
          cases e6; rfl
        subst ew
        have es : (ds.map some ++ (κ ++ env)).set (ds.length + (κ.length + i)) none = ds.map some ++ (κ ++ env.set i none) := by
          rw [List.set_append_right _ _ (by simp), List.length_map, Nat.add_sub_cancel_left, List.set_append_right _ _ (by omega), Nat.add_sub_cancel_left]
        rw [es] at r2
        have r3 : Rel K cl H (ds.map some ++ ((some d :: κ) ++ env.set i none)) (us.map some ++ ((some w :: τ) ++ σ)) := Rel.swap3 (A := [some d]) (X := [some w]) (B := ds.map some) (Y := us.map some) r2 rfl (by simp [l])
        obtain ⟨l4, r4, b4⟩ := gat_rel (os := os) r3 l (by simp [lt]) f g
        refine ⟨by simp [l4], ?_, fun {H' κ2 τ2} lt2 r5 => ?_⟩
        · exact Rel.swap3 (A := as'.map some) (X := vs'.map some) (B := [some d]) (Y := [some w]) r4 (by simp [l4]) rfl
        · have r6 := Rel.swap3 (A := [some d]) (X := [some w]) (B := as'.map some) (Y := vs'.map some) r5 rfl (by simp [l4])
          have r7 := b4 (κ2 := some d :: κ2) (τ2 := some w :: τ2) (by simp [lt2]) r6
          have r8 : Rel K cl H' (some d :: (ds.map some ++ (κ2 ++ env.set i none))) (some w :: (us.map some ++ (τ2 ++ σ))) := Rel.swap3 (A := ds.map some) (X := us.map some) (B := [some d]) (Y := [some w]) r7 (by simp [l]) rfl
          have e7 : (us.map some ++ (τ2 ++ σ))[us.length + (τ2.length + i)]? = some (some w) := by
            rw [List.getElem?_append_right (by simp), List.length_map, Nat.add_sub_cancel_left, List.getElem?_append_right (by omega), Nat.add_sub_cancel_left]
            exact ev
          have r9 := r8.back e7
          have es2 : (ds.map some ++ (κ2 ++ env.set i none)).set (us.length + (τ2.length + i)) (some d) = ds.map some ++ (κ2 ++ env) := by
            rw [l, lt2, List.set_append_right _ _ (by simp), List.length_map, Nat.add_sub_cancel_left, List.set_append_right _ _ (by omega), Nat.add_sub_cancel_left, List.set_set]
            congr 2
            obtain ⟨hi, e⟩ := List.getElem?_eq_some_iff.mp e
            rw [← e]
            exact List.set_getElem_self hi
          rwa [es2] at r9
/-- an operation on values that looks at things and makes new ones: what it leaves in front -/
def OpS (K : PySem.W.Frag) (cl : Cl) (r : List V → Hp → VK → Prop) (g : List D → Option D) : Prop :=
  ∀ (as : List D) (d : D) (vs : List V) (H : Hp) (κ : Tw.Env) (τ : S) (Q : VK), g as = some d → as.length = vs.length → Rel K cl H (as.map some ++ κ) (vs.map some ++ τ) →
    (∀ v H', Rel K cl H' (some d :: (as.map some ++ κ)) (some v :: (vs.map some ++ τ)) → Q v H') → r vs H Q
def fN (g : List D → Option D) (os : List Opd) : Ev := fun env => (evs os env).bind fun ds env1 => match (gat os ds env1).bind fun p => g p.1 with
  | some d => .ok d env1
  | none => .stuck
theorem fN_tA {W : WX} {r : List V → Hp → VK → Prop} {g : List D → Option D} {os : List Opd} (hs : OpS K cl r g) {σ : S} {H : Hp} {Q : VK} (h : tE K cl W (fN g os) σ H Q) : tA K cl W os σ H (fun vs H' => r vs H' Q) := by
  obtain ⟨τ, κ, env, rl, l, h⟩ := h
  refine ⟨τ, κ, env, rl, l, ?_⟩
  cases e : evs os env with
  | ok ds env1 =>
    simp only [fN, e, Rs.bind_ok] at h
    intro us vs H' l2 r2 fu
    cases e2 : gat os ds env1 with
    | none => rw [e2] at h; exact False.elim h
    | some p =>
      obtain ⟨as, env2⟩ := p
      rw [e2] at h
      simp only [Option.bind_some] at h
      cases e3 : g as with
      | none => rw [e3] at h; exact False.elim h
      | some d =>
        rw [e3] at h
        obtain ⟨l3, r3, b3⟩ := gat_rel r2 l2 l fu e2
        refine hs as d vs H' _ _ Q e3 l3 r3 fun v H2 r4 => h v H2 ?_
        have r5 : Rel K cl H2 (as.map some ++ ((some d :: κ) ++ env2)) (vs.map some ++ ((some v :: τ) ++ σ)) := Rel.swap3 (A := [some d]) (X := [some v]) (B := as.map some) (Y := vs.map some) r4 rfl (by simp [l3])
        exact Rel.drop (b3 (by simp [l]) r5) (by simp [l2])
  | exc c ns ds env1 =>
    simp only [fN, e, Rs.bind_exc] at h
    exact h
  | stuck =>
    simp only [fN, e, Rs.bind_stuck] at h
    exact h
end
/-- weaken a reading -/
theorem PE.imp {X : Cx} {e : Expr} {t t' : TE} (h : PE X e t) (q : ∀ σ H Q, t' σ H Q → t σ H Q) : PE X e t' := ⟨fun pins s σ H Q I z => h.run pins s σ H Q I (q σ H Q z)⟩
theorem PA.imp {X : Cx} {e : List Expr} {t t' : TA} (h : PA X e t) (q : ∀ σ H Q, t' σ H Q → t σ H Q) : PA X e t' := ⟨fun pos pins s σ H Q I z => h.run pos pins s σ H Q I (q σ H Q z)⟩
theorem PT.imp {X : Cx} {e : Expr} {t t' : TT} (h : PT X e t) (q : ∀ σ H Q, t' σ H Q → t σ H Q) : PT X e t' := ⟨fun pins s σ H Q I z => h.run pins s σ H Q I (q σ H Q z)⟩
theorem PS.imp {X : Cx} {e : Stmt} {t t' : TS} (h : PS X e t) (q : ∀ D σ H, t' D σ H → t D σ H) : PS X e t' := ⟨fun pins s σ H Q I z => h.run pins s σ H Q I (q Q σ H z)⟩
theorem PSs.imp {X : Cx} {e : List Stmt} {t t' : TS} (h : PSs X e t) (q : ∀ D σ H, t' D σ H → t D σ H) : PSs X e t' := ⟨fun pins s σ H Q I z => h.run pins s σ H Q I (q Q σ H z)⟩
end Tw
namespace Tw
open PySem PySem.Spec PyProof.Rows L2
section
variable {K : PySem.W.Frag} {cl : Cl} {M : Addr → Prop} {H : Hp}
theorem slots_dats : ∀ {as : List D} {xs : S} {f : List Addr}, Slots K cl M H (as.map some) xs f → ∃ vs, xs = vs.map some ∧ Dats K cl M H as vs f
  | [], xs, f, h => ⟨[], h.1.1, rfl, h.1.2⟩
  | a :: as, xs, f, h => by
    obtain ⟨v, xs', f1, f2, e, e2, h1, h2⟩ := h
    obtain ⟨vs, e3, h3⟩ := slots_dats (as := as) h2
    subst e3
    exact ⟨v :: vs, e, v, vs, f1, f2, rfl, e2, h1, h3⟩
theorem slots_appD : ∀ {as : List D} {vs : List V} {f : List Addr} {es : Tw.Env} {ys : S} {g : List Addr}, Dats K cl M H as vs f → Slots K cl M H es ys g → Slots K cl M H (as.map some ++ es) (vs.map some ++ ys) (f ++ g)
  | [], vs, f, es, ys, g, h, q => by rw [h.1, h.2]; exact q
  | a :: as, vs, f, es, ys, g, h, q => by
    obtain ⟨v, vs', f1, f2, e, e2, h1, h2⟩ := h
    subst e; subst e2
    exact ⟨v, _, f1, f2 ++ g, rfl, by rw [List.append_assoc], h1, slots_appD h2 q⟩
theorem map_some_inj : ∀ {as bs : List V}, as.map some = bs.map some → as = bs
  | [], [], _ => rfl
  | [], _ :: _, h => by simp at h
  | _ :: _, [], h => by simp at h
  | a :: as, b :: bs, h => by
    simp only [List.map_cons, List.cons.injEq, Option.some.injEq] at h
    rw [h.1, map_some_inj h.2]
/-- the front things, all at once -/
theorem Rel.split {as : List D} {vs : List V} {κ : Tw.Env} {τ : S} (h : Rel K cl H (as.map some ++ κ) (vs.map some ++ τ)) (l : as.length = vs.length) :
    ∃ f g, (f ++ g).Nodup ∧ Dats K cl (· ∈ f ++ g) H as vs f ∧ Slots K cl (· ∈ f ++ g) H κ τ g := by
  obtain ⟨F, n, h⟩ := h
  obtain ⟨xs, ys, g, k, e, e2, l2, h1, h2⟩ := slots_split h
  obtain ⟨rfl, rfl⟩ := List.append_inj e (by simp at l2; simp; omega)
  subst e2
  obtain ⟨vs', e3, h3⟩ := slots_dats h1
  have := map_some_inj e3
  subst this
  exact ⟨g, k, n, h3, h2⟩
theorem Rel.heads {as : List D} {vs : List V} {κ : Tw.Env} {τ : S} (h : Rel K cl H (as.map some ++ κ) (vs.map some ++ τ)) (l : as.length = vs.length) : ∃ M f, Dats K cl M H as vs f := by
  obtain ⟨f, g, n, h1, h2⟩ := h.split l
  exact ⟨_, _, h1⟩
theorem Rel.head {a : D} {v : V} {κ : Tw.Env} {τ : S} (h : Rel K cl H (some a :: κ) (some v :: τ)) : ∃ M f, Dat K cl M H a v f := by
  obtain ⟨M, x, f, e, q⟩ := h.top
  cases e
  exact ⟨M, f, q⟩
/-- a thing that may not be changed, read off the front ones -/
theorem derive {as : List D} {vs : List V} {κ : Tw.Env} {τ : S} {d : D} {v : V} {f g : List Addr} (n : (f ++ g).Nodup) (h1 : Dats K cl (· ∈ f ++ g) H as vs f) (h2 : Slots K cl (· ∈ f ++ g) H κ τ g)
    (q : Dat K cl (· ∈ f ++ g) H d v []) : Rel K cl H (some d :: (as.map some ++ κ)) (some v :: (vs.map some ++ τ)) :=
  ⟨f ++ g, n, v, _, [], f ++ g, rfl, rfl, q, slots_appD h1 h2⟩
theorem newL {as es : List D} {vs us : List V} {κ : Tw.Env} {τ : S} {p : Addr} {f g : List Addr} (n : (f ++ g).Nodup) (h1 : Dats K cl (· ∈ f ++ g) H as vs f) (h2 : Slots K cl (· ∈ f ++ g) H κ τ g) (hp : H p = none)
    (q : Dats K cl (· ∈ f ++ g) H es us []) : Rel K cl (upd H p (.lst us)) (some (.lst true es) :: (as.map some ++ κ)) (some (.ref p) :: (vs.map some ++ τ)) := by
  have np : p ∉ f ++ g := fun z => by
    obtain ⟨_, o, e⟩ := slots_in (slots_appD h1 h2) p z
    rw [hp] at e; cases e
  have tr : ∀ a o, H a = some o → upd H p (.lst us) a = some o := same_upd hp
  refine ⟨p :: (f ++ g), List.nodup_cons.mpr ⟨np, n⟩, .ref p, _, [p], f ++ g, rfl, rfl, ⟨p, us, [], rfl, upd_same, ?_, .inl ⟨rfl, List.mem_cons_self, rfl⟩⟩, ?_⟩
  · exact dats_tr q (fun a z => (List.mem_cons.mp z).elim (fun e => .inr (by rw [e]; exact hp)) .inl) (fun a z => nomatch z) fun a o e _ => tr a o e
  · exact slots_tr (slots_appD h1 h2) (fun a z => (List.mem_cons.mp z).elim (fun e => .inr (by rw [e]; exact hp)) .inl) (fun a z => List.mem_cons_of_mem _ z) fun a o e _ => tr a o e
theorem newT {its : List Value} {as es : List D} {vs us : List V} {κ : Tw.Env} {τ : S} {p : Addr} {f g : List Addr} (n : (f ++ g).Nodup) (h1 : Dats K cl (· ∈ f ++ g) H as vs f) (h2 : Slots K cl (· ∈ f ++ g) H κ τ g) (hp : H p = none)
    (q : Dats K cl (· ∈ f ++ g) H es us []) : Rel K cl (upd H p (tupH its us)) (some (.tup es) :: (as.map some ++ κ)) (some (.ref p) :: (vs.map some ++ τ)) := by
  have np : p ∉ f ++ g := fun z => by
    obtain ⟨_, o, e⟩ := slots_in (slots_appD h1 h2) p z
    rw [hp] at e; cases e
  have tr : ∀ a o, H a = some o → upd H p (tupH its us) a = some o := same_upd hp
  refine ⟨f ++ g, n, .ref p, _, [], f ++ g, rfl, rfl, ⟨p, us, rfl, .inl ⟨its, upd_same, np⟩, ?_⟩, ?_⟩
  · exact dats_tr q (fun a z => .inl z) (fun a z => nomatch z) fun a o e _ => tr a o e
  · exact slots_tr (slots_appD h1 h2) (fun a z => .inl z) (fun a z => z) fun a o e _ => tr a o e
theorem newPr {as es : List D} {vs us : List V} {κ : Tw.Env} {τ : S} {p : Addr} {f g : List Addr} (n : (f ++ g).Nodup) (h1 : Dats K cl (· ∈ f ++ g) H as vs f) (h2 : Slots K cl (· ∈ f ++ g) H κ τ g) (hp : H p = none)
    (q : Dats K cl (· ∈ f ++ g) H es us []) : Rel K cl (upd H p (.tup us)) (some (.pr es) :: (as.map some ++ κ)) (some (.ref p) :: (vs.map some ++ τ)) := by
  have np : p ∉ f ++ g := fun z => by
    obtain ⟨_, o, e⟩ := slots_in (slots_appD h1 h2) p z
    rw [hp] at e; cases e
  have tr : ∀ a o, H a = some o → upd H p (.tup us) a = some o := same_upd hp
  refine ⟨f ++ g, n, .ref p, _, [], f ++ g, rfl, rfl, ⟨p, us, rfl, ⟨upd_same, np⟩, ?_⟩, ?_⟩
  · exact dats_tr q (fun a z => .inl z) (fun a z => nomatch z) fun a o e _ => tr a o e
  · exact slots_tr (slots_appD h1 h2) (fun a z => .inl z) (fun a z => z) fun a o e _ => tr a o e
/-- the front things into a new list, a new tuple -/
theorem Rel.packL {as : List D} {vs : List V} {κ : Tw.Env} {τ : S} {p : Addr} (h : Rel K cl H (as.map some ++ κ) (vs.map some ++ τ)) (l : as.length = vs.length) (hp : H p = none) :
    Rel K cl (upd H p (.lst vs)) (some (.lst true as) :: κ) (some (.ref p) :: τ) := by
  obtain ⟨f, g, n, h1, h2⟩ := h.split l
  have np : p ∉ f ++ g := fun z => by
    obtain ⟨_, o, e⟩ := slots_in (slots_appD h1 h2) p z
    rw [hp] at e; cases e
  have tr : ∀ a o, H a = some o → upd H p (.lst vs) a = some o := same_upd hp
  refine ⟨p :: f ++ g, List.nodup_cons.mpr ⟨np, n⟩, .ref p, _, p :: f, g, rfl, rfl, ⟨p, vs, f, rfl, upd_same, ?_, .inl ⟨rfl, List.mem_cons_self, rfl⟩⟩, ?_⟩
  · exact dats_tr h1 (fun a z => (List.mem_cons.mp z).elim (fun e => .inr (by rw [e]; exact hp)) .inl) (fun a z => List.mem_cons_of_mem _ (List.mem_append_left _ z)) fun a o e _ => tr a o e
  · exact slots_tr h2 (fun a z => (List.mem_cons.mp z).elim (fun e => .inr (by rw [e]; exact hp)) .inl) (fun a z => List.mem_cons_of_mem _ (List.mem_append_right _ z)) fun a o e _ => tr a o e
theorem Rel.packT {its : List Value} {as : List D} {vs : List V} {κ : Tw.Env} {τ : S} {p : Addr} (h : Rel K cl H (as.map some ++ κ) (vs.map some ++ τ)) (l : as.length = vs.length) (hp : H p = none) :
    Rel K cl (upd H p (tupH its vs)) (some (.tup as) :: κ) (some (.ref p) :: τ) := by
  obtain ⟨f, g, n, h1, h2⟩ := h.split l
  have np : p ∉ f ++ g := fun z => by
    obtain ⟨_, o, e⟩ := slots_in (slots_appD h1 h2) p z
    rw [hp] at e; cases e
  have tr : ∀ a o, H a = some o → upd H p (tupH its vs) a = some o := same_upd hp
  refine ⟨f ++ g, n, .ref p, _, f, g, rfl, rfl, ⟨p, vs, rfl, .inl ⟨its, upd_same, np⟩, ?_⟩, ?_⟩
  · exact dats_tr h1 (fun a z => .inl z) (fun a z => (List.mem_append_left _ z)) fun a o e _ => tr a o e
  · exact slots_tr h2 (fun a z => .inl z) (fun a z => List.mem_append_right _ z) fun a o e _ => tr a o e
theorem two_of {as : List D} {vs : List V} {a b : D} (e : as = [a, b]) (l : as.length = vs.length) : ∃ x y, vs = [x, y] := by
  subst e
  match vs, l with
  | [x, y], _ => exact ⟨x, y, rfl⟩
theorem one_of {as : List D} {vs : List V} {a : D} (e : as = [a]) (l : as.length = vs.length) : ∃ x, vs = [x] := by
  subst e
  match vs, l with
  | [x], _ => exact ⟨x, rfl⟩
/-- the reading of a list of ints -/
theorem dats_ints : ∀ {ns : List Int} {vs : List V} {f : List Addr}, Dats K cl M H (ns.map D.int) vs f → vs = ns.map V.int
  | [], _, _, h => h.1
  | n :: ns, _, _, h => by
    obtain ⟨v, vs', f1, f2, e1, _, h1, h2⟩ := h
    rw [e1, h1.1, dats_ints h2]
    rfl
theorem ints_dats : ∀ (ns : List Int), Dats K cl M H (ns.map D.int) (ns.map V.int) []
  | [] => ⟨rfl, rfl⟩
  | n :: ns => ⟨_, _, [], [], rfl, rfl, ⟨rfl, rfl⟩, ints_dats ns⟩
theorem dats1 {a : D} {v : V} {f : List Addr} (h : Dats K cl M H [a] [v] f) : Dat K cl M H a v f := by
  obtain ⟨v', vs', f1, f2, e, e2, h1, h2⟩ := h
  cases e
  obtain ⟨_, rfl⟩ := h2
  rw [e2, List.append_nil]
  exact h1
theorem dats2 {a b : D} {v u : V} {f : List Addr} (h : Dats K cl M H [a, b] [v, u] f) : ∃ f1 f2, f = f1 ++ f2 ∧ Dat K cl M H a v f1 ∧ Dat K cl M H b u f2 := by
  obtain ⟨v', vs', f1, f2, e, e2, h1, h2⟩ := h
  cases e
  exact ⟨f1, f2, e2, h1, dats1 h2⟩
theorem oks_nil {ds : List D} {vs : List V} {f : List Addr} (h : Dats K cl M H ds vs f) (o : D.oks ds = true) : Dats K cl M H ds vs [] := by
  have e := dats_ok h o
  rwa [e] at h
end

/-! ## operations -/
section
variable {X : Cx} {cl : Cl}
def rw2 (r : R2) : List V → Hp → VK → Prop := fun vs H Q => match vs with
  | [x, y] => r x y H Q
  | _ => False
def rw1 (r : V → Hp → VK → Prop) : List V → Hp → VK → Prop := fun vs H Q => match vs with
  | [x] => r x H Q
  | _ => False
variable {W : WX} {a b c : Expr} {o1 o2 : Opd} {pos : Pos}
theorem j_bin {op : Operator} {r : R2} {g : List D → Option D} (ho : OpR X (binaryOp op) r) (hs : OpS X.K cl (rw2 r) g) (ha : PE X a (tOpd X.K cl W o1)) (hb : PE X b (tOpd X.K cl W o2)) : PE X (.BinOp a op b pos) (tE X.K cl W (fN g [o1, o2])) :=
  PE.imp (pe_op ho ha hb) fun σ H Q h => tA_os (os := [o1, o2]) (fN_tA hs h)
theorem j_cmp {op : CmpOp} {r : R2} {g : List D → Option D} (ho : OpR X (compareOp op) r) (hs : OpS X.K cl (rw2 r) g) (hm : behindInMarks op b = false) (ha : PE X a (tOpd X.K cl W o1)) (hb : PE X b (tOpd X.K cl W o2)) : PE X (.Compare a [op] [b] pos) (tE X.K cl W (fN g [o1, o2])) :=
  PE.imp (pe_cmpR ho ha hb hm) fun σ H Q h => tA_os (os := [o1, o2]) (fN_tA hs h)
theorem j_un {op : UnaryOp} {r : V → Hp → VK → Prop} {g : List D → Option D} (ho : UnR X (unaryOp op) r) (hs : OpS X.K cl (rw1 r) g) (ha : PE X a (tOpd X.K cl W o1)) : PE X (.UnaryOp op a pos) (tE X.K cl W (fN g [o1])) :=
  PE.imp (pe_un ho ha) fun σ H Q h => tA_os (os := [o1]) (fN_tA hs h)
theorem j_ix {r : R2} {g : List D → Option D} (ho : IxR X r) (hs : OpS X.K cl (rw2 r) g) (hp : PlainIx b) (ha : PE X a (tOpd X.K cl W o1)) (hb : PE X b (tOpd X.K cl W o2)) : PE X (.Subscript a b pos) (tE X.K cl W (fN g [o1, o2])) :=
  PE.imp (pe_ix ho ha hb hp) fun σ H Q h => tA_os (os := [o1, o2]) (fN_tA hs h)
variable {os : List Opd} {e : Expr} {es : List Expr} {x : Str} {p : Pos}
theorem ja_nil : PA X [] (tOs X.K cl W []) := pa_nil
theorem ja_cons (ha : PE X e (tOpd X.K cl W o1)) (hr : PA X es (tOs X.K cl W os)) (hs : starEach (e :: es) X.env = (false, eval e X.env) :: starEach es X.env := by rfl) : PA X (e :: es) (tOs X.K cl W (o1 :: os)) := pa_cons ha hr hs
theorem j_callB {id : String} {r : List V → Hp → VK → Prop} {g : List D → Option D} (hc : CallR X (.builtin id) r) (hs : OpS X.K cl r g) (hm : X.mg x = none) (hv : bootBuiltins x = some (.builtin id)) (ha : PA X (e :: es) (tOs X.K cl W os)) (hg : Gl X x := by rfl) (hn : x ≠ "__name__" := by decide) (hdb : (x == ("__debug__" : Str)) = false := by decide)
    (he : starEach (e :: es) X.env = (false, eval e X.env) :: starEach es X.env := by rfl) (hpl : (backTo pos (starEach es X.env)).any (·.1) = false := by rfl) : PE X (.Call (.Name x p) (e :: es) [] pos) (tE X.K cl W (fN g os)) :=
  PE.imp (pe_callB hc hg hm hv ha hn hdb he hpl) fun σ H Q h => tA_os (fN_tA hs h)
theorem j_callTy {id : String} {r : List V → Hp → VK → Prop} {g : List D → Option D} (hc : CallR X (.type id) r) (hs : OpS X.K cl r g) (hm : X.mg x = none) (hv : bootBuiltins x = some (.type id)) (ha : PA X (e :: es) (tOs X.K cl W os)) (hg : Gl X x := by rfl) (hn : x ≠ "__name__" := by decide) (hdb : (x == ("__debug__" : Str)) = false := by decide)
    (he : starEach (e :: es) X.env = (false, eval e X.env) :: starEach es X.env := by rfl) (hpl : (backTo pos (starEach es X.env)).any (·.1) = false := by rfl) : PE X (.Call (.Name x p) (e :: es) [] pos) (tE X.K cl W (fN g os)) :=
  PE.imp (pe_callTy hc hg hm hv ha hn hdb he hpl) fun σ H Q h => tA_os (fN_tA hs h)

/-! ### scalars -/
def gInt2 (f : Int → Int → Option D) : List D → Option D
  | [.int i, .int j] => f i j
  | _ => none
theorem s_int2 {K : PySem.W.Frag} {C : Int → Int → Prop} [∀ i j, Decidable (C i j)] {g : Int → Int → V} {gd : Int → Int → D} (hd : ∀ M H i j, Dat K cl M H (gd i j) (g i j) []) :
    OpS K cl (rw2 (rI C g)) (gInt2 fun i j => if C i j then some (gd i j) else none) := by
  intro as d vs H κ τ Q h l r q
  match as, h with
  | [.int i, .int j], h =>
    obtain ⟨x, y, rfl⟩ := two_of rfl l
    simp only [gInt2] at h
    split at h
    · rename_i c
      cases h
      obtain ⟨M, f, hh⟩ := r.heads l
      obtain ⟨f1, f2, _, h1, h2⟩ := dats2 hh
      exact ⟨i, j, h1.1, h2.1, c, q _ _ (r.push fun M => hd M H i j)⟩
    · cases h
theorem s_int20 {K : PySem.W.Frag} {g : Int → Int → V} {gd : Int → Int → D} (hd : ∀ M H i j, Dat K cl M H (gd i j) (g i j) []) : OpS K cl (rw2 (rI0 g)) (gInt2 fun i j => some (gd i j)) := by
  intro as d vs H κ τ Q h l r q
  match as, h with
  | [.int i, .int j], h =>
    obtain ⟨x, y, rfl⟩ := two_of rfl l
    cases h
    obtain ⟨M, f, hh⟩ := r.heads l
    obtain ⟨f1, f2, _, h1, h2⟩ := dats2 hh
    exact ⟨i, j, h1.1, h2.1, q _ _ (r.push fun M => hd M H i j)⟩
def gInt1 (f : Int → D) : List D → Option D
  | [.int i] => some (f i)
  | _ => none
theorem s_int1 {K : PySem.W.Frag} {g : Int → V} {gd : Int → D} (hd : ∀ M H i, Dat K cl M H (gd i) (g i) []) : OpS K cl (rw1 (rU g)) (gInt1 gd) := by
  intro as d vs H κ τ Q h l r q
  match as, h with
  | [.int i], h =>
    obtain ⟨x, rfl⟩ := one_of rfl l
    cases h
    obtain ⟨M, f, hh⟩ := r.heads l
    exact ⟨i, (dats1 hh).1, q _ _ (r.push fun M => hd M H i)⟩
/-! ### + -/
def lenOk (n : Nat) : Bool := decide (n ≤ sizeLine)
def gAdd : List D → Option D
  | [.int i, .int j] => some (.int (i + j))
  | [.str x, .str y] => if lenOk (x.length + y.length) then some (.str (x ++ y)) else none
  | [.tup xs, .tup ys] => if D.oks xs && D.oks ys && lenOk (xs.length + ys.length) then some (.tup (xs ++ ys)) else none
  | [.lst _ xs, .lst _ ys] => if D.oks xs && D.oks ys && lenOk (xs.length + ys.length) then some (.lst true (xs ++ ys)) else none
  | _ => none
/-- a new tuple laid -/
theorem laidT {its : List Value} {xs : List V} {pins : List (Addr × Obj)} {s : Shared} {σ : S} {H : Hp} {t' : Nat} (I : Inv X pins σ H s) (r : Vals xs its) (hz : xs.length ≤ sizeLine) : Inv X pins σ (upd H s.heap.objs.size (tupH its xs)) { s with heap := s.heap.push (tupO its), toks := t' } :=
  I.laid (fun b ob q => Heap.get?_push_of_some _ q) (Nat.le_refl _) (show ObjOk X.prog X.w _ _ _ (.frz (tupO its) (.tup xs)) from ⟨Heap.get?_push_size _ rfl, hz, its, r, IsTup.new _ _⟩)
def rCatF (K : PySem.W.Frag) : R2 := fun x y H Q => ∃ a b xs ys, x = .ref a ∧ y = .ref b ∧ SqT K H a xs ∧ SqT K H b ys ∧ xs.length + ys.length ≤ sizeLine ∧
  (xs = [] → Q (.ref b) H) ∧ (xs ≠ [] → ys = [] → Q (.ref a) H) ∧ (xs ≠ [] → ys ≠ [] → ∀ p its, H p = none → Q (.ref p) (upd H p (tupH its (xs ++ ys))))
theorem op_catF : OpR X (binaryOp .Add) (rCatF X.K) := by
  intro pins s σ H x y v u Q I rx ry h
  obtain ⟨a, b, xs, ys, rfl, rfl, ha, hb, hz, q0, q1, q2⟩ := h
  cases rx
  cases ry
  obtain ⟨its, r1, p1, _⟩ := I.tuple ha
  obtain ⟨its2, r2, p2, _⟩ := I.tuple hb
  by_cases hx : xs = []
  · subst hx
    cases r1
    exact cat_tup0 p1 p2 ⟨.ref b, H, I, rfl, q0 rfl⟩
  · have h1 : its ≠ [] := fun e => hx (by rw [e] at r1; cases r1; rfl)
    refine HT.cat_tup p1 p2 h1 (fun e => ?_) (fun e => ?_) (by have := r1.length; have := r2.length; omega)
    · have e2 : ys = [] := by rw [e] at r2; cases r2; rfl
      exact ⟨.ref a, H, I, rfl, q1 hx e2⟩
    · have hy : ys ≠ [] := fun e2 => e (by subst e2; cases r2; rfl)
      exact ⟨.ref s.heap.objs.size, _, laidT I (r1.append r2) (by rw [List.length_append]; exact hz), rfl, q2 hx hy _ _ (I.hok.fresh (Nat.le_refl _))⟩
def rAddAll (K : PySem.W.Frag) : R2 := fun x y H Q => rI0 (fun i j => .int (i + j)) x y H Q ∨ ((fun x y H Q => ∃ i j, x = .str i ∧ y = .str j ∧ i.length + j.length ≤ sizeLine ∧ Q (.str (i ++ j)) H) : R2) x y H Q ∨ rCatF K x y H Q ∨ rCat x y H Q
theorem op_addAll : OpR X (binaryOp .Add) (rAddAll X.K) := op_add.or (op_add_str.or (op_catF.or op_cat))
theorem s_add {K : PySem.W.Frag} : OpS K cl (rw2 (rAddAll K)) gAdd := by
  intro as d vs H κ τ Q h l r q
  match as, h with
  | [.int i, .int j], h =>
    obtain ⟨x, y, rfl⟩ := two_of rfl l
    cases h
    obtain ⟨M, f, hh⟩ := r.heads l
    obtain ⟨f1, f2, _, h1, h2⟩ := dats2 hh
    exact .inl ⟨i, j, h1.1, h2.1, q _ _ (r.push fun M => ⟨rfl, rfl⟩)⟩
  | [.str i, .str j], h =>
    obtain ⟨x, y, rfl⟩ := two_of rfl l
    simp only [gAdd] at h
    split at h
    · rename_i c
      cases h
      obtain ⟨M, f, hh⟩ := r.heads l
      obtain ⟨f1, f2, _, h1, h2⟩ := dats2 hh
      exact .inr (.inl ⟨i, j, h1.1, h2.1, of_decide_eq_true c, q _ _ (r.push fun M => ⟨rfl, rfl⟩)⟩)
    · cases h
  | [.tup us, .tup ws], h =>
    obtain ⟨x, y, rfl⟩ := two_of rfl l
    simp only [gAdd] at h
    split at h
    · rename_i c
      cases h
      simp only [Bool.and_eq_true] at c
      obtain ⟨⟨c1, c2⟩, c3⟩ := c
      have c3 := of_decide_eq_true c3
      obtain ⟨f, g, n, hh, hr⟩ := r.split l
      obtain ⟨f1, f2, _, h1, h2⟩ := dats2 hh
      obtain ⟨a, xs, e1, t1, d1⟩ := h1
      obtain ⟨b, ys, e2, t2, d2⟩ := h2
      subst e1; subst e2
      have d1 := oks_nil d1 c1
      have d2 := oks_nil d2 c2
      have l1 := dats_length d1
      have l2 := dats_length d2
      refine .inr (.inr (.inl ⟨a, b, xs, ys, rfl, rfl, t1.sq, t2.sq, by omega, fun z => ?_, fun _ z => ?_, fun _ _ p its hp => q _ _ (newT n hh hr hp (dats_nil_append d1 d2))⟩))
      · refine q _ _ (derive n hh hr ⟨b, ys, rfl, t2, ?_⟩)
        have e : us = [] := List.eq_nil_of_length_eq_zero (by rw [← l1, z]; rfl)
        rw [e]; exact d2
      · refine q _ _ (derive n hh hr ⟨a, xs, rfl, t1, ?_⟩)
        have e : ws = [] := List.eq_nil_of_length_eq_zero (by rw [← l2, z]; rfl)
        rw [e, List.append_nil]; exact d1
    · cases h
  | [.lst m us, .lst m2 ws], h =>
    obtain ⟨x, y, rfl⟩ := two_of rfl l
    simp only [gAdd] at h
    split at h
    · rename_i c
      cases h
      simp only [Bool.and_eq_true] at c
      obtain ⟨⟨c1, c2⟩, c3⟩ := c
      have c3 := of_decide_eq_true c3
      obtain ⟨f, g, n, hh, hr⟩ := r.split l
      obtain ⟨f1, f2, _, h1, h2⟩ := dats2 hh
      obtain ⟨a, xs, g1, e1, t1, d1, _⟩ := h1
      obtain ⟨b, ys, g2, e2, t2, d2, _⟩ := h2
      subst e1; subst e2
      have d1 := oks_nil d1 c1
      have d2 := oks_nil d2 c2
      have l1 := dats_length d1
      have l2 := dats_length d2
      exact .inr (.inr (.inr ⟨a, b, xs, ys, rfl, rfl, t1, t2, by omega, fun p hp => q _ _ (newL n hh hr hp (dats_nil_append d1 d2))⟩))
    · cases h
end
end Tw
noncomputable section
namespace Tw
open PySem PySem.Spec PyProof.Rows L2
section
variable {X : Cx} {cl : Cl} {K : PySem.W.Frag}
theorem dint {M H i} : Dat K cl M H (.int i) (.int i) [] := ⟨rfl, rfl⟩
theorem dbl {M H b} : Dat K cl M H (.bl b) (.bl b) [] := ⟨rfl, rfl⟩
/-! ### numbers -/
def gSub : List D → Option D := gInt2 fun i j => some (.int (i - j))
theorem s_sub : OpS K cl (rw2 (rI0 fun i j => .int (i - j))) gSub := s_int20 fun _ _ _ _ => dint
instance : ∀ i j, Decidable (CMul i j) := fun _ _ => Classical.propDecidable _
instance : ∀ i j, Decidable (CDivN i j) := fun _ _ => Classical.propDecidable _
instance : ∀ i j, Decidable (CPow i j) := fun _ _ => Classical.propDecidable _
def gFdiv : List D → Option D := gInt2 fun i j => if CDivN i j then some (.int (i.fdiv j)) else none
theorem s_fdiv : OpS K cl (rw2 (rI CDivN fun i j => .int (i.fdiv j))) gFdiv := s_int2 fun _ _ _ _ => dint
def gMod : List D → Option D := gInt2 fun i j => if j ≠ 0 then some (.int (i.fmod j)) else none
theorem s_mod : OpS K cl (rw2 (rI (fun _ j => j ≠ 0) fun i j => .int (i.fmod j))) gMod := s_int2 fun _ _ _ _ => dint
def gPow : List D → Option D := gInt2 fun i j => if CPow i j then some (.int (i ^ j.toNat)) else none
theorem s_pow : OpS K cl (rw2 (rI CPow fun i j => .int (i ^ j.toNat))) gPow := s_int2 fun _ _ _ _ => dint
def gShl : List D → Option D := gInt2 fun i j => if CPow i j then some (.int (i * 2 ^ j.toNat)) else none
def gShr : List D → Option D := gInt2 fun i j => if 0 ≤ j then some (.int (i / 2 ^ j.toNat)) else none
def gBand : List D → Option D := gInt2 fun i j => some (.int (Builtin.bitAnd i j))
def gBor : List D → Option D := gInt2 fun i j => some (.int (Builtin.bitOr i j))
def gBxor : List D → Option D := gInt2 fun i j => some (.int (Builtin.bitXor i j))
/-- comparisons, of numbers and of texts -/
def gCmp (f : Int → Int → Bool) (g : Str → Str → Bool) : List D → Option D
  | [.int i, .int j] => some (.bl (f i j))
  | [.str i, .str j] => some (.bl (g i j))
  | _ => none
def rCmp (f : Int → Int → Bool) (g : Str → Str → Bool) : R2 := fun x y H Q => rI0 (fun i j => .bl (f i j)) x y H Q ∨ ∃ i j, x = .str i ∧ y = .str j ∧ Q (.bl (g i j)) H
theorem s_cmp {f : Int → Int → Bool} {g : Str → Str → Bool} : OpS K cl (rw2 (rCmp f g)) (gCmp f g) := by
  intro as d vs H κ τ Q h l r q
  match as, h with
  | [.int i, .int j], h =>
    obtain ⟨x, y, rfl⟩ := two_of rfl l
    cases h
    obtain ⟨M, f, hh⟩ := r.heads l
    obtain ⟨f1, f2, _, h1, h2⟩ := dats2 hh
    exact .inl ⟨i, j, h1.1, h2.1, q _ _ (r.push fun M => dbl)⟩
  | [.str i, .str j], h =>
    obtain ⟨x, y, rfl⟩ := two_of rfl l
    cases h
    obtain ⟨M, f, hh⟩ := r.heads l
    obtain ⟨f1, f2, _, h1, h2⟩ := dats2 hh
    exact .inr ⟨i, j, h1.1, h2.1, q _ _ (r.push fun M => dbl)⟩
theorem cmp_bl {f : Int → Int → Bool} {g : Str → Str → Bool} {as : List D} {d : D} (h : gCmp f g as = some d) : ∃ k, d = .bl k := by
  match as, h with
  | [.int i, .int j], h => cases h; exact ⟨_, rfl⟩
  | [.str i, .str j], h => cases h; exact ⟨_, rfl⟩
def sLt (i j : Str) : Bool := decide (i.cps.toList < j.cps.toList)
def gLt : List D → Option D := gCmp (fun i j => decide (i < j)) fun i j => sLt i j
theorem s_lt : OpS K cl (rw2 (rCmp (fun i j => decide (i < j)) fun i j => sLt i j)) gLt := s_cmp
theorem op_ltA : OpR X (compareOp .Lt) (rCmp (fun i j => decide (i < j)) fun i j => sLt i j) := op_lt.or op_lt_str
def gLe : List D → Option D := gCmp (fun i j => decide (i ≤ j)) fun i j => !sLt j i
theorem s_le : OpS K cl (rw2 (rCmp (fun i j => decide (i ≤ j)) fun i j => !sLt j i)) gLe := s_cmp
theorem op_leA : OpR X (compareOp .LtE) (rCmp (fun i j => decide (i ≤ j)) fun i j => !sLt j i) := op_le.or op_le_str
def gGt : List D → Option D := gCmp (fun i j => decide (j < i)) fun i j => sLt j i
theorem s_gt : OpS K cl (rw2 (rCmp (fun i j => decide (j < i)) fun i j => sLt j i)) gGt := s_cmp
theorem op_gtA : OpR X (compareOp .Gt) (rCmp (fun i j => decide (j < i)) fun i j => sLt j i) := op_gt.or op_gt_str
def gGe : List D → Option D := gCmp (fun i j => decide (j ≤ i)) fun i j => !sLt i j
theorem s_ge : OpS K cl (rw2 (rCmp (fun i j => decide (j ≤ i)) fun i j => !sLt i j)) gGe := s_cmp
theorem op_geA : OpR X (compareOp .GtE) (rCmp (fun i j => decide (j ≤ i)) fun i j => !sLt i j) := op_ge.or op_ge_str
def gNeg : List D → Option D := gInt1 fun i => .int (-i)
theorem s_neg : OpS K cl (rw1 (rU fun i => .int (-i))) gNeg := s_int1 fun _ _ _ => dint
def gInv : List D → Option D := gInt1 fun i => .int (Builtin.bitNot i)
/-! ### a tuple, so many times, as many as may be -/
theorem tuple_same (l : Addr) (items : Array Value) (n : Nat) (dd : Option Addr) (sl : Array (Option Value)) (x : Int) (u : Tok) (c0 : (decide (x < -(2 ^ 63)) || decide (x ≥ 2 ^ 63)) = false) (c1 : (items.isEmpty || x == 1) = true) :
    Meets (Builtin.«tuple.__mul__» ⟨[.ref l, .int x u], []⟩) (fun _ R s => s.heap.get? l = some { cls := .type "tuple", dict := dd, data := .seq items n, slots := sl } ∧ R (.ok (.ret (Value.ref l))) s) :=
  .of_wp fun prog w A R s h => by
    obtain ⟨hp, g, d, tk, os⟩ := s
    obtain ⟨hl, h⟩ := h
    have f1 := AutoSeq1.idx_int
    wp_walk using wpAny_loadPart' hl
    repeat (first
      | (refine wpAny_ite_false (decide_eq_false (by rw [c0]; exact Bool.false_ne_true)) ?_; wp_walk using wpAny_loadPart' hl)
      | (refine wpAny_ite_true (decide_eq_true (by rw [c1])) ?_; wp_walk using wpAny_loadPart' hl))
    exact ⟨_, rfl, h⟩
theorem tuple_none (l : Addr) (items : Array Value) (n : Nat) (dd : Option Addr) (sl : Array (Option Value)) (x : Int) (u : Tok) (c0 : (decide (x < -(2 ^ 63)) || decide (x ≥ 2 ^ 63)) = false) (c1 : (items.isEmpty || x == 1) = false) (c2 : (decide (x ≤ 0) || items.isEmpty) = true) :
    Meets (Builtin.«tuple.__mul__» ⟨[.ref l, .int x u], []⟩) (fun _ R s => s.heap.get? l = some { cls := .type "tuple", dict := dd, data := .seq items n, slots := sl } ∧
      R (.ok (.ret (Value.ref s.heap.objs.size))) { s with heap := s.heap.push { cls := Value.type "tuple", data := Data.seq #[] }, toks := s.toks }) :=
  .of_wp fun prog w A R s h => by
    obtain ⟨hp, g, d, tk, os⟩ := s
    obtain ⟨hl, h⟩ := h
    have f1 := AutoSeq1.idx_int
    wp_walk using wpAny_loadPart' hl
    repeat (first
      | (refine wpAny_ite_false (decide_eq_false (by rw [c0]; exact Bool.false_ne_true)) ?_; wp_walk using wpAny_loadPart' hl)
      | (refine wpAny_ite_false (decide_eq_false (by rw [c1]; exact Bool.false_ne_true)) ?_; wp_walk using wpAny_loadPart' hl)
      | (refine wpAny_ite_true (decide_eq_true (by rw [c2])) ?_; wp_walk using wpAny_loadPart' hl))
    exact ⟨_, rfl, h⟩
def rRepA (K : PySem.W.Frag) : R2 := fun x y H Q => ∃ l k xs, x = .ref l ∧ y = .int k ∧ SqT K H l xs ∧ -(2 ^ 62) ≤ k ∧ k ≤ 1000000 ∧ xs.length * k.toNat ≤ 1000000 ∧ ((k = 1 ∨ xs = []) → Q (.ref l) H) ∧ (¬ (k = 1 ∨ xs = []) → ∀ p its, H p = none → Q (.ref p) (upd H p (tupH its (List.replicate k.toNat xs).flatten)))
theorem op_repA : OpR X (binaryOp .Mult) (rRepA X.K) := by
  intro pins s σ H x y v u Q I rx ry h
  obtain ⟨l, k, xs, rfl, rfl, hT, h1, h2, hz, qs, qn⟩ := h
  cases rx
  obtain ⟨t, rfl⟩ := ry
  obtain ⟨its, r, ⟨⟨cls, dd, data, sl⟩, ho, hc, n, hd⟩, hs⟩ := I.tuple hT
  simp only at hc hd
  subst hc hd
  have hle : its.length = xs.length := r.length.symm
  have c0 : (decide (k < -(2 ^ 63)) || decide (k ≥ 2 ^ 63)) = false := by
    rw [decide_eq_false (by omega), decide_eq_false (by omega)] <;> rfl
  have emp : its.toArray.isEmpty = true ↔ xs = [] := by
    cases its with
    | nil => cases xs with
      | nil => simp
      | cons _ _ => simp at hle
    | cons a b => cases xs with
      | nil => simp at hle
      | cons _ _ => simp
  refine wpAny_binaryOp_repeat_ref (T := "tuple") (U := "int") (by decide) ⟨_, ho, rfl⟩ (fun s' => typeIs_int s' k t) noFill_tuple_mul F.fills_int_mul F.slot_int_rmul repeat_tuple F.slot_int_index.lookup
    (call_meets F.slot_int_rmul (typeIs_int s k t) F.entry_int_rmul (F.args_int_rmul_2 _ _) (int_rmul_tuple k t l its.toArray n dd sl)
      ⟨ho, rfl, ⟨_, ho, rfl⟩, ?_⟩)
  by_cases cs : k = 1 ∨ xs = []
  · have c1 : (its.toArray.isEmpty || k == 1) = true := by
      rcases cs with e | e
      · subst e; simp
      · rw [emp.mpr e]; rfl
    exact call_meets F.slot_tuple_mul ⟨_, ho, rfl⟩ F.entry_tuple_mul (F.args_tuple_mul_2 _ _) (tuple_same l its.toArray n dd sl k t c0 c1) ⟨ho, .ref l, H, I, rfl, qs cs⟩
  · have ne : its.toArray.isEmpty = false := by
      cases e : its.toArray.isEmpty with
      | false => rfl
      | true => exact absurd (.inr (emp.mp e)) cs
    have k1 : k ≠ 1 := fun e => cs (.inl e)
    have c1 : (its.toArray.isEmpty || k == 1) = false := by
      rw [ne, Bool.false_or]
      exact beq_eq_false_iff_ne.mpr k1
    by_cases k0 : k ≤ 0
    · have c2 : (decide (k ≤ 0) || its.toArray.isEmpty) = true := by rw [decide_eq_true k0]; rfl
      refine call_meets F.slot_tuple_mul ⟨_, ho, rfl⟩ F.entry_tuple_mul (F.args_tuple_mul_2 _ _) (tuple_none l its.toArray n dd sl k t c0 c1 c2) ⟨ho, ?_⟩
      have e0 : (List.replicate k.toNat xs).flatten = [] := by rw [show k.toNat = 0 by omega]; rfl
      have q := qn cs
      rw [e0] at q
      exact ⟨.ref s.heap.objs.size, _, laidT (its := []) I .nil (by simp), rfl, q _ _ (I.hok.fresh (Nat.le_refl _))⟩
    · have c2 : (decide (k ≤ 0) || its.toArray.isEmpty) = false := by
        rw [ne, Bool.or_false]
        exact decide_eq_false k0
      have hsz0 : its.toArray.size = xs.length := by rw [List.size_toArray, hle]
      have hm : ((its.toArray.size : Nat) : Int) * k ≤ 1000000 := by
        rw [hsz0]
        have e : k = (k.toNat : Int) := by omega
        rw [e, ← Int.natCast_mul]
        omega
      have flen : (List.replicate k.toNat its).flatten.length ≤ sizeLine := by
        rw [PyProof.Rows.lm_len_rep_flat, hle, sizeLine_eq, Nat.mul_comm]
        omega
      have c4 : Builtin.Tuple.tupleTooMany (((its.toArray.size : Nat) : Int) * k) = false := by
        unfold Builtin.Tuple.tupleTooMany
        rw [sizeLine_eq]
        exact decide_eq_false (by omega)
      refine call_meets F.slot_tuple_mul ⟨_, ho, rfl⟩ F.entry_tuple_mul (F.args_tuple_mul_2 _ _) (tuple_mulW l its.toArray n dd sl k t c0 c1 c2 (by omega) c4 (by rw [size_rep, List.size_toArray]; exact flen)) ⟨ho, ?_⟩
      rw [size_rep]
      exact ⟨.ref s.heap.objs.size, _, laidT I (r.rep k.toNat) (by rw [PyProof.Rows.lm_len_rep_flat, sizeLine_eq, Nat.mul_comm]; omega), rfl, qn cs _ _ (I.hok.fresh (Nat.le_refl _))⟩
/-- * of ints, of a tuple and a number -/
def gMul : List D → Option D
  | [.int i, .int j] => if CMul i j then some (.int (i * j)) else none
  | [.tup xs, .int k] => if D.oks xs && decide (-(2 ^ 62) ≤ k ∧ k ≤ 1000000 ∧ xs.length * k.toNat ≤ 1000000) then some (.tup (List.replicate k.toNat xs).flatten) else none
  | [.lst _ xs, .int k] => if D.oks xs && decide (-(2 ^ 62) ≤ k ∧ k ≤ 1000000 ∧ xs.length * k.toNat ≤ 1000000) then some (.lst true (List.replicate k.toNat xs).flatten) else none
  | _ => none

def rMulAll (K : PySem.W.Frag) : R2 := fun x y H Q => rI CMul (fun i j => .int (i * j)) x y H Q ∨ rRepA K x y H Q ∨ rRep x y H Q
theorem op_mulAll : OpR X (binaryOp .Mult) (rMulAll X.K) := op_mul.or (op_repA.or op_rep)
theorem dats_rep {M H} {xs : List D} {vs : List V} (h : Dats K cl M H xs vs []) : ∀ n : Nat, Dats K cl M H (List.replicate n xs).flatten (List.replicate n vs).flatten []
  | 0 => ⟨rfl, rfl⟩
  | n + 1 => by
    rw [List.replicate_succ, List.replicate_succ, List.flatten_cons, List.flatten_cons]
    exact dats_nil_append h (dats_rep h n)
theorem s_mul : OpS K cl (rw2 (rMulAll K)) gMul := by
  intro as d vs H κ τ Q h l r q
  match as, h with
  | [.int i, .int j], h =>
    obtain ⟨x, y, rfl⟩ := two_of rfl l
    simp only [gMul] at h
    split at h
    · rename_i c
      cases h
      obtain ⟨M, f, hh⟩ := r.heads l
      obtain ⟨f1, f2, _, h1, h2⟩ := dats2 hh
      exact .inl ⟨i, j, h1.1, h2.1, c, q _ _ (r.push fun M => dint)⟩
    · cases h
  | [.tup us, .int k], h =>
    obtain ⟨x, y, rfl⟩ := two_of rfl l
    simp only [gMul] at h
    split at h
    · rename_i c
      cases h
      simp only [Bool.and_eq_true, decide_eq_true_eq] at c
      obtain ⟨c1, c2, c3, c4⟩ := c
      obtain ⟨f, g, n, hh, hr⟩ := r.split l
      obtain ⟨f1, f2, ef, h1, h2⟩ := dats2 hh
      obtain ⟨a, xs, e1, t1, d1⟩ := h1
      have e2 := h2.1
      subst e1; subst e2
      have d1 := oks_nil d1 c1
      have l1 := dats_length d1
      refine .inr (.inl ⟨a, k, xs, rfl, rfl, t1.sq, c2, c3, by rw [l1]; exact c4, fun z => ?_, fun _ p its hp => q _ _ (newT n hh hr hp (dats_rep d1 _))⟩)
      have ez : (List.replicate k.toNat us).flatten = us := by
        rcases z with z | z
        · subst z; simp
        · subst z
          cases us with
          | nil => simp
          | cons _ _ => simp at l1
      refine q _ _ (derive n hh hr ⟨a, xs, rfl, t1, ?_⟩)
      rw [ez]
      exact d1
    · cases h
  | [.lst m us, .int k], h =>
    obtain ⟨x, y, rfl⟩ := two_of rfl l
    simp only [gMul] at h
    split at h
    · rename_i c
      cases h
      simp only [Bool.and_eq_true, decide_eq_true_eq] at c
      obtain ⟨c1, c2, c3, c4⟩ := c
      obtain ⟨f, g, n, hh, hr⟩ := r.split l
      obtain ⟨f1, f2, ef, h1, h2⟩ := dats2 hh
      obtain ⟨a, xs, g1, e1, t1, d1, w⟩ := h1
      have e2 := h2.1
      subst e1; subst e2
      have d1 := oks_nil d1 c1
      have l1 := dats_length d1
      exact .inr (.inr ⟨a, k, xs, rfl, rfl, t1, by omega, by omega, by rw [l1, sizeLine_eq]; omega, fun p hp => q _ _ (newL n hh hr hp (dats_rep d1 _))⟩)
    · cases h
/-! ### == and != of data -/
mutual
def D.py : D → Option PyData
  | .non => some .none | .bl b => some (.bool b) | .int i => some (.int i) | .str x => some (.str x)
  | .tup xs => (D.pys xs).map .tuple
  | .lst _ xs => (D.pys xs).map .list
  | _ => none
def D.pys : List D → Option (List PyData)
  | [] => some []
  | d :: ds => (D.py d).bind fun p => (D.pys ds).map fun ps => p :: ps
end
mutual
theorem dat_dp {M H} : ∀ {d : D} {p : PyData} {v : V} {f : List Addr}, Dat K cl M H d v f → D.py d = some p → Dp K H v p
  | .non, _, _, _, h, e => by cases e; rw [h.1]; exact .non
  | .bl b, _, _, _, h, e => by cases e; rw [h.1]; exact .bl b
  | .int b, _, _, _, h, e => by cases e; rw [h.1]; exact .int b
  | .str b, _, _, _, h, e => by cases e; rw [h.1]; exact .str b
  | .tup ds, p, _, _, h, e => by
    obtain ⟨a, vs, rfl, t, hd⟩ := h
    simp only [D.py, Option.map_eq_some_iff] at e
    obtain ⟨ps, e, rfl⟩ := e
    exact .tup t.sq (dats_dp hd e)
  | .lst m ds, p, _, _, h, e => by
    obtain ⟨a, vs, g, rfl, t, hd, _⟩ := h
    simp only [D.py, Option.map_eq_some_iff] at e
    obtain ⟨ps, e, rfl⟩ := e
    exact .lst (.of t) (dats_dp hd e)
  | .ty _, _, _, _, _, e => by simp [D.py] at e
  | .pr _, _, _, _, _, e => by simp [D.py] at e
  | .dtt _ _, _, _, _, _, e => by simp [D.py] at e
  | .cl _, _, _, _, _, e => by simp [D.py] at e
  | .scr _, _, _, _, _, e => by simp [D.py] at e
  | .at _, _, _, _, _, e => by simp [D.py] at e
  | .obj _ _ _ _, _, _, _, _, e => by simp [D.py] at e
  | .dct _ _ _, _, _, _, _, e => by simp [D.py] at e
  | .dcd _ _ _, _, _, _, _, e => by simp [D.py] at e
  | .ex _ _ _ _ _, _, _, _, _, e => by simp [D.py] at e
  | .wlk _ _ _ _, _, _, _, _, e => by simp [D.py] at e
theorem dats_dp {M H} : ∀ {ds : List D} {ps : List PyData} {vs : List V} {f : List Addr}, Dats K cl M H ds vs f → D.pys ds = some ps → DpAll K H vs ps
  | [], _, _, _, h, e => by cases e; rw [h.1]; exact .nil
  | d :: ds, ps, _, _, h, e => by
    obtain ⟨v, vs', f1, f2, rfl, _, h1, h2⟩ := h
    simp only [D.pys, Option.bind_eq_some_iff, Option.map_eq_some_iff] at e
    obtain ⟨p, e1, ps', e2, rfl⟩ := e
    exact .cons (dat_dp h1 e1) (dats_dp h2 e2)
end
def gEq : List D → Option D
  | [a, b] => (D.py a).bind fun p => (D.py b).bind fun q => if SeqAt.shaped p && SeqAt.shaped q then some (.bl (PyData.eqv p q)) else none
  | _ => none
def gNe : List D → Option D
  | [a, b] => (D.py a).bind fun p => (D.py b).bind fun q => if SeqAt.shaped p && SeqAt.shaped q then some (.bl (!PyData.eqv p q)) else none
  | _ => none
theorem s_eq : OpS K cl (rw2 (rEqD K)) gEq := by
  intro as d vs H κ τ Q h l r q
  match as, h with
  | [a, b], h =>
    obtain ⟨x, y, rfl⟩ := two_of rfl l
    simp only [gEq, Option.bind_eq_some_iff] at h
    obtain ⟨p, e1, p2, e2, h⟩ := h
    split at h
    · rename_i c
      cases h
      simp only [Bool.and_eq_true] at c
      obtain ⟨M, f, hh⟩ := r.heads l
      obtain ⟨f1, f2, _, h1, h2⟩ := dats2 hh
      exact ⟨p, p2, dat_dp h1 e1, dat_dp h2 e2, c.1, c.2, q _ _ (r.push fun M => dbl)⟩
    · cases h
theorem s_ne : OpS K cl (rw2 (rNeD K)) gNe := by
  intro as d vs H κ τ Q h l r q
  match as, h with
  | [a, b], h =>
    obtain ⟨x, y, rfl⟩ := two_of rfl l
    simp only [gNe, Option.bind_eq_some_iff] at h
    obtain ⟨p, e1, p2, e2, h⟩ := h
    split at h
    · rename_i c
      cases h
      simp only [Bool.and_eq_true] at c
      obtain ⟨M, f, hh⟩ := r.heads l
      obtain ⟨f1, f2, _, h1, h2⟩ := dats2 hh
      exact ⟨p, p2, dat_dp h1 e1, dat_dp h2 e2, c.1, c.2, q _ _ (r.push fun M => dbl)⟩
    · cases h
/-! ### is None -/
def D.isNon : D → Bool
  | .non => true
  | _ => false
def gIsN : List D → Option D
  | [a, .non] => some (.bl (D.isNon a))
  | _ => none
def gNotN : List D → Option D
  | [a, .non] => some (.bl (!D.isNon a))
  | _ => none
/-! ### xs[i] -/
def gIx : List D → Option D
  | [.lst _ xs, .int i] => (atI xs i).bind fun d => if D.oks xs then some d else none
  | [.tup xs, .int i] => (atI xs i).bind fun d => if D.oks xs then some d else none
  | _ => none
theorem atI_dats {M H} {ds : List D} {vs : List V} {i : Int} {d : D} (h : Dats K cl M H ds vs []) (e : atI ds i = some d) : ∃ v, atI vs i = some v ∧ Dat K cl M H d v [] := by
  have l := dats_length h
  unfold atI at e ⊢
  rw [l]
  cases e2 : ixN ds.length i with
  | none => rw [e2] at e; cases e
  | some j =>
    rw [e2] at e
    exact dats_get h e
theorem s_ix : OpS K cl (rw2 (rIx K)) gIx := by
  intro as d vs H κ τ Q h l r q
  match as, h with
  | [.lst m us, .int i], h =>
    obtain ⟨x, y, rfl⟩ := two_of rfl l
    simp only [gIx, Option.bind_eq_some_iff] at h
    obtain ⟨d', e, h⟩ := h
    split at h
    · rename_i c
      cases h
      obtain ⟨f, g, n, hh, hr⟩ := r.split l
      obtain ⟨f1, f2, _, h1, h2⟩ := dats2 hh
      obtain ⟨a, xs, g1, e1, t1, d1, _⟩ := h1
      have e2 := h2.1
      subst e1; subst e2
      obtain ⟨v, e3, hv⟩ := atI_dats (oks_nil d1 c) e
      exact .inl ⟨a, xs, i, v, rfl, rfl, .of t1, e3, q _ _ (derive n hh hr hv)⟩
    · cases h
  | [.tup us, .int i], h =>
    obtain ⟨x, y, rfl⟩ := two_of rfl l
    simp only [gIx, Option.bind_eq_some_iff] at h
    obtain ⟨d', e, h⟩ := h
    split at h
    · rename_i c
      cases h
      obtain ⟨f, g, n, hh, hr⟩ := r.split l
      obtain ⟨f1, f2, _, h1, h2⟩ := dats2 hh
      obtain ⟨a, xs, e1, t1, d1⟩ := h1
      have e2 := h2.1
      subst e1; subst e2
      obtain ⟨v, e3, hv⟩ := atI_dats (oks_nil d1 c) e
      exact .inr (.inl ⟨a, xs, i, v, rfl, rfl, t1.sq, e3, q _ _ (derive n hh hr hv)⟩)
    · cases h
/-! ### built-in calls -/
def gLen : List D → Option D
  | [.lst _ xs] => some (.int xs.length)
  | [.tup xs] => some (.int xs.length)
  | [.str x] => if lenOk x.length then some (.int x.length) else none
  | _ => none
def rLen2 (K : PySem.W.Frag) : List V → Hp → VK → Prop := fun xs H Q => ((∃ p ys, xs = [.ref p] ∧ (SqL K H p ys ∨ SqT K H p ys) ∧ Q (.int ys.length) H)) ∨ ∃ z, xs = [.str z] ∧ z.length ≤ sizeLine ∧ Q (.int z.length) H
theorem cr_len : CallR X (.builtin "len") (rLen2 X.K) := call_len_seq.or call_len_str
theorem s_len : OpS K cl (rLen2 K) gLen := by
  intro as d vs H κ τ Q h l r q
  match as, h with
  | [.lst m us], h =>
    obtain ⟨x, rfl⟩ := one_of rfl l
    cases h
    obtain ⟨M, f, hh⟩ := r.heads l
    obtain ⟨a, xs, g1, e1, t1, d1, _⟩ := dats1 hh
    subst e1
    refine .inl ⟨a, xs, rfl, .inl (.of t1), ?_⟩
    rw [dats_length d1]
    exact q _ _ (r.push fun M => dint)
  | [.tup us], h =>
    obtain ⟨x, rfl⟩ := one_of rfl l
    cases h
    obtain ⟨M, f, hh⟩ := r.heads l
    obtain ⟨a, xs, e1, t1, d1⟩ := dats1 hh
    subst e1
    refine .inl ⟨a, xs, rfl, .inr t1.sq, ?_⟩
    rw [dats_length d1]
    exact q _ _ (r.push fun M => dint)
  | [.str z], h =>
    obtain ⟨x, rfl⟩ := one_of rfl l
    simp only [gLen] at h
    split at h
    · rename_i c
      cases h
      obtain ⟨M, f, hh⟩ := r.heads l
      have e1 := (dats1 hh).1
      subst e1
      exact .inr ⟨z, rfl, of_decide_eq_true c, q _ _ (r.push fun M => dint)⟩
    · cases h
def gTuple : List D → Option D
  | [.lst _ xs] => if D.oks xs then some (.tup xs) else none
  | [.tup xs] => if D.oks xs then some (.tup xs) else none
  | _ => none
theorem call_tupleF : CallR X (.type "tuple") (fun xs H Q => ∃ p ys, xs = [.ref p] ∧ ((SqL X.K H p ys ∧ ∀ l its, H l = none → Q (.ref l) (upd H l (tupH its ys))) ∨ (SqT X.K H p ys ∧ Q (.ref p) H))) := by
  intro pins s σ H xs us Q I r h
  obtain ⟨p, ys, rfl, h⟩ := h
  obtain ⟨u, rfl, rx⟩ := vals1 r
  cases rx
  rcases h with ⟨hq, q⟩ | ⟨hq, q⟩
  · obtain ⟨its, r', pl, hz⟩ := I.list hq
    have hlen := r'.length
    refine call_tuple_list pl.isList (fun h' kp => ?_) (by simp only [List.size_toArray] <;> omega)
    have I1 : Inv X pins σ H { s with heap := h' } := I.kept (t' := s.toks) kp
    exact ⟨.ref h'.objs.size, _, laidT (t' := s.toks) I1 r' hz, rfl, q _ its (I1.hok.fresh (Nat.le_refl _))⟩
  · obtain ⟨its, r', pl, hz⟩ := I.tuple hq
    exact call_tuple_same pl ⟨.ref p, H, I, rfl, q⟩
theorem s_tuple : OpS K cl (fun xs H Q => ∃ p ys, xs = [.ref p] ∧ ((SqL K H p ys ∧ ∀ l its, H l = none → Q (.ref l) (upd H l (tupH its ys))) ∨ (SqT K H p ys ∧ Q (.ref p) H))) gTuple := by
  intro as d vs H κ τ Q h l r q
  match as, h with
  | [.lst m us], h =>
    obtain ⟨x, rfl⟩ := one_of rfl l
    simp only [gTuple] at h
    split at h
    · rename_i c
      cases h
      obtain ⟨f, g, n, hh, hr⟩ := r.split l
      obtain ⟨a, xs, g1, e1, t1, d1, _⟩ := dats1 hh
      subst e1
      exact ⟨a, xs, rfl, .inl ⟨.of t1, fun p its hp => q _ _ (newT n hh hr hp (oks_nil d1 c))⟩⟩
    · cases h
  | [.tup us], h =>
    obtain ⟨x, rfl⟩ := one_of rfl l
    simp only [gTuple] at h
    split at h
    · rename_i c
      cases h
      obtain ⟨f, g, n, hh, hr⟩ := r.split l
      obtain ⟨a, xs, e1, t1, d1⟩ := dats1 hh
      subst e1
      exact ⟨a, xs, rfl, .inr ⟨t1.sq, q _ _ (derive n hh hr ⟨a, xs, rfl, t1, oks_nil d1 c⟩)⟩⟩
    · cases h
def gList : List D → Option D
  | [.lst _ xs] => if D.oks xs then some (.lst true xs) else none
  | [.tup xs] => if D.oks xs then some (.lst true xs) else none
  | [.scr ns] => some (.lst true (ns.map .int))
  | _ => none
def gAbs : List D → Option D := gInt1 fun i => .int (if i < 0 then -i else i)
theorem s_abs : OpS K cl (fun xs H Q => ∃ i, xs = [.int i] ∧ Q (.int (if i < 0 then -i else i)) H) gAbs := by
  intro as d vs H κ τ Q h l r q
  match as, h with
  | [.int i], h =>
    obtain ⟨x, rfl⟩ := one_of rfl l
    cases h
    obtain ⟨M, f, hh⟩ := r.heads l
    have e1 := (dats1 hh).1
    subst e1
    exact ⟨i, rfl, q _ _ (r.push fun M => dint)⟩
def gIntC : List D → Option D
  | [.int i] => some (.int i)
  | [.bl k] => some (.int (if k then 1 else 0))
  | _ => none
theorem s_intC : OpS K cl (fun xs H Q => (∃ i, xs = [.int i] ∧ Q (.int i) H) ∨ ∃ k, xs = [.bl k] ∧ Q (.int (if k then 1 else 0)) H) gIntC := by
  intro as d vs H κ τ Q h l r q
  match as, h with
  | [.int i], h =>
    obtain ⟨x, rfl⟩ := one_of rfl l
    cases h
    obtain ⟨M, f, hh⟩ := r.heads l
    have e1 := (dats1 hh).1
    subst e1
    exact .inl ⟨i, rfl, q _ _ (r.push fun M => dint)⟩
  | [.bl i], h =>
    obtain ⟨x, rfl⟩ := one_of rfl l
    cases h
    obtain ⟨M, f, hh⟩ := r.heads l
    have e1 := (dats1 hh).1
    subst e1
    exact .inr ⟨i, rfl, q _ _ (r.push fun M => dint)⟩
def D.asB : D → Option Bool
  | .bl b => some b
  | _ => none
def D.bools : List D → Option (List Bool)
  | [] => some []
  | d :: ds => (D.asB d).bind fun b => (D.bools ds).map (b :: ·)
theorem dat_asB {M H} {d : D} {b : Bool} {v : V} {f : List Addr} (h : Dat K cl M H d v f) (e : D.asB d = some b) : v = .bl b := by
  cases d with
  | bl c => cases e; exact h.1
  | _ => cases e
theorem dats_bools {M H} : ∀ {ds : List D} {bs : List Bool} {vs : List V} {f : List Addr}, Dats K cl M H ds vs f → D.bools ds = some bs → vs = bs.map V.bl
  | [], _, _, _, h, e => by cases e; exact h.1
  | d :: ds, _, _, _, h, e => by
    obtain ⟨v, vs', f1, f2, rfl, _, h1, h2⟩ := h
    simp only [D.bools, Option.bind_eq_some_iff, Option.map_eq_some_iff] at e
    obtain ⟨b, e1, bs, e, rfl⟩ := e
    rw [dat_asB h1 e1, dats_bools h2 e]
    rfl
@[simp] theorem bools_map {α : Type} (f : α → Bool) : ∀ xs : List α, D.bools (xs.map fun x => .bl (f x)) = some (xs.map f)
  | [] => rfl
  | x :: xs => by
    have ih := bools_map f xs
    simp only [List.map_cons, D.bools, D.asB, Option.bind_some, ih, Option.map_some]
def gAll : List D → Option D
  | [.lst _ xs] => (D.bools xs).map fun bs => .bl (bs.all id)
  | _ => none
def gAny : List D → Option D
  | [.lst _ xs] => (D.bools xs).map fun bs => .bl (bs.any id)
  | _ => none
theorem s_all : OpS K cl (rAll K) gAll := by
  intro as d vs H κ τ Q h l r q
  match as, h with
  | [.lst m us], h =>
    obtain ⟨x, rfl⟩ := one_of rfl l
    simp only [gAll, Option.map_eq_some_iff] at h
    obtain ⟨bs, e, rfl⟩ := h
    obtain ⟨M, f, hh⟩ := r.heads l
    obtain ⟨a, xs, g1, e1, t1, d1, _⟩ := dats1 hh
    subst e1
    have e2 := dats_bools d1 e
    subst e2
    exact ⟨a, bs, rfl, .of t1, q _ _ (r.push fun M => dbl)⟩
/-! ### isinstance -/
inductive Tg where
  | ty (n : String) | cl (c : Nat)
def D.tag : D → Option Tg
  | .non => some (.ty "NoneType") | .bl _ => some (.ty "bool") | .int _ => some (.ty "int") | .str _ => some (.ty "str")
  | .tup _ => some (.ty "tuple") | .lst _ _ => some (.ty "list") | .dct _ _ _ => some (.ty "dict") | .obj _ c _ _ => some (.cl c)
  | _ => none
def tgV (cl : Cl) : Tg → Value
  | .ty n => .type n
  | .cl c => .ref (cl c)
/-- what is known of the own classes -/
structure ClsF (K : PySem.W.Frag) (C : Addr) : Prop where
  c : Cls K C
  ha : PySem.W.findIn K (.ref C) "__class__" = some (some (.builtin "object.__class__"))
  hn : PySem.W.specialIn K (.builtin "object.__class__") "__get__" = some (some (.builtin "getset_descriptor.__get__"))
  ht : PySem.W.takesIn K (.builtin "object.__class__") = some true
  hm : PySem.W.mroIn K C (.type "object") = some true
structure IsaOk (K : PySem.W.Frag) (cl : Cl) (isa : Tg → Tg → Option Bool) : Prop where
  ok : ∀ t u b, isa t u = some b → PySem.W.kitOne K (tgV cl t) (tgV cl u) = some b
  own : ∀ c u b, isa (.cl c) u = some b → ClsF K (cl c)
def D.asT : D → Option Tg
  | .ty n => some (.ty n)
  | .cl c => some (.cl c)
  | _ => none
def gIsi (isa : Tg → Tg → Option Bool) : List D → Option D
  | [a, b] => (D.tag a).bind fun t => (D.asT b).bind fun u => (isa t u).map .bl
  | _ => none
theorem s_isi {isa : Tg → Tg → Option Bool} (hI : IsaOk K cl isa) : OpS K cl (rIsi K) (gIsi isa) := by
  intro as d vs H κ τ Q h l r q
  match as, h with
  | [a, b], h =>
    obtain ⟨x, y, rfl⟩ := two_of rfl l
    simp only [gIsi, Option.bind_eq_some_iff, Option.map_eq_some_iff] at h
    obtain ⟨t, et, u, eu, k, ek, rfl⟩ := h
    obtain ⟨M, f, hh⟩ := r.heads l
    obtain ⟨f1, f2, _, h1, h2⟩ := dats2 hh
    have hc : ClsV y (tgV cl u) := by
      cases b with
      | ty n => cases eu; rw [h2.1]; exact .ty n
      | cl c => cases eu; rw [h2.1]; exact .own _
      | _ => simp [D.asT] at eu
    have ht : TyX K H x (tgV cl t) := by
      cases a with
      | non => cases et; rw [h1.1]; exact .base .non
      | bl b => cases et; rw [h1.1]; exact .base (.bl b)
      | int b => cases et; rw [h1.1]; exact .base (.int b)
      | str b => cases et; rw [h1.1]; exact .base (.str b)
      | tup ds =>
        cases et
        obtain ⟨a, vs, rfl, t, _⟩ := h1
        rcases t with ⟨_, t, _⟩ | ⟨o, its, n, e, c, _⟩
        · exact .fTuple t
        · exact .kTuple e c
      | lst m ds =>
        cases et
        obtain ⟨a, vs, g, rfl, t, _⟩ := h1
        exact .base (.lst t)
      | dct m ks ds =>
        cases et
        obtain ⟨a, vs, g, rfl, t, _⟩ := h1
        exact .base (.dK t)
      | obj m c ns ds =>
        cases et
        obtain ⟨a, dx, vs, g, rfl, t, _⟩ := h1
        have F := hI.own c u k ek
        exact .base (.ins t F.c F.ha F.hn F.ht F.hm)
      | _ => simp [D.tag] at et
    exact ⟨x, y, _, _, k, rfl, hc, ht, hI.ok t u k ek, q _ _ (r.push fun M => dbl)⟩
end
end Tw
noncomputable section
namespace Tw
open PySem PySem.Spec PyProof.Rows L2
section
variable {X : Cx} {cl : Cl} {W : WX} {a b c e : Expr} {es : List Expr} {pos p : Pos} {x : Str}
/-! ### names and constants -/
def fVar (i : Nat) : Ev := fun env => match env[i]? with
  | some (some d) => .ok (D.frz d) (env.set i (some (D.frz d)))
  | _ => .stuck
def fMove (i : Nat) : Ev := fun env => match env[i]? with
  | some (some d) => .ok d (env.set i none)
  | _ => .stuck
theorem j_var {i : Nat} (h : PE X e (tVar i)) : PE X e (tE X.K cl W (fVar i)) := PE.imp h fun σ H Q ⟨τ, κ, env, r, l, q⟩ => by
  unfold fVar at q
  cases e1 : env[i]? with
  | none => rw [e1] at q; exact q.elim
  | some y =>
    cases y with
    | none => rw [e1] at q; exact q.elim
    | some d =>
      rw [e1] at q
      have e2 : (κ ++ env)[κ.length + i]? = some (some d) := by rw [List.getElem?_append_right (by omega)]; simpa using e1
      obtain ⟨v, e3, r2⟩ := r.read e2
      rw [List.getElem?_append_right (by omega), l, Nat.add_sub_cancel_left] at e3
      rw [List.set_append_right _ _ (by omega), Nat.add_sub_cancel_left] at r2
      exact ⟨v, e3, q v H r2⟩
theorem j_move {i : Nat} (h : PE X e (tVar i)) : PE X e (tE X.K cl W (fMove i)) := PE.imp h fun σ H Q ⟨τ, κ, env, r, l, q⟩ => by
  unfold fMove at q
  cases e1 : env[i]? with
  | none => rw [e1] at q; exact q.elim
  | some y =>
    cases y with
    | none => rw [e1] at q; exact q.elim
    | some d =>
      rw [e1] at q
      have e2 : (κ ++ env)[κ.length + i]? = some (some d) := by rw [List.getElem?_append_right (by omega)]; simpa using e1
      obtain ⟨v, e3, r2⟩ := r.take e2
      rw [List.getElem?_append_right (by omega), l, Nat.add_sub_cancel_left] at e3
      rw [List.set_append_right _ _ (by omega), Nat.add_sub_cancel_left] at r2
      exact ⟨v, e3, q v H r2⟩
def fK (d : D) : Ev := fun env => .ok d env
theorem j_c {v : V} {d : D} (h : PE X e (tC v)) (hd : ∀ M H, Dat X.K cl M H d v []) : PE X e (tE X.K cl W (fK d)) := PE.imp h fun σ H Q ⟨τ, κ, env, r, l, q⟩ => q v H (r.push fun M => hd M H)
theorem j_int {i : Int} {j : Nat} : PE X (.Constant (.int i) j pos) (tE X.K cl W (fK (.int i))) := j_c pe_int fun _ _ => dint
theorem j_bl {i : Bool} {j : Nat} : PE X (.Constant (.bool i) j pos) (tE X.K cl W (fK (.bl i))) := j_c pe_bl fun _ _ => dbl
theorem j_non {j : Nat} : PE X (.Constant .none j pos) (tE X.K cl W (fK .non)) := j_c pe_non fun _ _ => ⟨rfl, rfl⟩
theorem j_str {i : Str} {j : Nat} : PE X (.Constant (.str i) j pos) (tE X.K cl W (fK (.str i))) := j_c pe_str fun _ _ => ⟨rfl, rfl⟩
theorem j_gint {i : Int} {t : Tok} (hm : X.mg x = some (.int i t)) (hg : Gl X x := by rfl) (hd : (x == ("__debug__" : Str)) = false := by decide) : PE X (.Name x pos) (tE X.K cl W (fK (.int i))) := j_c (v := .int i) (pe_glob hg hm ⟨_, rfl⟩ hd) fun _ _ => dint
theorem j_ty {n : String} (hm : X.mg x = none) (hv : bootBuiltins x = some (.type n)) (hg : Gl X x := by rfl) (hn : x ≠ "__name__" := by decide) (hd : (x == ("__debug__" : Str)) = false := by decide) : PE X (.Name x pos) (tE X.K cl W (fK (.ty n))) :=
  j_c (pe_bltn (v := .ty n) hg hm hv rfl hn hd) fun _ _ => ⟨rfl, rfl⟩
/-! ### displays -/
def vals (fs : List Ev) : List Opd := fs.map .val
theorem full_vals : ∀ {fs : List Ev} {us : List V} {σ : S} {vs : List V}, Full (vals fs) us σ vs → vs = us ∧ us.length = fs.length
  | [], _, _, _, h => ⟨h.2.trans h.1.symm, by rw [h.1]; rfl⟩
  | f :: fs, _, _, _, h => by
    obtain ⟨u, us', vs', rfl, rfl, h⟩ := h
    obtain ⟨e, l⟩ := full_vals h
    exact ⟨by rw [e], by simp [l]⟩
def fTup (fs : List Ev) : Ev := fun env => (evs (vals fs) env).bind fun ds env1 => .ok (.tup ds) env1
def fLst (fs : List Ev) : Ev := fun env => (evs (vals fs) env).bind fun ds env1 => .ok (.lst true ds) env1
theorem small_line {n : Nat} (h : n ≤ 1000) : n ≤ sizeLine := Nat.le_trans h (by decide)
def tTupF (t : TA) : TE := fun σ H Q => t σ H fun xs H1 => xs.length ≤ sizeLine ∧ ∀ p its, H1 p = none → Q (.ref p) (upd H1 p (tupH its xs))
theorem pe_tupF {t : TA} {x1} (h : PA X es t) : PE X (.Tuple es x1 pos) (tTupF t) := by
  refine ⟨fun pins s σ H Q I hq => ?_⟩
  refine wpAny_Tuple_spliced (thn (h.run pos pins s σ H _ I hq) fun us s1 ⟨xs, H1, I1, r, z, q⟩ => ⟨by rw [← r.length]; exact z, ?_⟩)
  exact ⟨.ref s1.heap.objs.size, _, laidT (t' := s1.toks) I1 r z, rfl, q _ us (I1.hok.fresh (Nat.le_refl _))⟩
theorem j_tup {fs : List Ev} {x1} (h : PA X es (tOs X.K cl W (vals fs))) (hl : fs.length ≤ 1000 := by decide) : PE X (.Tuple es x1 pos) (tE X.K cl W (fTup fs)) := PE.imp (pe_tupF h) fun σ H Q ⟨τ, κ, env, r, l, q⟩ => by
  refine tA_os (os := vals fs) ⟨τ, κ, env, r, l, ?_⟩
  unfold fTup at q
  cases e1 : evs (vals fs) env with
  | ok ds env1 =>
    rw [e1] at q
    intro us vs H' l2 r2 fu
    obtain ⟨rfl, l3⟩ := full_vals fu
    exact ⟨small_line (by omega), fun p its hp => q _ _ (r2.packT l2.symm hp)⟩
  | exc _ _ _ _ => rw [e1] at q; exact q
  | stuck => rw [e1] at q; exact q
theorem j_lst {fs : List Ev} (h : PA X es (tOs X.K cl W (vals fs))) (hl : fs.length ≤ 1000 := by decide) : PE X (.List es pos) (tE X.K cl W (fLst fs)) := PE.imp (pe_lst h) fun σ H Q ⟨τ, κ, env, r, l, q⟩ => by
  refine tA_os (os := vals fs) ⟨τ, κ, env, r, l, ?_⟩
  unfold fLst at q
  cases e1 : evs (vals fs) env with
  | ok ds env1 =>
    rw [e1] at q
    intro us vs H' l2 r2 fu
    obtain ⟨rfl, l3⟩ := full_vals fu
    exact ⟨small_line (by omega), fun p hp => q _ _ (r2.packL l2.symm hp)⟩
  | exc _ _ _ _ => rw [e1] at q; exact q
  | stuck => rw [e1] at q; exact q
/-! ### truth, and, or, not -/
def D.tru : D → Option Bool
  | .non => some false | .bl b => some b | .int i => some (i != 0)
  | .str y => if lenOk y.length then some ((y.length : Int) != 0) else none
  | .tup xs => some (!xs.isEmpty) | .lst _ xs => some (!xs.isEmpty)
  | _ => none
theorem isEmpty_dats {K M H} {ds : List D} {vs : List V} {f : List Addr} (h : Dats K cl M H ds vs f) : vs.isEmpty = ds.isEmpty := by
  have l := dats_length h
  cases vs <;> cases ds <;> simp at l ⊢
theorem dat_tru {K M H} {d : D} {v : V} {f : List Addr} {k : Bool} (h : Dat K cl M H d v f) (e : D.tru d = some k) : TruV K v H k := by
  cases d with
  | non => cases e; rw [h.1]; rfl
  | bl b => cases e; rw [h.1]; rfl
  | int b => cases e; rw [h.1]; rfl
  | str y =>
    simp only [D.tru] at e
    split at e
    · rename_i c
      cases e; rw [h.1]; exact ⟨of_decide_eq_true c, rfl⟩
    · cases e
  | tup ds =>
    cases e
    obtain ⟨a, vs, rfl, t, hd⟩ := h
    exact .inr (.inl ⟨vs, t.sq, by rw [isEmpty_dats hd]⟩)
  | lst m ds =>
    cases e
    obtain ⟨a, vs, g, rfl, t, hd, _⟩ := h
    exact .inl ⟨vs, .of t, by rw [isEmpty_dats hd]⟩
  | _ => simp [D.tru] at e
def fAnd (fa fb : Ev) : Ev := fun env => (fa env).bind fun d env1 => match D.tru d with
  | some true => fb env1
  | some false => .ok d env1
  | none => .stuck
def fOr (fa fb : Ev) : Ev := fun env => (fa env).bind fun d env1 => match D.tru d with
  | some false => fb env1
  | some true => .ok d env1
  | none => .stuck
def fNot (fa : Ev) : Ev := fun env => (fa env).bind fun d env1 => match D.tru d with
  | some k => .ok (.bl (!k)) env1
  | none => .stuck
variable {fa fb fc : Ev} {rest : List Expr}
theorem j_and (ha : PE X a (tE X.K cl W fa)) (hb : PE X (.BoolOp .And (b :: rest) pos) (tE X.K cl W fb)) : PE X (.BoolOp .And (a :: b :: rest) pos) (tE X.K cl W (fAnd fa fb)) := PE.imp (pe_andT ha hb) fun σ H Q ⟨τ, κ, env, r, l, q⟩ => by
  refine tE_bind r l q fun d env1 v H1 h1 r1 => ?_
  obtain ⟨M, f, hd⟩ := r1.head
  cases e1 : D.tru d with
  | none => rw [e1] at h1; exact h1.elim
  | some k =>
    rw [e1] at h1
    refine ⟨k, dat_tru hd e1, ?_⟩
    cases k with
    | true =>
      rw [if_pos rfl]
      exact ⟨τ, κ, env1, r1.pop, l, h1⟩
    | false =>
      rw [if_neg Bool.false_ne_true]
      exact h1 v H1 r1
theorem j_one {op} (ha : PE X a (tE X.K cl W fa)) : PE X (.BoolOp op [a] pos) (tE X.K cl W fa) := pe_one ha
theorem j_not (ha : PE X a (tE X.K cl W fa)) : PE X (.UnaryOp .Not a pos) (tE X.K cl W (fNot fa)) := PE.imp (pe_notT ha) fun σ H Q ⟨τ, κ, env, r, l, q⟩ => by
  refine tE_bind r l q fun d env1 v H1 h1 r1 => ?_
  obtain ⟨M, f, hd⟩ := r1.head
  cases e1 : D.tru d with
  | none => rw [e1] at h1; exact h1.elim
  | some k =>
    rw [e1] at h1
    exact ⟨k, dat_tru hd e1, h1 _ _ (r1.pop.push fun M => dbl)⟩
/-! ### tests -/
abbrev EvB := Tw.Env → Rs Bool
def tT (K : PySem.W.Frag) (cl : Cl) (W : WX) (f : EvB) : TT := fun σ H Q => ∃ (τ : S) (κ env : Tw.Env), Rel K cl H (κ ++ env) (τ ++ σ) ∧ τ.length = κ.length ∧
  (f env).P (fun k env' => ∀ H', Rel K cl H' (κ ++ env') (τ ++ σ) → Q k H') (WP K cl W κ τ σ)
def bE (f : Ev) : EvB := fun env => (f env).bind fun d env1 => match D.tru d with
  | some k => .ok k env1
  | none => .stuck
def bAnd (f g : EvB) : EvB := fun env => (f env).bind fun k env1 => if k = true then g env1 else .ok false env1
def bOr (f g : EvB) : EvB := fun env => (f env).bind fun k env1 => if k = true then .ok true env1 else g env1
def bNot (f : EvB) : EvB := fun env => (f env).bind fun k env1 => .ok (!k) env1
theorem tT_bind {β : Type} {K : PySem.W.Frag} {f : EvB} {k : Bool → Tw.Env → Rs β} {ok : β → Tw.Env → Prop} {τ σ : S} {κ env : Tw.Env} {H : Hp} {Q : Bool → Hp → Prop} (r : Rel K cl H (κ ++ env) (τ ++ σ)) (l : τ.length = κ.length) (h : ((f env).bind k).P ok (WP K cl W κ τ σ))
    (hk : ∀ d env1 H1, (k d env1).P ok (WP K cl W κ τ σ) → Rel K cl H1 (κ ++ env1) (τ ++ σ) → Q d H1) : tT K cl W f σ H Q := by
  refine ⟨τ, κ, env, r, l, ?_⟩
  cases e : f env with
  | ok d env1 =>
    rw [e] at h
    exact fun H1 r1 => hk d env1 H1 h r1
  | exc c ns ds env1 => rw [e] at h; exact h
  | stuck => rw [e] at h; exact h
theorem t_e (ha : PE X a (tE X.K cl W fa)) (he : ∀ whole, isTrue a X.env whole = (do let v ← whole; standAt a.pos; holding [v] (truthy v)) := by intro _; rfl) : PT X a (tT X.K cl W (bE fa)) := PT.imp (pt_truth ha he) fun σ H Q ⟨τ, κ, env, r, l, q⟩ => by
  refine tE_bind r l q fun d env1 v H1 h1 r1 => ?_
  obtain ⟨M, f, hd⟩ := r1.head
  cases e1 : D.tru d with
  | none => rw [e1] at h1; exact h1.elim
  | some k =>
    rw [e1] at h1
    exact ⟨k, dat_tru hd e1, h1 H1 r1.pop⟩
/-- a comparison as a test -/
theorem t_cmp {op : CmpOp} {r : R2} {g : List D → Option D} {o1 o2 : Opd} (ho : OpR X (compareOp op) r) (hs : OpS X.K cl (rw2 r) g) (hb2 : ∀ as d, g as = some d → ∃ k, d = .bl k) (hm : behindInMarks op b = false) (ha : PE X a (tOpd X.K cl W o1)) (hb : PE X b (tOpd X.K cl W o2)) :
    PT X (.Compare a [op] [b] pos) (tT X.K cl W (bE (fN g [o1, o2]))) := PT.imp (pt_cmpR ho ha hb hm) fun σ H Q ⟨τ, κ, env, r, l, q⟩ => by
  refine tA_os (os := [o1, o2]) (fN_tA hs ⟨τ, κ, env, r, l, ?_⟩)
  unfold bE at q
  cases e : fN g [o1, o2] env with
  | ok d env1 =>
    rw [e] at q
    have hk : ∃ k, d = .bl k := by
      unfold fN at e
      cases e2 : evs [o1, o2] env with
      | ok ds env2 =>
        rw [e2] at e
        simp only [Rs.bind_ok] at e
        split at e
        · rename_i d' e3
          cases e
          obtain ⟨p, _, e3⟩ := Option.bind_eq_some_iff.mp e3
          exact hb2 _ _ e3
        · cases e
      | exc _ _ _ _ => rw [e2] at e; cases e
      | stuck => rw [e2] at e; cases e
    obtain ⟨k, rfl⟩ := hk
    intro v H' r2
    obtain ⟨M, f, hd⟩ := r2.head
    exact ⟨k, hd.1, q H' r2.pop⟩
  | exc _ _ _ _ => rw [e] at q; exact q
  | stuck => rw [e] at q; exact q
variable {ba bb : EvB}
theorem t_and (ha : PT X a (tT X.K cl W ba)) (hb : PW X (.BoolOp .And (b :: rest) pos) (tT X.K cl W bb)) : PW X (.BoolOp .And (a :: b :: rest) pos) (tT X.K cl W (bAnd ba bb)) := ⟨fun whole pins s σ H Q I ⟨τ, κ, env, r, l, q⟩ => by
  refine (pw_and ha hb).run whole pins s σ H Q I (tT_bind r l q fun k env1 H1 h1 r1 => ?_)
  cases k with
  | true => rw [if_pos rfl] at h1 ⊢; exact ⟨τ, κ, env1, r1, l, h1⟩
  | false => rw [if_neg Bool.false_ne_true] at h1 ⊢; exact h1 H1 r1⟩
theorem t_or (ha : PT X a (tT X.K cl W ba)) (hb : PW X (.BoolOp .Or (b :: rest) pos) (tT X.K cl W bb)) : PW X (.BoolOp .Or (a :: b :: rest) pos) (tT X.K cl W (bOr ba bb)) := ⟨fun whole pins s σ H Q I ⟨τ, κ, env, r, l, q⟩ => by
  refine (pw_or ha hb).run whole pins s σ H Q I (tT_bind r l q fun k env1 H1 h1 r1 => ?_)
  cases k with
  | false => rw [if_neg Bool.false_ne_true] at h1 ⊢; exact ⟨τ, κ, env1, r1, l, h1⟩
  | true => rw [if_pos rfl] at h1 ⊢; exact h1 H1 r1⟩
theorem t_and1 (ha : PT X a (tT X.K cl W ba)) : PW X (.BoolOp .And [a] pos) (tT X.K cl W ba) := pw_and1 ha
theorem t_or1 (ha : PT X a (tT X.K cl W ba)) : PW X (.BoolOp .Or [a] pos) (tT X.K cl W ba) := pw_or1 ha
theorem t_not (ha : PT X a (tT X.K cl W ba)) : PT X (.UnaryOp .Not a pos) (tT X.K cl W (bNot ba)) := PT.imp (pt_not ha) fun σ H Q ⟨τ, κ, env, r, l, q⟩ => tT_bind r l q fun k env1 H1 h1 r1 => h1 H1 r1
def fIf (t : EvB) (f g : Ev) : Ev := fun env => (t env).bind fun k env1 => if k = true then f env1 else g env1
theorem j_if (hc : PT X c (tT X.K cl W ba)) (ha : PE X a (tE X.K cl W fa)) (hb : PE X b (tE X.K cl W fb)) : PE X (.IfExp c a b pos) (tE X.K cl W (fIf ba fa fb)) := PE.imp (pe_ifExp hc ha hb) fun σ H Q ⟨τ, κ, env, r, l, q⟩ => tT_bind r l q fun k env1 H1 h1 r1 => by
  cases k with
  | true => rw [if_pos rfl] at h1 ⊢; exact ⟨τ, κ, env1, r1, l, h1⟩
  | false => rw [if_neg Bool.false_ne_true] at h1 ⊢; exact ⟨τ, κ, env1, r1, l, h1⟩
/-- a < b < c -/
def fChain (g g' : List D → Option D) (fa fb fc : Ev) : Ev := fun env => (fa env).bind fun x env1 => (fb env1).bind fun y env2 => match g [x, y] with
  | some (.bl true) => (fc env2).bind fun z env3 => match g' [y, z] with
    | some d => .ok d env3
    | none => .stuck
  | some (.bl false) => .ok (.bl false) env2
  | _ => .stuck
theorem tE_bind1 {β : Type} {K : PySem.W.Frag} {f : Ev} {k : D → Tw.Env → Rs β} {ok : β → Tw.Env → Prop} {A : Tw.Env} {Y τ σ : S} {κ env : Tw.Env} {H : Hp} {Q : VK} (ly : Y.length = A.length) (r : Rel K cl H (A ++ (κ ++ env)) (Y ++ (τ ++ σ))) (l : τ.length = κ.length) (h : ((f env).bind k).P ok (WP K cl W κ τ σ))
    (hk : ∀ d env1 v H1, (k d env1).P ok (WP K cl W κ τ σ) → Rel K cl H1 (some d :: (A ++ (κ ++ env1))) (some v :: (Y ++ (τ ++ σ))) → Q v H1) : tE K cl W f σ H Q := by
  refine ⟨Y ++ τ, A ++ κ, env, by rwa [List.append_assoc, List.append_assoc], by simp [ly, l], ?_⟩
  cases e : f env with
  | ok d env1 =>
    rw [e] at h
    exact fun v H1 r1 => hk d env1 v H1 h (by rwa [List.append_assoc, List.append_assoc] at r1)
  | exc c ns ds env1 => rw [e] at h; exact WP.weak ly h
  | stuck => rw [e] at h; exact h
theorem rd_chain {K : PySem.W.Frag} {r r' : R2} {g g' : List D → Option D} (hs : OpS K cl (rw2 r) g) (hs' : OpS K cl (rw2 r') g') {σ : S} {H : Hp} {Q : VK} (h : tE K cl W (fChain g g' fa fb fc) σ H Q) : tChain r r' (tE K cl W fa) (tE K cl W fb) (tE K cl W fc) σ H Q := by
  obtain ⟨τ, κ, env, r, l, q⟩ := h
  refine tE_bind r l q fun d env1 v H1 h1 r1 => ?_
  refine tE_bind1 (A := [some d]) (Y := [some v]) rfl r1 l h1 fun d2 env2 v2 H2 h2 r2 => ?_
  have r3 : Rel K cl H2 (List.map some [d, d2] ++ (κ ++ env2)) (List.map some [v, v2] ++ (τ ++ σ)) := Rel.swap3 (A := [some d2]) (X := [some v2]) (B := [some d]) (Y := [some v]) r2 rfl rfl
  cases eg : g [d, d2] with
  | none => rw [eg] at h2; exact h2.elim
  | some z =>
    rw [eg] at h2
    refine hs [d, d2] z [v, v2] H2 _ _ _ eg rfl r3 fun u H3 r4 => ?_
    cases z with
    | bl k =>
      obtain ⟨M, f, hz⟩ := r4.head
      refine ⟨k, hz.1, ?_⟩
      have r5 := r4.pop
      cases k with
      | true =>
        rw [if_pos rfl]
        refine tE_bind1 (A := [some d, some d2]) (Y := [some v, some v2]) rfl r5 l h2 fun d3 env3 v3 H4 h4 r6 => ?_
        have r7 : Rel K cl H4 (List.map some [d2, d3] ++ (κ ++ env3)) (List.map some [v2, v3] ++ (τ ++ σ)) :=
          Rel.swap3 (A := [some d3]) (X := [some v3]) (B := [some d2]) (Y := [some v2]) (Rel.drop (A := [some d]) (X := [some v]) (Rel.swap3 (A := [some d3]) (X := [some v3]) (B := [some d]) (Y := [some v]) r6 rfl rfl) rfl) rfl rfl
        cases eg' : g' [d2, d3] with
        | none => simp only [eg'] at h4; exact h4.elim
        | some w =>
          simp only [eg'] at h4
          refine hs' [d2, d3] w [v2, v3] H4 _ _ _ eg' rfl r7 fun u' H5 r8 => h4 u' H5 ?_
          exact Rel.drop (A := [some d2, some d3]) (X := [some v2, some v3]) (Rel.swap3 (A := [some w]) (X := [some u']) (B := [some d2, some d3]) (Y := [some v2, some v3]) r8 rfl rfl) rfl
      | false =>
        rw [if_neg Bool.false_ne_true]
        exact h2 _ _ ((Rel.drop (A := [some d, some d2]) (X := [some v, some v2]) r5 rfl).push fun M => dbl)
    | _ => exact h2.elim
theorem j_chain {op op' : CmpOp} {r r' : R2} {g g' : List D → Option D} (ho : OpR X (compareOp op) r) (hs : OpS X.K cl (rw2 r) g) (ho' : OpR X (compareOp op') r') (hs' : OpS X.K cl (rw2 r') g')
    (ha : PE X a (tE X.K cl W fa)) (hb : PE X b (tE X.K cl W fb)) (hc : PE X c (tE X.K cl W fc)) (hm : lastMarks [op, op'] [b, c] = false := by with_unfolding_all rfl) :
    PE X (.Compare a [op, op'] [b, c] pos) (tE X.K cl W (fChain g g' fa fb fc)) := PE.imp (pe_chain ho ho' ha hb hc hm) fun σ H Q h => rd_chain hs hs' h
theorem t_chain {op op' : CmpOp} {r r' : R2} {g g' : List D → Option D} (ho : OpR X (compareOp op) r) (hs : OpS X.K cl (rw2 r) g) (ho' : OpR X (compareOp op') r') (hs' : OpS X.K cl (rw2 r') g') (hb2 : ∀ as d, g' as = some d → ∃ k, d = .bl k)
    (ha : PE X a (tE X.K cl W fa)) (hb : PE X b (tE X.K cl W fb)) (hc : PE X c (tE X.K cl W fc)) (hm : lastMarks [op, op'] [b, c] = false := by with_unfolding_all rfl) :
    PT X (.Compare a [op, op'] [b, c] pos) (tT X.K cl W (bE (fChain g g' fa fb fc))) := PT.imp (pt_chain ho ho' ha hb hc hm) fun σ H Q ⟨τ, κ, env, r, l, q⟩ => by
  refine rd_chain hs hs' ⟨τ, κ, env, r, l, ?_⟩
  unfold bE at q
  cases e : fChain g g' fa fb fc env with
  | ok d env1 =>
    rw [e] at q
    have hk : ∃ k, d = .bl k := by
      unfold fChain at e
      cases e1 : fa env with
      | ok x env1 =>
        rw [e1, Rs.bind_ok] at e
        cases e2 : fb env1 with
        | ok y env2 =>
          rw [e2, Rs.bind_ok] at e
          split at e
          · cases e3 : fc env2 with
            | ok z env3 =>
              rw [e3, Rs.bind_ok] at e
              split at e
              · rename_i d' e4
                cases e
                exact hb2 _ _ e4
              · cases e
            | exc _ _ _ _ => rw [e3] at e; cases e
            | stuck => rw [e3] at e; cases e
          · cases e; exact ⟨_, rfl⟩
          · cases e
        | exc _ _ _ _ => rw [e2] at e; cases e
        | stuck => rw [e2] at e; cases e
      | exc _ _ _ _ => rw [e1] at e; cases e
      | stuck => rw [e1] at e; cases e
    obtain ⟨k, rfl⟩ := hk
    intro v H' r2
    obtain ⟨M, f, hd⟩ := r2.head
    exact ⟨k, hd.1, q H' r2.pop⟩
  | exc _ _ _ _ => rw [e] at q; exact q
  | stuck => rw [e] at q; exact q
theorem eq_bl {as : List D} {d : D} (h : gEq as = some d) : ∃ k, d = .bl k := by
  match as, h with
  | [a, b], h =>
    simp only [gEq, Option.bind_eq_some_iff] at h
    obtain ⟨_, _, _, _, h⟩ := h
    split at h
    · cases h; exact ⟨_, rfl⟩
    · cases h
theorem ne_bl {as : List D} {d : D} (h : gNe as = some d) : ∃ k, d = .bl k := by
  match as, h with
  | [a, b], h =>
    simp only [gNe, Option.bind_eq_some_iff] at h
    obtain ⟨_, _, _, _, h⟩ := h
    split at h
    · cases h; exact ⟨_, rfl⟩
    · cases h
end
end Tw
noncomputable section
namespace Tw
open PySem PySem.Spec PyProof.Rows L2
/-! ### slices -/
def cutD {α : Type} (xs : List α) (lo hi : Option Int) : List α := (xs.drop (HT.sIx xs.length 0 lo)).take (HT.sIx xs.length xs.length hi - HT.sIx xs.length 0 lo)
def gSl : D → Option Int → Option Int → Option D
  | .lst _ xs, lo, hi => if D.oks xs then some (.lst true (cutD xs lo hi)) else none
  | .tup xs, lo, hi => if D.oks xs then some (.tup (cutD xs lo hi)) else none
  | .scr ns, lo, hi => some (.lst true ((cutD ns lo hi).map .int))
  | _, _, _ => none
def D.asI : D → Option Int
  | .int i => some i
  | _ => none
def fPart : Option Ev → Tw.Env → Rs (Option Int)
  | none, env => .ok none env
  | some f, env => (f env).bind fun d env1 => match D.asI d with
    | some i => .ok (some i) env1
    | none => .stuck
def fSl (fa : Ev) (lo hi : Option Ev) : Ev := fun env => (fa env).bind fun d env1 => (fPart lo env1).bind fun l env2 => (fPart hi env2).bind fun h env3 => match gSl d l h with
  | some r => .ok r env3
  | none => .stuck
section
variable {X : Cx} {cl : Cl} {W : WX} {a b c e : Expr} {es : List Expr} {pos p : Pos} {x : Str} {fa fb fc : Ev}
theorem dat_asI {K M H} {d : D} {i : Int} {v : V} {f : List Addr} (h : Dat K cl M H d v f) (e : D.asI d = some i) : v = .int i := by
  cases d with
  | int c => cases e; exact h.1
  | _ => cases e
theorem cutD_dats {K M H} {ds : List D} {vs : List V} (h : Dats K cl M H ds vs []) (lo hi : Option Int) : Dats K cl M H (cutD ds lo hi) (cutV vs lo hi) [] := by
  unfold cutD cutV
  rw [dats_length h]
  exact dats_take _ (dats_drop _ h)
theorem cutV_whole {xs : List V} {lo hi : Option Int} (h : HT.sIx xs.length 0 lo = 0 ∧ HT.sIx xs.length xs.length hi = xs.length) : cutV xs lo hi = xs := by
  unfold cutV
  rw [h.1, h.2]
  simp
theorem cut_ints (ns : List Int) (lo hi : Option Int) : cutV (ns.map V.int) lo hi = (cutD ns lo hi).map V.int := by
  unfold cutV cutD
  rw [List.length_map, List.map_take, List.map_drop]
def PartOk (X : Cx) (cl : Cl) (W : WX) (e : Option Expr) (f : Option Ev) (t : TO) : Prop := PO X e t ∧ ((f = none ∧ t = tNoPart) ∨ ∃ g, f = some g ∧ t = tPart (tE X.K cl W g))
theorem part_none : PartOk X cl W none none tNoPart := ⟨po_none, .inl ⟨rfl, rfl⟩⟩
theorem part_some (h : PE X e (tE X.K cl W fa)) : PartOk X cl W (some e) (some fa) (tPart (tE X.K cl W fa)) := ⟨po_some h, .inr ⟨_, rfl, rfl⟩⟩
theorem rd_part {K : PySem.W.Frag} {f : Option Ev} {t : TO} (ht : (f = none ∧ t = tNoPart) ∨ ∃ g, f = some g ∧ t = tPart (tE K cl W g)) {β : Type} {k : Option Int → Tw.Env → Rs β} {ok : β → Tw.Env → Prop} {A : Tw.Env} {Y τ σ : S} {κ env : Tw.Env} {H : Hp} {Q : Option Int → Hp → Prop}
    (ly : Y.length = A.length) (r : Rel K cl H (A ++ (κ ++ env)) (Y ++ (τ ++ σ))) (l : τ.length = κ.length) (h : ((fPart f env).bind k).P ok (WP K cl W κ τ σ))
    (hk : ∀ i env1 H1, (k i env1).P ok (WP K cl W κ τ σ) → Rel K cl H1 (A ++ (κ ++ env1)) (Y ++ (τ ++ σ)) → Q i H1) : t σ H Q := by
  rcases ht with ⟨rfl, rfl⟩ | ⟨g, rfl, rfl⟩
  · exact hk none env H h r
  · have h2 : ((g env).bind fun d env1 => (match D.asI d with | some i => Rs.ok (some i) env1 | none => Rs.stuck).bind k).P ok (WP K cl W κ τ σ) := by
      cases e : g env with
      | ok d env1 => simp only [fPart, e, Rs.bind_ok] at h ⊢; exact h
      | exc _ _ _ _ => simp only [fPart, e, Rs.bind_exc] at h ⊢; exact h
      | stuck => simp only [fPart, e, Rs.bind_stuck] at h ⊢; exact h
    refine tE_bind1 ly r l h2 fun d env1 v H1 h1 r1 => ?_
    cases e2 : D.asI d with
    | none => rw [e2] at h1; exact h1.elim
    | some i =>
      rw [e2] at h1
      obtain ⟨M, f, hd⟩ := r1.head
      exact ⟨i, dat_asI hd e2, hk _ _ _ h1 r1.pop⟩
def rSlF (K : PySem.W.Frag) : V → Option Int → Option Int → Hp → VK → Prop := fun x lo hi H Q => ∃ a xs, x = .ref a ∧ SqT K H a xs ∧
  (HT.sIx xs.length 0 lo = 0 ∧ HT.sIx xs.length xs.length hi = xs.length → Q (.ref a) H) ∧ (¬ (HT.sIx xs.length 0 lo = 0 ∧ HT.sIx xs.length xs.length hi = xs.length) → ∀ p its, H p = none → Q (.ref p) (upd H p (tupH its (cutV xs lo hi))))
theorem sl_tupF : SlR X (rSlF X.K) := by
  intro pins s σ H x v vl vu lo hi sl Q I rx hs pl pu h
  obtain ⟨a, xs, rfl, hx, q1, q2⟩ := h
  cases rx
  obtain ⟨its, r, ht, hz⟩ := I.tuple hx
  have hlen : its.toArray.size = xs.length := by rw [List.size_toArray]; exact r.length.symm
  refine ⟨"tuple", _, PyProof.Rows.slot_tuple_getitem.lookup, ht.typeIs, ?_⟩
  by_cases hw : HT.sIx xs.length 0 lo = 0 ∧ HT.sIx xs.length xs.length hi = xs.length
  · exact getItem_tuple_whole ht hs pl pu (by rw [hlen]; exact hw) ⟨.ref a, H, I, rfl, q1 hw⟩
  · refine HT.getItem_tuple_cut ht hs pl pu (by rw [hlen]; exact hw) ?_ (by rw [hlen]; exact hz)
    rw [hlen]
    exact ⟨.ref s.heap.objs.size, _, laidT (t' := s.toks) I ((r.drop (HT.sIx xs.length 0 lo)).take (HT.sIx xs.length xs.length hi - HT.sIx xs.length 0 lo)) (Nat.le_trans (cutV_length xs lo hi) hz), rfl, q2 hw _ _ (I.hok.fresh (Nat.le_refl _))⟩
def rSlAll (K : PySem.W.Frag) : V → Option Int → Option Int → Hp → VK → Prop := fun x lo hi H Q => rSlL K x lo hi H Q ∨ rSlF K x lo hi H Q
theorem sl_all : SlR X (rSlAll X.K) := sl_list.or sl_tupF
theorem j_sl {lo hi : Option Expr} {fl fh : Option Ev} {tl th : TO} {p2 : Pos} (he : PE X a (tE X.K cl W fa)) (hl : PartOk X cl W lo fl tl) (hh : PartOk X cl W hi fh th) : PE X (.Subscript a (.Slice lo hi none p2) pos) (tE X.K cl W (fSl fa fl fh)) :=
  PE.imp (pe_slice sl_all he hl.1 hh.1) fun σ H Q ⟨τ, κ, env, r, l, q⟩ => by
  refine tE_bind r l q fun d env1 v H1 h1 r1 => ?_
  refine rd_part (A := [some d]) (Y := [some v]) hl.2 rfl r1 l h1 fun lo env2 H2 h2 r2 => ?_
  refine rd_part (A := [some d]) (Y := [some v]) hh.2 rfl r2 l h2 fun hi env3 H3 h3 r3 => ?_
  cases e : gSl d lo hi with
  | none => rw [e] at h3; exact h3.elim
  | some d2 =>
    rw [e] at h3
    have r4 : Rel X.K cl H3 (List.map some [d] ++ (κ ++ env3)) (List.map some [v] ++ (τ ++ σ)) := r3
    have fin : ∀ {d2 v2 H4}, Rel X.K cl H4 (some d2 :: (List.map some [d] ++ (κ ++ env3))) (some v2 :: (List.map some [v] ++ (τ ++ σ))) → Rel X.K cl H4 (some d2 :: (κ ++ env3)) (some v2 :: (τ ++ σ)) := fun {d2 v2 H4} r5 =>
      Rel.drop (A := [some d]) (X := [some v]) (Rel.swap3 (A := [some d2]) (X := [some v2]) (B := [some d]) (Y := [some v]) r5 rfl rfl) rfl
    cases d with
    | lst m us =>
      simp only [gSl] at e
      split at e
      · rename_i c
        cases e
        obtain ⟨f, g, n, hh, hr⟩ := r4.split rfl
        obtain ⟨ad, xs, g1, e1, t1, d1, _⟩ := dats1 hh
        subst e1
        exact .inl ⟨ad, xs, rfl, .of t1, fun p hp => h3 _ _ (fin (newL n hh hr hp (cutD_dats (oks_nil d1 c) lo hi)))⟩
      · cases e
    | tup us =>
      simp only [gSl] at e
      split at e
      · rename_i c
        cases e
        obtain ⟨f, g, n, hh, hr⟩ := r4.split rfl
        obtain ⟨ad, xs, e1, t1, d1⟩ := dats1 hh
        subst e1
        have d2 := cutD_dats (oks_nil d1 c) lo hi
        refine .inr ⟨ad, xs, rfl, t1.sq, fun z => h3 _ _ (fin (derive n hh hr ⟨ad, xs, rfl, t1, ?_⟩)), fun _ p its hp => h3 _ _ (fin (newT n hh hr hp d2))⟩
        rwa [cutV_whole z] at d2
      · cases e
    | scr ns =>
      cases e
      obtain ⟨f, g, n, hh, hr⟩ := r4.split rfl
      obtain ⟨_, ad, e1, t1⟩ := dats1 hh
      subst e1
      refine .inl ⟨ad, _, rfl, t1.sq, fun p hp => h3 _ _ (fin (newL n hh hr hp ?_))⟩
      rw [cut_ints]
      exact ints_dats _
    | _ => simp [gSl] at e
/-! ### attributes -/
def lookD : List Str → List D → Str → Option D
  | n :: ns, d :: ds, x => if x = n then some d else lookD ns ds x
  | _, _, _ => none
def gFld (own : Nat → Bool) (f : Str) : List D → Option D
  | [.obj _ c ns ds] => if own c then (lookD ns ds f).bind fun d => if D.ok d then some d else none else none
  | _ => none
theorem lookD_dats {K M H} {f : Str} : ∀ {ns : List Str} {ds : List D} {vs : List V} {g : List Addr} {d : D}, Dats K cl M H ds vs g → lookD ns ds f = some d → D.ok d = true → ∃ v, (ns.zip vs).lookup f = some v ∧ Dat K cl M H d v []
  | n :: ns, d' :: ds, vs, g, d, h, e, o => by
    obtain ⟨v, vs', f1, f2, rfl, _, h1, h2⟩ := h
    unfold lookD at e
    by_cases c : f = n
    · rw [if_pos c] at e
      cases e
      refine ⟨v, by rw [List.zip_cons_cons, c, List.lookup_cons_self], ?_⟩
      have e2 := dat_ok h1 o
      rwa [e2] at h1
    · rw [if_neg c] at e
      obtain ⟨v', e1, hd⟩ := lookD_dats h2 e o
      refine ⟨v', ?_, hd⟩
      have c' : (f == n) = false := by simpa using c
      rw [List.zip_cons_cons, List.lookup_cons, c', e1]
  | [], _, _, _, _, _, e, _ => by cases e
  | _ :: _, [], _, _, _, _, e, _ => by cases e
def rFld (K : PySem.W.Frag) (f : Str) : V → Hp → VK → Prop := fun x H1 Q => ∃ a C dx fs v, x = .ref a ∧ H1 a = some (.ins C dx fs) ∧ Cls K C ∧ NoAttr K C f ∧ fs.lookup f = some v ∧ Q v H1
structure FldOk (K : PySem.W.Frag) (cl : Cl) (own : Nat → Bool) (f : Str) : Prop where
  ok : ∀ c, own c = true → ClsF K (cl c) ∧ NoAttr K (cl c) f
theorem s_fld {K : PySem.W.Frag} {own : Nat → Bool} {f : Str} (ho : FldOk K cl own f) : OpS K cl (rw1 (rFld K f)) (gFld own f) := by
  intro as d vs H κ τ Q h l r q
  match as, h with
  | [.obj m c ns ds], h =>
    obtain ⟨x, rfl⟩ := one_of rfl l
    simp only [gFld] at h
    split at h
    · rename_i hc
      obtain ⟨d', e, h⟩ := Option.bind_eq_some_iff.mp h
      split at h
      · rename_i o
        cases h
        obtain ⟨f, g, n, hh, hr⟩ := r.split l
        obtain ⟨a, dx, xs, g1, e1, t1, l1, d1, _⟩ := dats1 hh
        subst e1
        obtain ⟨v, e2, hv⟩ := lookD_dats d1 e o
        exact ⟨a, _, dx, _, v, rfl, t1, (ho.ok c hc).1.c, (ho.ok c hc).2, e2, q _ _ (derive n hh hr hv)⟩
      · cases h
    · cases h
theorem j_fld {o1 : Opd} {own : Nat → Bool} {f : Str} (ho : FldOk X.K cl own f) (ha : PE X a (tOpd X.K cl W o1)) (hb : attributeBase a f X.env (eval a X.env) = eval a X.env := by rfl) : PE X (.Attribute a f pos) (tE X.K cl W (fN (gFld own f) [o1])) :=
  PE.imp (pe_fld ha hb) fun σ H Q h => tA_os (os := [o1]) (fN_tA (r := rw1 (rFld X.K f)) (s_fld ho) h)
end
/-! ### calls of defs -/
inductive Rf where
  | ret (d : D) (ios : List D) | exc (c : Nat) (ns : List Str) (ds : List D) (ios : List D) | stuck
def spD (K : PySem.W.Frag) (cl : Cl) (n : Nat) (io : List Nat) (h : List D → Rf) : Sp := fun vs H Q E => vs.length = n ∧ ∃ (τ : S) (κ : Tw.Env) (ds : List D), vs.length = ds.length ∧ τ.length = κ.length ∧ Rel K cl H (ds.map some ++ κ) (vs.map some ++ τ) ∧ match h ds with
  | .ret d ios => ∀ (v : V) (H' : Hp) (us : List V), io.map (fun i => vs[i]?) = us.map some → Rel K cl H' (some d :: (ios.map some ++ κ)) (some v :: (us.map some ++ τ)) → Q v H'
  | .exc c ns es ios => ∀ (cls : Value) (dd : Option Addr) (H' : Hp) (ws us : List V), ExAt cl H' cls dd c ns ws → ws.length = es.length → io.map (fun i => vs[i]?) = us.map some → Rel K cl H' (es.map some ++ (ios.map some ++ κ)) (ws.map some ++ (us.map some ++ τ)) → E cls dd H'
  | .stuck => False
/-- a def that does what h tells -/
def FnD (P : Program) (w : World) (K : PySem.W.Frag) (mg : Str → Option Value) (base : Heap) (cl : Cl) (name : Str) (k n : Nat) (io : List Nat) (h : List D → Rf) : Prop :=
  ∃ f fd ps, mg name = some (.ref f) ∧ PySem.W.keepIn K (.ref f) = true ∧ Binds K fd ps [] ∧ FnOk P w K mg base (L2.CX P w) k f fd ps (spD K cl n io h)
def putIo (os : List Opd) : List Nat → List D → Tw.Env → Option Tw.Env
  | [], [], env => some env
  | p :: io, d :: ios, env => match os[p]? with
    | some (.slot i) => putIo os io ios (env.set i (some d))
    | _ => none
  | _, _, _ => none
def fCall (io : List Nat) (h : List D → Rf) (os : List Opd) : Ev := fun env => (evs os env).bind fun ds env1 => match gat os ds env1 with
  | none => .stuck
  | some (as, env2) => match h as with
    | .ret d ios => match putIo os io ios env2 with
      | some env3 => .ok d env3
      | none => .stuck
    | .exc c ns es ios => match putIo os io ios env2 with
      | some env3 => .exc c ns es env3
      | none => .stuck
    | .stuck => .stuck
section
variable {X : Cx} {cl : Cl} {W : WX} {a b c e : Expr} {es : List Expr} {pos p : Pos} {x : Str}
theorem full_at : ∀ {os : List Opd} {us : List V} {σ : S} {vs : List V} {p i : Nat}, Full os us σ vs → os[p]? = some (.slot i) → ∃ v, vs[p]? = some v ∧ σ[i]? = some (some v)
  | .val _ :: os, us, σ, vs, 0, i, h, e => by cases e
  | .val _ :: os, us, σ, vs, p + 1, i, h, e => by
    obtain ⟨u, us', vs', rfl, rfl, h⟩ := h
    exact full_at (p := p) h (by simpa using e)
  | .slot j :: os, us, σ, vs, 0, i, h, e => by
    obtain ⟨v, vs', e2, rfl, h⟩ := h
    cases e
    exact ⟨v, rfl, e2⟩
  | .slot j :: os, us, σ, vs, p + 1, i, h, e => by
    obtain ⟨v, vs', e2, rfl, h⟩ := h
    exact full_at (p := p) h (by simpa using e)
  | [], _, _, _, _, _, _, e => by simp at e
theorem put_rel {K : PySem.W.Frag} {os : List Opd} {us : List V} {σ : S} {vs : List V} (fu : Full os us σ vs) : ∀ {io : List Nat} {ios : List D} {env env' : Tw.Env} {ws : List V} {H : Hp} {A : Tw.Env} {Y : S} {κ : Tw.Env} {τ : S}, putIo os io ios env = some env' → Y.length = A.length → τ.length = κ.length → σ.length = env.length → io.map (fun i => vs[i]?) = ws.map some →
    Rel K cl H (A ++ (ios.map some ++ (κ ++ env))) (Y ++ (ws.map some ++ (τ ++ σ))) → Rel K cl H (A ++ (κ ++ env')) (Y ++ (τ ++ σ))
  | [], [], env, env', ws, H, A, Y, κ, τ, e, ly, l, ls, ew, r => by
    cases e
    have e2 : ws = [] := by simpa using ew.symm
    subst e2
    exact r
  | p :: io, d :: ios, env, env', ws, H, A, Y, κ, τ, e, ly, l, ls, ew, r => by
    unfold putIo at e
    split at e
    · rename_i i e1
      obtain ⟨v, e2, e3⟩ := full_at fu e1
      cases ws with
      | nil => simp at ew
      | cons w ws =>
        simp only [List.map_cons, List.cons.injEq] at ew
        obtain ⟨ew1, ew⟩ := ew
        rw [e2] at ew1
        cases ew1
        have lw : ws.length = ios.length := by
          have q := r.len
          simp only [List.length_append, List.length_map, List.length_cons] at q
          omega
        have r2 : Rel K cl H (some d :: ((A ++ ios.map some) ++ (κ ++ env))) (some v :: ((Y ++ ws.map some) ++ (τ ++ σ))) := by
          have r3 := Rel.swap3 (A := A) (X := Y) (B := [some d]) (Y := [some v]) (C := ios.map some ++ (κ ++ env)) (Z := ws.map some ++ (τ ++ σ)) r ly rfl
          rw [List.append_assoc, List.append_assoc]
          exact r3
        have e4 : ((Y ++ ws.map some) ++ (τ ++ σ))[(Y ++ ws.map some).length + (τ.length + i)]? = some (some v) := by
          rw [List.getElem?_append_right (by omega), Nat.add_sub_cancel_left, List.getElem?_append_right (by omega), Nat.add_sub_cancel_left]
          exact e3
        have r4 := Rel.back r2 e4
        have e5 : ((A ++ ios.map some) ++ (κ ++ env)).set ((Y ++ ws.map some).length + (τ.length + i)) (some d) = A ++ (ios.map some ++ (κ ++ env.set i (some d))) := by
          have e6 : (Y ++ ws.map some).length = (A ++ ios.map some).length := by simp [ly, lw]
          rw [e6, l, List.set_append_right _ _ (by omega), Nat.add_sub_cancel_left, List.set_append_right _ _ (by omega), Nat.add_sub_cancel_left, List.append_assoc]
        rw [e5] at r4
        rw [List.append_assoc] at r4
        exact put_rel fu (io := io) (ios := ios) (env := env.set i (some d)) e ly l (by simp [ls]) ew r4
    · cases e
  | [], _ :: _, _, _, _, _, _, _, _, _, e, _, _, _, _, _ => by cases e
  | _ :: _, [], _, _, _, _, _, _, _, _, e, _, _, _, _, _ => by cases e
theorem rd_call {K : PySem.W.Frag} {n : Nat} {io : List Nat} {h : List D → Rf} {os : List Opd} (hn : os.length = n) {σ : S} {H : Hp} {Q : VK} (q : tE K cl W (fCall io h os) σ H Q) : tCallSD (spD K cl n io h) [] (fun σ cls dd H' => W cls dd σ H') (tOs K cl W os) σ H Q := by
  obtain ⟨τ, κ, env, r, l, q⟩ := q
  refine tA_os (os := os) ⟨τ, κ, env, r, l, ?_⟩
  have l0 : σ.length = env.length := by
    have z := r.len
    simp only [List.length_append] at z
    omega
  unfold fCall at q
  cases e1 : evs os env with
  | ok ds env1 =>
    rw [e1, Rs.bind_ok] at q
    intro us vs H' l2 r2 fu
    cases e2 : gat os ds env1 with
    | none => rw [e2] at q; exact q.elim
    | some pr =>
      obtain ⟨as, env2⟩ := pr
      rw [e2] at q
      simp only at q
      obtain ⟨l3, r3, _⟩ := gat_rel r2 l2 l fu e2
      have l1 : σ.length = env2.length := by
        have z := r3.len
        simp only [List.length_append, List.length_map] at z
        omega
      rw [List.append_nil]
      refine ⟨by rw [fu.len, hn], τ ++ σ, κ ++ env2, as, l3.symm, by simp [l, l1], r3, ?_⟩
      cases e3 : h as with
      | ret d ios =>
        rw [e3] at q
        simp only at q
        cases e4 : putIo os io ios env2 with
        | none => rw [e4] at q; exact q.elim
        | some env3 =>
          rw [e4] at q
          intro v H2 ws ew r4
          exact q v H2 (put_rel fu (A := [some d]) (Y := [some v]) e4 rfl l l1 ew r4)
      | exc c ns es ios =>
        rw [e3] at q
        simp only at q
        cases e4 : putIo os io ios env2 with
        | none => rw [e4] at q; exact q.elim
        | some env3 =>
          rw [e4] at q
          intro cls dd H2 xs ws ex lx ew r4
          exact q cls dd H2 xs ex (put_rel fu (A := es.map some) (Y := xs.map some) e4 (by simp [lx]) l l1 ew r4) lx.symm
      | stuck => rw [e3] at q; exact q.elim
  | exc _ _ _ _ => rw [e1] at q; exact q
  | stuck => rw [e1] at q; exact q
theorem j_call {name : Str} {k m n : Nat} {io : List Nat} {h : List D → Rf} {os : List Opd} (F : FnD X.prog X.w X.K X.mg X.base cl name k n io h) (tk : Takes X W) (hr : Room m X.A) (hkm : k ≤ m) (hn : os.length = n) (ha : PA X (e :: es) (tOs X.K cl W os)) (hg : Gl X name := by rfl)
    (hdb : (name == ("__debug__" : Str)) = false := by decide) (he : starEach (e :: es) X.env = (false, eval e X.env) :: starEach es X.env := by rfl) (hpl : (backTo pos (starEach es X.env)).any (·.1) = false := by rfl) :
    PE X (.Call (.Name name p) (e :: es) [] pos) (tE X.K cl W (fCall io h os)) := by
  obtain ⟨f, fd, ps, hm, hk, hb, F⟩ := F
  exact PE.imp (pe_callSD (dvs := []) (E := fun σ cls dd H' => W cls dd σ H') F (hr.mono hkm) hg hm hk hb .nil (fun σ => passAt tk σ) ha hdb he hpl) fun σ H Q q => rd_call hn q
end
end Tw
noncomputable section
namespace Tw
open PySem PySem.Spec PyProof.Rows L2
/-! ### targets -/
abbrev Bd := D → Tw.Env → Option Tw.Env
def Off (ts : List Nat) (σ σ' : S) : Prop := σ'.length = σ.length ∧ ∀ j, j ∉ ts → σ'[j]? = σ[j]?
def tG (K : PySem.W.Frag) (cl : Cl) (ts : List Nat) (b : Bd) : TG := fun v σ H Q => ∃ (τ : S) (κ env : Tw.Env) (d : D), Rel K cl H (some d :: (κ ++ env)) (some v :: (τ ++ σ)) ∧ τ.length = κ.length ∧
  ∃ env', b d env = some env' ∧ ∀ σ' H', Off ts σ σ' → Rel K cl H' (κ ++ env') (τ ++ σ') → Q σ' H'
def tGs (K : PySem.W.Frag) (cl : Cl) (ts : List Nat) (b : List D → Tw.Env → Option Tw.Env) : TGs := fun vs σ H Q => ∃ (τ : S) (κ env : Tw.Env) (ds : List D), Rel K cl H (ds.map some ++ (κ ++ env)) (vs.map some ++ (τ ++ σ)) ∧ τ.length = κ.length ∧ vs.length = ds.length ∧
  ∃ env', b ds env = some env' ∧ ∀ σ' H', Off ts σ σ' → Rel K cl H' (κ ++ env') (τ ++ σ') → Q σ' H'
def bNm (i : Nat) : Bd := fun d env => if i < env.length then some (env.set i (some d)) else none
def bNil : List D → Tw.Env → Option Tw.Env
  | [], env => some env
  | _, _ => none
def bCons (b : Bd) (r : List D → Tw.Env → Option Tw.Env) : List D → Tw.Env → Option Tw.Env
  | d :: ds, env => (b d env).bind fun env1 => r ds env1
  | _, _ => none
def bTp (r : List D → Tw.Env → Option Tw.Env) : Bd := fun d env => match d with
  | .tup ds => r ds env
  | .pr ds => r ds env
  | _ => none
section
variable {X : Cx} {cl : Cl} {W : WX} {a b c e : Expr} {es : List Expr} {pos p : Pos} {x : Str} {fa fb fc : Ev}
theorem PG.imp {t t' : TG} (h : PG X e t) (q : ∀ v σ H Q, t' v σ H Q → t v σ H Q) : PG X e t' := ⟨fun pins s σ H v u Q I r z => h.run pins s σ H v u Q I r (q v σ H Q z)⟩
theorem PGs.imp {t t' : TGs} (h : PGs X es t) (q : ∀ v σ H Q, t' v σ H Q → t v σ H Q) : PGs X es t' := ⟨fun pins s σ H v u Q I r z => h.run pins s σ H v u Q I r (q v σ H Q z)⟩
theorem Off.refl {ts : List Nat} {σ : S} : Off ts σ σ := ⟨rfl, fun _ _ => rfl⟩
theorem Off.trans {ts us : List Nat} {σ σ1 σ2 : S} (h : Off ts σ σ1) (h2 : Off us σ1 σ2) : Off (ts ++ us) σ σ2 :=
  ⟨h2.1.trans h.1, fun j hj => (h2.2 j fun z => hj (List.mem_append_right _ z)).trans (h.2 j fun z => hj (List.mem_append_left _ z))⟩
theorem Off.set {i : Nat} {σ : S} {v : Option V} : Off [i] σ (σ.set i v) := ⟨List.length_set, fun j hj => List.getElem?_set_ne fun e => hj (by rw [e]; exact List.mem_singleton_self _)⟩
theorem rd_nm {K : PySem.W.Frag} {i : Nat} {v : V} {σ : S} {H : Hp} {Q : S → Hp → Prop} (h : tG K cl [i] (bNm i) v σ H Q) : gName i v σ H Q := by
  obtain ⟨τ, κ, env, d, r, l, env', e, q⟩ := h
  unfold bNm at e
  split at e
  · rename_i c
    cases e
    have r2 := Rel.put (i := κ.length + i) r (by simp; omega)
    rw [List.set_append_right _ _ (by omega), Nat.add_sub_cancel_left, ← l, List.set_append_right _ _ (by omega), Nat.add_sub_cancel_left] at r2
    exact q _ H Off.set r2
  · cases e
theorem g_nm {i : Nat} {px : Pos} (hN : X.N.Nodup) (hi : X.N[i]? = some x := by rfl) (hx : Loc X.env.scope x := by first | exact .inl rfl | exact .inr rfl) (hf : X.fn x = true ∨ X.env.scope.names.lookup x = some .local := by first | exact .inl rfl | exact .inr rfl) : PG X (.Name x px) (tG X.K cl [i] (bNm i)) :=
  PG.imp (pg_name hN hi hx hf) fun v σ H Q h => rd_nm h
theorem gs_nil : PGs X [] (tGs X.K cl [] bNil) := PGs.imp pgs_nil fun vs σ H Q ⟨τ, κ, env, ds, r, l, lv, env', e, q⟩ => by
  cases ds with
  | nil =>
    cases vs with
    | nil => cases e; exact ⟨rfl, q σ H Off.refl r⟩
    | cons _ _ => simp at lv
  | cons _ _ => cases e
theorem gs_cons {ts us : List Nat} {bd : Bd} {r : List D → Tw.Env → Option Tw.Env} (h1 : PG X e (tG X.K cl ts bd)) (h2 : PGs X es (tGs X.K cl us r)) (hs : (assignEach (e :: es) X.env).map (·.2) = assign e X.env :: (assignEach es X.env).map (·.2) := by rfl) : PGs X (e :: es) (tGs X.K cl (ts ++ us) (bCons bd r)) :=
  PGs.imp (pgs_cons h1 h2 hs) fun vs σ H Q ⟨τ, κ, env, ds, r, l, lv, env', e, q⟩ => by
  cases ds with
  | nil => cases e
  | cons d ds =>
    cases vs with
    | nil => simp at lv
    | cons v vs =>
      obtain ⟨env1, e1, e2⟩ := Option.bind_eq_some_iff.mp e
      refine ⟨v, vs, rfl, vs.map some ++ τ, ds.map some ++ κ, env, d, ?_, by simp at lv; simp [l, lv], env1, e1, fun σ1 H1 o1 r1 => ?_⟩
      · rw [List.append_assoc, List.append_assoc]; exact r
      · rw [List.append_assoc, List.append_assoc] at r1
        exact ⟨τ, κ, env1, ds, r1, l, by simpa using lv, env', e2, fun σ2 H2 o2 r2 => q σ2 H2 (o1.trans o2) r2⟩
theorem Rel.unT {K : PySem.W.Frag} {H : Hp} {ds : List D} {v : V} {κ : Tw.Env} {τ : S} (r : Rel K cl H (some (.tup ds) :: κ) (some v :: τ)) (o : D.oks ds = true) : ∃ a vs, v = .ref a ∧ SqT K H a vs ∧ vs.length = ds.length ∧ Rel K cl H (ds.map some ++ κ) (vs.map some ++ τ) := by
  obtain ⟨f, g, n, hh, hr⟩ := Rel.split (as := [.tup ds]) (vs := [v]) r rfl
  obtain ⟨a, vs, e1, t1, d1⟩ := dats1 hh
  have e2 := dats_ok d1 o
  subst e2
  exact ⟨a, vs, e1, t1.sq, dats_length d1, _, n, slots_appD d1 hr⟩
theorem Rel.unTo {K : PySem.W.Frag} {H : Hp} {ds : List D} {v : V} {κ : Tw.Env} {τ : S} (r : Rel K cl H (some (.tup ds) :: κ) (some v :: τ)) : ∃ a vs, v = .ref a ∧ SqT K H a vs ∧ vs.length = ds.length ∧ Rel K cl H (ds.map some ++ κ) (vs.map some ++ τ) := by
  obtain ⟨f, g, n, hh, hr⟩ := Rel.split (as := [.tup ds]) (vs := [v]) r rfl
  obtain ⟨a, vs, e1, t1, d1⟩ := dats1 hh
  exact ⟨a, vs, e1, t1.sq, dats_length d1, _, n, slots_appD d1 hr⟩
theorem Rel.unPr {K : PySem.W.Frag} {H : Hp} {ds : List D} {v : V} {κ : Tw.Env} {τ : S} (r : Rel K cl H (some (.pr ds) :: κ) (some v :: τ)) : ∃ a vs, v = .ref a ∧ SqT K H a vs ∧ vs.length = ds.length ∧ Rel K cl H (ds.map some ++ κ) (vs.map some ++ τ) := by
  obtain ⟨f, g, n, hh, hr⟩ := Rel.split (as := [.pr ds]) (vs := [v]) r rfl
  obtain ⟨a, vs, e1, t1, d1⟩ := dats1 hh
  exact ⟨a, vs, e1, .inl (.inl t1.1), dats_length d1, _, n, slots_appD d1 hr⟩
theorem g_tp {n : Nat} {k : Nat} {ts : List Nat} {r : List D → Tw.Env → Option Tw.Env} (hc : X.calm = true) (h : PGs X es (tGs X.K cl ts r)) (hlen : ∀ ds env env', r ds env = some env' → ds.length = n) (hn : (assignEach es X.env).length = n := by rfl) (hst : (assignEach es X.env).findIdx? (·.1) = none := by rfl) : PG X (.Tuple es k pos) (tG X.K cl ts (bTp r)) :=
  PG.imp (pg_tup hc h hn hst) fun v σ H Q ⟨τ, κ, env, d, rl, l, env', e, q⟩ => by
  cases d with
  | tup ds =>
    simp only [bTp] at e
    obtain ⟨a, vs, rfl, s, lv, r2⟩ := rl.unTo
    exact ⟨a, vs, rfl, s, by rw [lv, hlen _ _ _ e], τ, κ, env, ds, r2, l, lv, env', e, q⟩
  | pr ds =>
    simp only [bTp] at e
    obtain ⟨a, vs, rfl, s, lv, r2⟩ := rl.unPr
    exact ⟨a, vs, rfl, s, by rw [lv, hlen _ _ _ e], τ, κ, env, ds, r2, l, lv, env', e, q⟩
  | _ => simp [bTp] at e
theorem bNil_len {ds : List D} {env env' : Tw.Env} (h : bNil ds env = some env') : ds.length = 0 := by
  cases ds with
  | nil => rfl
  | cons _ _ => cases h
theorem bCons_len {b : Bd} {r : List D → Tw.Env → Option Tw.Env} {n : Nat} (hr : ∀ ds env env', r ds env = some env' → ds.length = n) {ds : List D} {env env' : Tw.Env} (h : bCons b r ds env = some env') : ds.length = n + 1 := by
  cases ds with
  | nil => cases h
  | cons d ds =>
    obtain ⟨_, _, h⟩ := Option.bind_eq_some_iff.mp h
    rw [List.length_cons, hr _ _ _ h]
/-! ### what is walked -/
structure IterD (K : PySem.W.Frag) (cl : Cl) (J : It) (κx : Tw.Env) (τx : S) (items : List D) : Prop where
  go : ∀ (i : Nat) (d : D), items[i]? = some d → ∀ (H : Hp) (κ : Tw.Env) (τ : S), Rel K cl H (κx ++ κ) (τx ++ τ) → J.go i H ∧ ∀ x H', J.yld i H x H' → Rel K cl H' (some d :: (κx ++ κ)) (some x :: (τx ++ τ))
  stop : ∀ (i : Nat), items.length ≤ i → ∀ (H : Hp) (κ : Tw.Env) (τ : S), Rel K cl H (κx ++ κ) (τx ++ τ) → J.stop i H
def tI (K : PySem.W.Frag) (cl : Cl) (W : WX) (fi : Tw.Env → Rs (List D)) : TI := fun σ H R => ∃ (τ : S) (κ env : Tw.Env), Rel K cl H (κ ++ env) (τ ++ σ) ∧ τ.length = κ.length ∧
  (fi env).P (fun items env' => ∀ J κx τx H', τx.length = κx.length → IterD K cl J κx τx items → Rel K cl H' (κx ++ (κ ++ env')) (τx ++ (τ ++ σ)) → R J H') (WP K cl W κ τ σ)
theorem PI.imp {tg : Expr} {t t' : TI} (h : PI X tg e t) (q : ∀ σ H Q, t' σ H Q → t σ H Q) : PI X tg e t' := ⟨fun pins s σ H Q I z => h.run pins s σ H Q I (q σ H Q z)⟩
theorem PI.or {tg : Expr} {t t' : TI} (h : PI X tg e t) (h' : PI X tg e t') : PI X tg e (fun σ H Q => t σ H Q ∨ t' σ H Q) := ⟨fun pins s σ H Q I z => z.elim (fun z => h.run pins s σ H Q I z) fun z => h'.run pins s σ H Q I z⟩
/-- the signs of a text, each a text -/
def signs (x : Str) : List D := x.cps.toList.map fun c => .str ⟨#[c]⟩
def D.items : D → Option (List D)
  | .lst _ xs => if D.oks xs then some xs else none
  | .tup xs => if D.oks xs then some xs else none
  | .str x => some (signs x)
  | _ => none
def iSeq (fa : Ev) : Tw.Env → Rs (List D) := fun env => (fa env).bind fun d env1 => match D.items d with
  | some xs => .ok xs env1
  | none => .stuck
theorem iter_lst {K : PySem.W.Frag} {a : Addr} {ds : List D} (o : D.oks ds = true) : IterD K cl (Itl K a) [some (.lst false ds)] [some (.ref a)] ds := by
  have key : ∀ (H : Hp) (κ : Tw.Env) (τ : S), Rel K cl H ([some (.lst false ds)] ++ κ) ([some (.ref a)] ++ τ) → ∃ vs f g, (f ++ g).Nodup ∧ Dats K cl (· ∈ f ++ g) H [.lst false ds] [.ref a] f ∧ Slots K cl (· ∈ f ++ g) H κ τ g ∧ H a = some (.lst vs) ∧ Dats K cl (· ∈ f ++ g) H ds vs [] := fun H κ τ r => by
    obtain ⟨f, g, n, hh, hr⟩ := Rel.split (as := [.lst false ds]) (vs := [.ref a]) r rfl
    obtain ⟨a', vs, g1, e1, t1, d1, _⟩ := dats1 hh
    cases e1
    exact ⟨vs, f, g, n, hh, hr, t1, oks_nil d1 o⟩
  refine ⟨fun i d e H κ τ r => ?_, fun i hi H κ τ r => ?_⟩
  · obtain ⟨vs, f, g, n, hh, hr, t, hd⟩ := key H κ τ r
    obtain ⟨v, e1, hv⟩ := dats_get hd e
    refine ⟨⟨vs, v, .of t, e1⟩, fun x H' y => ?_⟩
    obtain ⟨rfl, y⟩ := y
    have e2 := y vs (.of t)
    rw [e1] at e2
    cases e2
    exact derive n hh hr hv
  · obtain ⟨vs, f, g, n, hh, hr, t, hd⟩ := key H κ τ r
    exact ⟨vs, .of t, by rw [dats_length hd]; exact hi⟩
theorem iter_tup {K : PySem.W.Frag} {H0 : Hp} {κ0 : Tw.Env} {τ0 : S} {v : V} {ds : List D} (o : D.oks ds = true) (r0 : Rel K cl H0 (some (.tup ds) :: κ0) (some v :: τ0)) : ∃ a vs, v = .ref a ∧ SqT K H0 a vs ∧ IterD K cl (Itt K a) [some (.tup ds)] [some (.ref a)] ds := by
  have key : ∀ (a : Addr) (H : Hp) (κ : Tw.Env) (τ : S), Rel K cl H ([some (.tup ds)] ++ κ) ([some (.ref a)] ++ τ) → ∃ vs f g, (f ++ g).Nodup ∧ Dats K cl (· ∈ f ++ g) H [.tup ds] [.ref a] f ∧ Slots K cl (· ∈ f ++ g) H κ τ g ∧ SqT K H a vs ∧ Dats K cl (· ∈ f ++ g) H ds vs [] := fun a H κ τ r => by
    obtain ⟨f, g, n, hh, hr⟩ := Rel.split (as := [.tup ds]) (vs := [.ref a]) r rfl
    obtain ⟨a', vs, e1, t1, d1⟩ := dats1 hh
    cases e1
    exact ⟨vs, f, g, n, hh, hr, t1.sq, oks_nil d1 o⟩
  obtain ⟨a, vs, rfl, s0, _⟩ := r0.unT o
  refine ⟨a, vs, rfl, s0, ⟨fun i d e H κ τ r => ?_, fun i hi H κ τ r => ?_⟩⟩
  · obtain ⟨vs, f, g, n, hh, hr, t, hd⟩ := key a H κ τ r
    obtain ⟨v, e1, hv⟩ := dats_get hd e
    refine ⟨⟨vs, v, t, e1⟩, fun x H' y => ?_⟩
    obtain ⟨rfl, y⟩ := y
    have e2 := y vs t
    rw [e1] at e2
    cases e2
    exact derive n hh hr hv
  · obtain ⟨vs, f, g, n, hh, hr, t, hd⟩ := key a H κ τ r
    exact ⟨vs, t, by rw [dats_length hd]; exact hi⟩
theorem iter_str {K : PySem.W.Frag} {x : Str} : IterD K cl (Its x) [] [] (signs x) := by
  refine ⟨fun i d e H κ τ r => ?_, fun i hi H κ τ r => ?_⟩
  · unfold signs at e
    rw [List.getElem?_map] at e
    obtain ⟨c, e1, rfl⟩ := Option.map_eq_some_iff.mp e
    have hi := (List.getElem?_eq_some_iff.mp e1).1
    refine ⟨show i < x.cps.size by simpa using hi, fun v H' y => ?_⟩
    obtain ⟨rfl, c', e2, rfl⟩ := y
    rw [← Array.getElem?_toList, e1] at e2
    cases e2
    exact Rel.push r fun M => ⟨rfl, rfl⟩
  · unfold signs at hi
    rw [List.length_map] at hi
    exact hi
theorem i_seq {tg : Expr} (ha : PE X a (tE X.K cl W fa)) : PI X tg a (tI X.K cl W (iSeq fa)) := PI.imp (PI.or (PI.or (pi_list (tg := tg) ha) (pi_tup (tg := tg) ha)) (pi_str (tg := tg) ha)) fun σ H R ⟨τ, κ, env, r, l, q⟩ => by
  unfold iSeq at q
  cases e1 : fa env with
  | ok d env1 =>
    rw [e1, Rs.bind_ok] at q
    cases d with
    | lst m ds =>
      simp only [D.items] at q
      by_cases o : D.oks ds = true
      · rw [if_pos o] at q
        refine .inl (.inl ⟨τ, κ, env, r, l, ?_⟩)
        rw [e1]
        intro v H1 r1
        have r2 := r1.freeze
        rw [D.frz, D.frzs_ok o] at r2
        obtain ⟨M, f, a, vs, g, e2, t, _⟩ := r1.head
        subst e2
        exact ⟨a, rfl, ⟨vs, .of t⟩, q (Itl X.K a) [some (.lst false ds)] [some (.ref a)] H1 rfl (iter_lst o) r2⟩
      · rw [if_neg o] at q; exact q.elim
    | tup ds =>
      simp only [D.items] at q
      by_cases o : D.oks ds = true
      · rw [if_pos o] at q
        refine .inl (.inr ⟨τ, κ, env, r, l, ?_⟩)
        rw [e1]
        intro v H1 r1
        obtain ⟨a, vs, e2, s, it⟩ := iter_tup o r1
        subst e2
        exact ⟨a, rfl, ⟨vs, s⟩, q (Itt X.K a) [some (.tup ds)] [some (.ref a)] H1 rfl it r1⟩
      · rw [if_neg o] at q; exact q.elim
    | str x =>
      refine .inr ⟨τ, κ, env, r, l, ?_⟩
      rw [e1]
      intro v H1 r1
      obtain ⟨M, f, hd⟩ := r1.head
      exact ⟨x, hd.1, q (Its x) [] [] H1 rfl iter_str r1.pop⟩
    | _ => exact q.elim
  | exc _ _ _ _ =>
    rw [e1] at q
    refine .inl (.inl ⟨τ, κ, env, r, l, ?_⟩)
    rw [e1]
    exact q
  | stuck => rw [e1] at q; exact q.elim
def rngD (lo : Int) (n : Nat) : List D := (List.range n).map fun (i : Nat) => .int (lo + (i : Int))
theorem iter_rng {K : PySem.W.Frag} {lo : Int} {n : Nat} : IterD K cl (Itr lo n) [] [] (rngD lo n) := by
  refine ⟨fun i d e H κ τ r => ?_, fun i hi H κ τ r => ?_⟩
  · unfold rngD at e
    rw [List.getElem?_map] at e
    obtain ⟨j, e1, rfl⟩ := Option.map_eq_some_iff.mp e
    have hi : i < n := by
      have z := (List.getElem?_eq_some_iff.mp e1).1
      simpa using z
    rw [List.getElem?_range hi] at e1
    cases e1
    refine ⟨hi, fun x H' y => ?_⟩
    obtain ⟨rfl, rfl⟩ := y
    exact Rel.push r fun M => dint
  · unfold rngD at hi
    rw [List.length_map, List.length_range] at hi
    exact hi
open Classical in
def rngOk (i : Int) : Bool := @decide (-(2 ^ 62) ≤ i ∧ i < 2 ^ 62) (propDecidable _)
def D.ints : List D → Option (List Int)
  | [] => some []
  | d :: ds => (D.asI d).bind fun i => (D.ints ds).map (i :: ·)
theorem dats_intsOf {K M H} : ∀ {ds : List D} {is : List Int} {vs : List V} {f : List Addr}, Dats K cl M H ds vs f → D.ints ds = some is → vs = is.map V.int
  | [], _, _, _, h, e => by cases e; exact h.1
  | d :: ds, _, _, _, h, e => by
    obtain ⟨v, vs', f1, f2, rfl, _, h1, h2⟩ := h
    simp only [D.ints, Option.bind_eq_some_iff, Option.map_eq_some_iff] at e
    obtain ⟨b, e1, bs, e, rfl⟩ := e
    rw [dat_asI h1 e1, dats_intsOf h2 e]
    rfl
def rngOf : List Int → Option (Int × Nat)
  | [j] => if rngOk j then some (0, j.toNat) else none
  | [i, j] => if rngOk i && rngOk j then some (i, (j - i).toNat) else none
  | _ => none
def iRng (os : List Ev) : Tw.Env → Rs (List D) := fun env => (evs (vals os) env).bind fun ds env1 => match (D.ints ds).bind rngOf with
  | some q => .ok (rngD q.1 q.2) env1
  | none => .stuck
theorem rngOk_iff {i : Int} : rngOk i = true ↔ (-(2 ^ 62) ≤ i ∧ i < 2 ^ 62) := by unfold rngOk; exact @decide_eq_true_iff _ (Classical.propDecidable _)
theorem rd_rng {K : PySem.W.Frag} {fs : List Ev} {σ : S} {H : Hp} {R : It → Hp → Prop} (h : tI K cl W (iRng fs) σ H R) : tOs K cl W (vals fs) σ H fun vs H1 => ∃ is lo n, vs = is.map V.int ∧ rngOf is = some (lo, n) ∧ R (Itr lo n) H1 := by
  obtain ⟨τ, κ, env, r, l, q⟩ := h
  refine tA_os (os := vals fs) ⟨τ, κ, env, r, l, ?_⟩
  unfold iRng at q
  cases e1 : evs (vals fs) env with
  | ok ds env1 =>
    rw [e1, Rs.bind_ok] at q
    intro us vs H' l2 r2 fu
    obtain ⟨rfl, l3⟩ := full_vals fu
    cases e2 : (D.ints ds).bind rngOf with
    | none => rw [e2] at q; exact q.elim
    | some pr =>
      rw [e2] at q
      obtain ⟨is, e3, e4⟩ := Option.bind_eq_some_iff.mp e2
      obtain ⟨M, f, hd⟩ := r2.heads l2.symm
      exact ⟨is, pr.1, pr.2, dats_intsOf hd e3, e4, q (Itr pr.1 pr.2) [] [] H' rfl iter_rng (Rel.drop r2 (by simp [l2]))⟩
  | exc _ _ _ _ => rw [e1] at q; exact q
  | stuck => rw [e1] at q; exact q
theorem rng_one {is : List Int} {lo : Int} {n : Nat} {vs : List V} (h : rngOf is = some (lo, n)) (e : vs = is.map V.int) (l : vs.length = 1) : ∃ j : Int, vs = [.int j] ∧ -(2 ^ 62) ≤ j ∧ j < 2 ^ 62 ∧ lo = 0 ∧ n = j.toNat := by
  subst e
  match is, l with
  | [j], _ =>
    simp only [rngOf] at h
    split at h
    · rename_i c
      have hc := rngOk_iff.mp c
      cases h
      exact ⟨j, rfl, hc.1, hc.2, rfl, rfl⟩
    · cases h
/-- the number of what the arguments give -/
theorem tOs_len {K : PySem.W.Frag} : ∀ {os : List Opd} {σ : S} {H : Hp} {Q Q' : List V → Hp → Prop}, tOs K cl W os σ H Q → (∀ vs H', vs.length = os.length → Q vs H' → Q' vs H') → tOs K cl W os σ H Q'
  | [], σ, H, Q, Q', h, q => q [] H rfl h
  | .slot i :: os, σ, H, Q, Q', h, q => by
    obtain ⟨v, e, h⟩ := h
    exact ⟨v, e, tOs_len h fun vs H' l z => q (v :: vs) H' (by simp [l]) z⟩
  | .val f :: os, σ, H, Q, Q', h, q => by
    obtain ⟨τ, κ, env, r, l, h⟩ := h
    exact ⟨τ, κ, env, r, l, h.imp (fun d env1 z v H1 r1 => tOs_len (z v H1 r1) fun vs H' l z => q (v :: vs) H' (by simp [l]) z) fun _ _ _ _ z => z⟩
theorem i_rng1 {tg : Expr} {f : Ev} (hm : X.mg "range" = none) (ha : PA X [e] (tOs X.K cl W (vals [f]))) (hg : Gl X "range" := by rfl) (hs : starEach [e] X.env = [(false, eval e X.env)] := by rfl) : PI X tg (.Call (.Name "range" p) [e] [] pos) (tI X.K cl W (iRng [f])) :=
  PI.imp (pi_range1 hg hm ha hs) fun σ H R h => tOs_len (rd_rng h) fun vs H' l ⟨is, lo, n, e, e2, q⟩ => by
  obtain ⟨j, ej, h1, h2, rfl, rfl⟩ := rng_one e2 e l
  exact ⟨j, ej, h1, h2, q⟩
/-! ### zip -/
def zipD (xs ys : List D) : List D := (xs.zip ys).map fun p => .pr [p.1, p.2]
def iZip2 (fa fb : Ev) : Tw.Env → Rs (List D) := fun env => (fa env).bind fun x env1 => (fb env1).bind fun y env2 => match x, y with
  | .lst _ xs, .lst _ ys => if D.oks xs && D.oks ys then .ok (zipD xs ys) env2 else .stuck
  | .tup xs, .tup ys => if D.oks xs && D.oks ys then .ok (zipD xs ys) env2 else .stuck
  | _, _ => .stuck
theorem zipD_get {xs ys : List D} {i : Nat} {d : D} (h : (zipD xs ys)[i]? = some d) : ∃ x y, xs[i]? = some x ∧ ys[i]? = some y ∧ d = .pr [x, y] := by
  unfold zipD at h
  rw [List.getElem?_map] at h
  obtain ⟨q, e, rfl⟩ := Option.map_eq_some_iff.mp h
  rw [List.getElem?_zip_eq_some] at e
  exact ⟨q.1, q.2, e.1, e.2, rfl⟩
theorem zipD_end {xs ys : List D} {i : Nat} (h : (zipD xs ys).length ≤ i) : xs.length ≤ i ∨ ys.length ≤ i := by
  unfold zipD at h
  rw [List.length_map, List.length_zip] at h
  omega
end
end Tw
noncomputable section
namespace Tw
open PySem PySem.Spec PyProof.Rows L2
/-! ### zip of a list with a tuple -/
theorem sep_of {z TI TO i1 i2 a b : Addr} (D : ZipApart z TI TO i1 i2 a b) : ZipSep2 z TI TO i1 i2 [i1, a] [i2, b] where
  TIz := D.TIz
  TOz := D.TOz
  TITO := D.TITO
  TIi1 := D.TIi1
  mem1 := by simp
  zf1 := by simp; exact ⟨D.i1z.symm, D.l1z.symm⟩
  Tf1 := by simp; exact ⟨D.TOi1, D.l1TO.symm⟩
  TIi2 := D.TIi2
  mem2 := by simp
  zf2 := by simp; exact ⟨D.i2z.symm, D.l2z.symm⟩
  Tf2 := by simp; exact ⟨D.TOi2, D.l2TO.symm⟩
  sep1_2 := by simp; exact ⟨D.i12, D.l2i1.symm⟩
  sep2_1 := by simp; exact ⟨D.i12.symm, D.l1i2.symm⟩
def ItzM (K : PySem.W.Frag) (a b : Addr) (n1 n2 : Nat) : It :=
  ⟨fun i H => ∃ (xs ys : List V) (x y : V), SqL K H a xs ∧ SqT K H b ys ∧ (xs.length = n1 ∧ ys.length = n2) ∧ xs[i]? = some x ∧ ys[i]? = some y,
    fun i H v H' => ∃ T x y, v = .ref T ∧ H T = none ∧ H' = upd H T (.tup [x, y]) ∧ (∀ xs, SqL K H a xs → xs[i]? = some x) ∧ ∀ ys, SqT K H b ys → ys[i]? = some y,
    fun i H => ∃ xs ys : List V, SqL K H a xs ∧ SqT K H b ys ∧ (xs.length = n1 ∧ ys.length = n2) ∧ (xs.length ≤ i ∨ ys.length ≤ i)⟩
theorem turn_zipM {P : Program} {w : World} {K : PySem.W.Frag} {elts : List Expr} {kk : Nat} {tpos : Pos} {a b z TI TO i1 i2 : Addr} {n1 n2 : Nat} (D : ZipApart z TI TO i1 i2 a b) :
    Turn P w K (.Tuple elts kk tpos) (ItzM K a b n1 n2) [z, TI, TO, i1, i2] z (fun i h => (i ≤ n1 ∧ i ≤ n2) ∧ IsZip h z TI TO .none ∧ IsPair h TI (.ref i1) (.ref i2) ∧ (∃ x y, IsPair h TO x y) ∧ h.IsListIter i1 a i ∧ h.IsTupleIter i2 b i) where
  mem := by simp
  obj := fun i h st c hc => by
    obtain ⟨_, hz, hTI, ⟨x, y, hTO⟩, ⟨o1, e1, _, d1⟩, ⟨o2, e2, _, d2⟩⟩ := st
    have e' : c = z ∨ c = TI ∨ c = TO ∨ c = i1 ∨ c = i2 := by simpa using hc
    rcases e' with q | q | q | q | q
    · rw [q]; exact ⟨_, hz, fun v q => nomatch q⟩
    · rw [q]; exact ⟨_, hTI, fun v q => nomatch q⟩
    · rw [q]; exact ⟨_, hTO, fun v q => nomatch q⟩
    · rw [q]; exact ⟨o1, e1, fun v q => by rw [d1] at q; cases q⟩
    · rw [q]; exact ⟨o2, e2, fun v q => by rw [d2] at q; cases q⟩
  keep := fun i h h' st k => by
    obtain ⟨hn, hz, hTI, ⟨x, y, hTO⟩, h1, h2⟩ := st
    exact ⟨hn, k z (by simp) _ hz, k TI (by simp) _ hTI, ⟨x, y, k TO (by simp) _ hTO⟩, h1.at fun o q => k i1 (by simp) o q, h2.at fun o q => k i2 (by simp) o q⟩
  item := by
    intro X hP hw hK hc i pins s σ H E I hf st hg
    subst hP hw hK
    obtain ⟨hn, hz, hTI, ⟨x0, y0, hTO⟩, h1, h2⟩ := st
    obtain ⟨xs, ys, x, y, hqx, hqy, ⟨en1, en2⟩, hx, hy⟩ := hg
    obtain ⟨its, rv, p, _⟩ := I.list hqx
    obtain ⟨its2, rv2, p2, _⟩ := I.tuple hqy
    obtain ⟨u, hu, ru⟩ := rv.get hx
    obtain ⟨u2, hu2, ru2⟩ := rv2.get hy
    have hzl : z < s.heap.objs.size := Heap.lt_size hz
    have l1 : i < its.toArray.size := by have := (List.getElem?_eq_some_iff.mp hu).1; simpa using this
    have l2 : i < its2.toArray.size := by have := (List.getElem?_eq_some_iff.mp hu2).1; simpa using this
    refine wpAny_pyNext_zipD2_item (sep_of D) (Draws.list (prog := X.prog) (w := X.w) (A := X.A.in1) (I.ok.hd hc) i1 a D.l1i1 its.toArray) (Draws.tuple (prog := X.prog) (w := X.w) (A := X.A.in1) (I.ok.hd hc) i2 b D.l2i2 its2.toArray) hz hTI hTO ⟨h1, p.isList⟩ ⟨h2, p2⟩ l1 l2 fun x1 x2 h' tk px1 px2 z' TO' st1 st2 hT hsz hk => ?_
    have ex1 : x1 = u := by
      have e2 : its.toArray[i]? = some x1 := px1
      rw [show its.toArray[i]? = some u by simpa using hu] at e2
      exact (Option.some.inj e2).symm
    have ex2 : x2 = u2 := by
      have e2 : its2.toArray[i]? = some x2 := px2
      rw [show its2.toArray[i]? = some u2 by simpa using hu2] at e2
      exact (Option.some.inj e2).symm
    subst ex1 ex2
    have h1' := st1.1
    have h2' := st2.1
    refine ⟨_, rfl, wpAny_letOwnedTupleGo_zip (s := { s with heap := h', toks := tk }) z' fun h'' z'' sb => ?_⟩
    have hT2 : h''.get? s.heap.objs.size = some { cls := .type "tuple", data := .seq #[x1, x2] } := (sb.2 _ (Nat.ne_of_gt hzl)).trans hT
    have new : ObjOk X.prog X.w (upd H s.heap.objs.size (.tup [x, y])) h'' s.heap.objs.size (.tup [x, y]) :=
      ⟨by show 2 ≤ sizeLine; decide, [x1, x2], .cons ru (.cons ru2 .nil), ⟨_, hT2, rfl, _, rfl⟩⟩
    have I1 : Inv X pins σ (upd H s.heap.objs.size (.tup [x, y])) { s with heap := h'', toks := tk } :=
      I.turnedNew (t' := tk) (ch := [z, TI, TO, i1, i2]) (fun c o hb q => (sb.2 c (fun q' => hb (by simp [q']))).trans (hk c o (fun q' => hb (by simp [q'])) (fun q' => hb (by simp [q'])) (fun q' => hb (by simp [q'])) (fun q' => hb (by simp [q'])) q)) hf (Nat.le_refl _) new
    refine ⟨.ref s.heap.objs.size, _, I1, rfl, ⟨_, x, y, rfl, I.hok.fresh (Nat.le_refl _), rfl, fun l hl => by rw [I.list_inj hl hqx]; exact hx, fun l hl => by rw [I.tuple_inj hl hqy]; exact hy⟩, ⟨⟨by have := (List.getElem?_eq_some_iff.mp hx).1; omega, by have := (List.getElem?_eq_some_iff.mp hy).1; omega⟩, z'', ?_, ⟨x1, x2, ?_⟩, ?_, ?_⟩, fun c hcm => ?_⟩
    · exact (sb.2 _ D.TIz).trans (hk _ _ D.TIz D.TITO D.TIi1 D.TIi2 hTI)
    · exact (sb.2 _ D.TOz).trans TO'
    · exact h1'.at fun o q => (sb.2 _ D.i1z).trans q
    · exact h2'.at fun o q => (sb.2 _ D.i2z).trans q
    · have hlt : c < s.heap.objs.size := by
        have e' : c = z ∨ c = TI ∨ c = TO ∨ c = i1 ∨ c = i2 := by simpa using hcm
        rcases e' with q | q | q | q | q
        · rw [q]; exact hzl
        · rw [q]; exact Heap.lt_size hTI
        · rw [q]; exact Heap.lt_size hTO
        · rw [q]; obtain ⟨_, e1, _⟩ := h1; exact Heap.lt_size e1
        · rw [q]; obtain ⟨_, e2, _⟩ := h2; exact Heap.lt_size e2
      rw [upd_ne (Nat.ne_of_lt hlt)]
      exact (hf c hcm).1
  done := by
    intro X hP hw hK hc i pins s σ H E I hf st hg
    subst hP hw hK
    obtain ⟨hn, hz, hTI, ⟨x0, y0, hTO⟩, h1, h2⟩ := st
    obtain ⟨xs, ys, hqx, hqy, ⟨en1, en2⟩, hend⟩ := hg
    obtain ⟨its, rv, p, _⟩ := I.list hqx
    obtain ⟨its2, rv2, p2, _⟩ := I.tuple hqy
    have l1 := rv.length
    have l2 := rv2.length
    exact wpAny_pyNext_zipD2_end (sep_of D) (Draws.list (prog := X.prog) (w := X.w) (A := X.A.in1) (I.ok.hd hc) i1 a D.l1i1 its.toArray) (Draws.tuple (prog := X.prog) (w := X.w) (A := X.A.in1) (I.ok.hd hc) i2 b D.l2i2 its2.toArray) hz hTI hTO ⟨h1, p.isList⟩ ⟨h2, p2⟩ (by simp; omega) (by simp; omega) (by simp; omega) fun h' tk hk => ⟨rfl, I.turnedL (t' := tk) (ch := [z, TI, TO, i1, i2]) (fun c o hb q =>
      hk c o (fun q' => hb (by simp [q'])) (fun q' => hb (by simp [q'])) (fun q' => hb (by simp [q'])) (fun q' => hb (by simp [q'])) q) hf⟩
  self := fun A i s Q E st h => wpAny_pyIter_zip st.2.1 h


theorem pi_zipM {X : Cx} {e e2 : Expr} {ta : TA} {p pos tpos : Pos} {elts : List Expr} {kk : Nat} (hg : Gl X "zip") (hm : X.mg "zip" = none) (ha : PA X [e, e2] ta)
    (hs : starEach [e, e2] X.env = (false, eval e X.env) :: starEach [e2] X.env := by rfl) (hpl : (backTo pos (starEach [e2] X.env)).any (·.1) = false := by rfl) :
    PI X (.Tuple elts kk tpos) (.Call (.Name "zip" p) [e, e2] [] pos) (fun σ H R => ta σ H fun vs H1 => ∃ a b xs ys, vs = [.ref a, .ref b] ∧ SqL X.K H1 a xs ∧ SqT X.K H1 b ys ∧ R (ItzM X.K a b xs.length ys.length) H1) := by
  refine ⟨fun pins s σ H R I h => ?_⟩
  refine Call_ (ld_blt I hg hm PyProof.Rows.boot_zip (PyProof.Rows.callWith_type1 (thn (ha.run pos pins s σ H _ I h) fun us s1 ⟨vs, H1, I1, r1, q1⟩ => ?_) hs hpl))
  obtain ⟨a, b, xs, ys, ex, hqx, hqy, q⟩ := q1
  subst ex
  cases r1 with
  | cons r rr =>
    cases rr with
    | cons r' rr =>
      cases rr
      cases r
      cases r'
      have fresh5 : ∀ c, c ∈ [s1.heap.objs.size + 4, s1.heap.objs.size + 2, s1.heap.objs.size + 3, s1.heap.objs.size, s1.heap.objs.size + 1] → FpOk X pins H1 c := fun c hcm => by
        have e' : c = s1.heap.objs.size + 4 ∨ c = s1.heap.objs.size + 2 ∨ c = s1.heap.objs.size + 3 ∨ c = s1.heap.objs.size ∨ c = s1.heap.objs.size + 1 := by simpa using hcm
        have hle : s1.heap.objs.size ≤ c := by
          rcases e' with z | z | z | z | z <;> (rw [z]; omega)
        exact I1.fpOk hle (I1.hok.fresh hle)
      obtain ⟨its, rv, p1, _⟩ := I1.list hqx
      obtain ⟨its2, rv2, p2, _⟩ := I1.tuple hqy
      obtain ⟨o2, ho2, _⟩ := id p2
      refine zip_begins2 (begins_list a its.toArray) (begins_tuple b its2.toArray) p1.isList p2 fun h' hz hTI hTO g1 g2 hsz hk => wpAny_pyIter_zip hz ?_
      have I2 : Inv X pins σ H1 { s1 with heap := h' } := I1.kept (t' := s1.toks) hk
      exact ⟨s1.heap.objs.size + 4, [s1.heap.objs.size + 4, s1.heap.objs.size + 2, s1.heap.objs.size + 3, s1.heap.objs.size, s1.heap.objs.size + 1], _, _, H1, rfl, I2, turn_zipM (PySem.W.ktu_apart s1.heap.objs.size a b p1.lt (Heap.lt_size ho2)), ⟨⟨Nat.zero_le _, Nat.zero_le _⟩, hz, hTI, ⟨_, _, hTO⟩, ⟨_, g1, rfl, rfl⟩, ⟨_, g2, rfl, rfl⟩⟩, fresh5, q⟩
end Tw
noncomputable section
namespace Tw
open PySem PySem.Spec PyProof.Rows L2
/-- a list (false) or a tuple (true), its items -/
def D.seqK : D → Option (Bool × List D)
  | .lst _ xs => if D.oks xs then some (false, xs) else none
  | .tup xs => if D.oks xs then some (true, xs) else none
  | _ => none
def zipOf : List D → Option (Bool × List D × List D)
  | [x, y] => (D.seqK x).bind fun p => (D.seqK y).bind fun q => match p.1, q.1 with
    | true, false => none
    | _, _ => some (p.1, p.2, q.2)
  | _ => none
def iZip (os : List Ev) : Tw.Env → Rs (List D) := fun env => (evs (vals os) env).bind fun ds env1 => match zipOf ds with
  | some q => .ok (zipD q.2.1 q.2.2) env1
  | none => .stuck
section
variable {X : Cx} {cl : Cl} {W : WX} {a b c e : Expr} {es : List Expr} {pos p : Pos} {x : Str} {fa fb fc : Ev}
theorem dat_seqK {K M H} {d : D} {k : Bool} {xs : List D} {v : V} {f : List Addr} (h : Dat K cl M H d v f) (e : D.seqK d = some (k, xs)) : ∃ a vs, v = .ref a ∧ (k = false → H a = some (.lst vs)) ∧ (k = true → SqT K H a vs) ∧ Dats K cl M H xs vs [] := by
  cases d with
  | lst m ds =>
    simp only [D.seqK] at e
    split at e
    · rename_i o
      cases e
      obtain ⟨a, vs, g, e1, t, hd, _⟩ := h
      exact ⟨a, vs, e1, fun _ => t, fun z => (nomatch z), oks_nil hd o⟩
    · cases e
  | tup ds =>
    simp only [D.seqK] at e
    split at e
    · rename_i o
      cases e
      obtain ⟨a, vs, e1, t, hd⟩ := h
      exact ⟨a, vs, e1, fun z => (nomatch z), fun _ => t.sq, oks_nil hd o⟩
    · cases e
  | _ => simp [D.seqK] at e
theorem iter_zip {K : PySem.W.Frag} {A B : Addr} {x y : D} {k : Bool} {xs ys : List D} (ex : D.seqK x = some (k, xs)) (ey : D.seqK y = some (k, ys)) : IterD K cl (if k = true then RZ.ItzT K A B else Itz K A B) (List.map some [x, y]) (List.map some [.ref A, .ref B]) (zipD xs ys) := by
  have key : ∀ (H : Hp) (κ : Tw.Env) (τ : S), Rel K cl H (List.map some [x, y] ++ κ) (List.map some [.ref A, .ref B] ++ τ) → ∃ f g us ws, (f ++ g).Nodup ∧ Dats K cl (· ∈ f ++ g) H [x, y] [.ref A, .ref B] f ∧ Slots K cl (· ∈ f ++ g) H κ τ g ∧
      (k = false → H A = some (.lst us)) ∧ (k = true → SqT K H A us) ∧ Dats K cl (· ∈ f ++ g) H xs us [] ∧ (k = false → H B = some (.lst ws)) ∧ (k = true → SqT K H B ws) ∧ Dats K cl (· ∈ f ++ g) H ys ws [] := fun H κ τ r => by
    obtain ⟨f, g, n, hh, hr⟩ := r.split rfl
    obtain ⟨f1, f2, _, h1, h2⟩ := dats2 hh
    obtain ⟨a, us, e1, l1, t1, d1⟩ := dat_seqK h1 ex
    obtain ⟨b, ws, e2, l2, t2, d2⟩ := dat_seqK h2 ey
    cases e1; cases e2
    exact ⟨f, g, us, ws, n, hh, hr, l1, t1, d1, l2, t2, d2⟩
  refine ⟨fun i d e H κ τ r => ?_, fun i hi H κ τ r => ?_⟩
  · obtain ⟨f, g, us, ws, n, hh, hr, l1, t1, d1, l2, t2, d2⟩ := key H κ τ r
    obtain ⟨x1, y1, e1, e2, rfl⟩ := zipD_get e
    obtain ⟨u, e3, hu⟩ := dats_get d1 e1
    obtain ⟨w, e4, hw⟩ := dats_get d2 e2
    have fin : ∀ T, H T = none → Rel K cl (upd H T (.tup [u, w])) (some (.pr [x1, y1]) :: (List.map some [x, y] ++ κ)) (some (.ref T) :: (List.map some [.ref A, .ref B] ++ τ)) := fun T nT => newPr n hh hr nT ⟨u, [w], [], [], rfl, rfl, hu, w, [], [], [], rfl, rfl, hw, rfl, rfl⟩
    cases k with
    | false =>
      rw [if_neg Bool.false_ne_true]
      refine ⟨⟨us, ws, u, w, .of (l1 rfl), .of (l2 rfl), e3, e4⟩, fun v H' yl => ?_⟩
      obtain ⟨T, u', w', rfl, nT, rfl, q1, q2⟩ := yl
      have z1 := q1 us (.of (l1 rfl)); have z2 := q2 ws (.of (l2 rfl))
      rw [e3] at z1; rw [e4] at z2
      cases z1; cases z2
      exact fin T nT
    | true =>
      rw [if_pos rfl]
      refine ⟨⟨us, ws, u, w, t1 rfl, t2 rfl, e3, e4⟩, fun v H' yl => ?_⟩
      obtain ⟨T, u', w', rfl, nT, rfl, q1, q2⟩ := yl
      have z1 := q1 us (t1 rfl); have z2 := q2 ws (t2 rfl)
      rw [e3] at z1; rw [e4] at z2
      cases z1; cases z2
      exact fin T nT
  · obtain ⟨f, g, us, ws, n, hh, hr, l1, t1, d1, l2, t2, d2⟩ := key H κ τ r
    have q := zipD_end hi
    rw [← dats_length d1, ← dats_length d2] at q
    cases k with
    | false =>
      rw [if_neg Bool.false_ne_true]
      exact ⟨us, ws, .of (l1 rfl), .of (l2 rfl), q⟩
    | true =>
      rw [if_pos rfl]
      exact ⟨us, ws, t1 rfl, t2 rfl, q⟩
theorem iter_zipM {K : PySem.W.Frag} {A B : Addr} {x y : D} {xs ys : List D} (ex : D.seqK x = some (false, xs)) (ey : D.seqK y = some (true, ys)) : IterD K cl (ItzM K A B xs.length ys.length) (List.map some [x, y]) (List.map some [.ref A, .ref B]) (zipD xs ys) := by
  have key : ∀ (H : Hp) (κ : Tw.Env) (τ : S), Rel K cl H (List.map some [x, y] ++ κ) (List.map some [.ref A, .ref B] ++ τ) → ∃ f g us ws, (f ++ g).Nodup ∧ Dats K cl (· ∈ f ++ g) H [x, y] [.ref A, .ref B] f ∧ Slots K cl (· ∈ f ++ g) H κ τ g ∧
      SqL K H A us ∧ Dats K cl (· ∈ f ++ g) H xs us [] ∧ SqT K H B ws ∧ Dats K cl (· ∈ f ++ g) H ys ws [] := fun H κ τ r => by
    obtain ⟨f, g, n, hh, hr⟩ := r.split rfl
    obtain ⟨f1, f2, _, h1, h2⟩ := dats2 hh
    obtain ⟨a, us, e1, l1, t1, d1⟩ := dat_seqK h1 ex
    obtain ⟨b, ws, e2, l2, t2, d2⟩ := dat_seqK h2 ey
    cases e1; cases e2
    exact ⟨f, g, us, ws, n, hh, hr, .of (l1 rfl), d1, t2 rfl, d2⟩
  refine ⟨fun i d e H κ τ r => ?_, fun i hi H κ τ r => ?_⟩
  · obtain ⟨f, g, us, ws, n, hh, hr, l1, d1, t2, d2⟩ := key H κ τ r
    obtain ⟨x1, y1, e1, e2, rfl⟩ := zipD_get e
    obtain ⟨u, e3, hu⟩ := dats_get d1 e1
    obtain ⟨w, e4, hw⟩ := dats_get d2 e2
    refine ⟨⟨us, ws, u, w, l1, t2, ⟨dats_length d1, dats_length d2⟩, e3, e4⟩, fun v H' yl => ?_⟩
    obtain ⟨T, u', w', rfl, nT, rfl, q1, q2⟩ := yl
    have z1 := q1 us l1; have z2 := q2 ws t2
    rw [e3] at z1; rw [e4] at z2
    cases z1; cases z2
    exact newPr n hh hr nT ⟨u, [w], [], [], rfl, rfl, hu, w, [], [], [], rfl, rfl, hw, rfl, rfl⟩
  · obtain ⟨f, g, us, ws, n, hh, hr, l1, d1, t2, d2⟩ := key H κ τ r
    have q := zipD_end hi
    rw [← dats_length d1, ← dats_length d2] at q
    exact ⟨us, ws, l1, t2, ⟨dats_length d1, dats_length d2⟩, q⟩
theorem i_zip {tpos : Pos} {elts : List Expr} {kk : Nat} {f g : Ev} (hm : X.mg "zip" = none) (ha : PA X [a, b] (tOs X.K cl W (vals [f, g]))) (hg : Gl X "zip" := by rfl)
    (hs : starEach [a, b] X.env = (false, eval a X.env) :: starEach [b] X.env := by rfl) (hpl : (backTo pos (starEach [b] X.env)).any (·.1) = false := by rfl) :
    PI X (.Tuple elts kk tpos) (.Call (.Name "zip" p) [a, b] [] pos) (tI X.K cl W (iZip [f, g])) := PI.imp (PI.or (RZ.pi_zipA hg hm ha hs hpl) (pi_zipM hg hm ha hs hpl)) fun σ H R ⟨τ, κ, env, r, l, q⟩ => by
  unfold iZip at q
  cases e1 : evs (vals [f, g]) env with
  | ok ds env1 =>
    rw [e1, Rs.bind_ok] at q
    cases e2 : zipOf ds with
    | none => rw [e2] at q; exact q.elim
    | some pr =>
      rw [e2] at q
      match ds, e2, e1, q with
      | [x, y], e2, e1, q =>
        simp only [zipOf, Option.bind_eq_some_iff] at e2
        obtain ⟨⟨k, xs⟩, ex, ⟨k2, ys⟩, ey, e2⟩ := e2
        have run : ∀ {RA : List V → Hp → Prop}, (∀ (A B : Addr) (us ws : List V) (H' : Hp), Rel X.K cl H' (List.map some [x, y] ++ (κ ++ env1)) (List.map some [.ref A, .ref B] ++ (τ ++ σ)) → (k = false → H' A = some (.lst us)) → (k = true → SqT X.K H' A us) → (k2 = false → H' B = some (.lst ws)) → (k2 = true → SqT X.K H' B ws) → us.length = xs.length → ws.length = ys.length → RA [.ref A, .ref B] H') → tOs X.K cl W (vals [f, g]) σ H RA := fun {RA} go => by
          refine tA_os (os := vals [f, g]) ⟨τ, κ, env, r, l, ?_⟩
          rw [e1]
          intro us vs H' l2 r2 fu
          obtain ⟨rfl, l3⟩ := full_vals fu
          match vs, l2, r2 with
          | [u, w], l2, r2 =>
            obtain ⟨f', g', n, hh, hr⟩ := r2.split rfl
            obtain ⟨f1, f2, _, h1, h2⟩ := dats2 hh
            obtain ⟨A, us, ea, la, ta, d1⟩ := dat_seqK h1 ex
            obtain ⟨B, ws, eb, lb, tb, d2⟩ := dat_seqK h2 ey
            subst ea; subst eb
            exact go A B us ws H' r2 la ta lb tb (dats_length d1) (dats_length d2)
        cases k with
        | false =>
          cases k2 with
          | false =>
            cases e2
            exact .inl (run fun A B us ws H' r2 la ta lb tb n1 n2 => ⟨A, B, us, ws, rfl, .inl ⟨.of (la rfl), .of (lb rfl), q (Itz X.K A B) _ _ H' rfl (iter_zip (k := false) ex ey) r2⟩⟩)
          | true =>
            cases e2
            exact .inr (run fun A B us ws H' r2 la ta lb tb n1 n2 => ⟨A, B, us, ws, rfl, .of (la rfl), tb rfl, by rw [n1, n2]; exact q (ItzM X.K A B xs.length ys.length) _ _ H' rfl (iter_zipM ex ey) r2⟩)
        | true =>
          cases k2 with
          | false => cases e2
          | true =>
            cases e2
            exact .inl (run fun A B us ws H' r2 la ta lb tb n1 n2 => ⟨A, B, us, ws, rfl, .inr ⟨ta rfl, tb rfl, q (RZ.ItzT X.K A B) _ _ H' rfl (iter_zip (k := true) ex ey) r2⟩⟩)
  | exc _ _ _ _ =>
    rw [e1] at q
    left
    refine tA_os (os := vals [f, g]) ⟨τ, κ, env, r, l, ?_⟩
    rw [e1]
    exact q
  | stuck => rw [e1] at q; exact q.elim
/-! ### comprehensions -/
def Rs.ne {α : Type} (r : Rs α) : Rs α := match r with
  | .exc _ _ _ _ => .stuck
  | r => r
def wipeE (env : Tw.Env) : List Nat → Tw.Env
  | [] => env
  | v :: vs => (wipeE env vs).set v none
def compGo (vs : List Nat) (b : Bd) (t : EvB) (f : Ev) : List D → List D → Tw.Env → Rs (List D)
  | [], acc, env => .ok acc env
  | d :: ds, acc, env => match b d env with
    | none => .stuck
    | some env1 => (t env1).ne.bind fun k env2 => if k = true then (f env2).ne.bind fun y env3 => compGo vs b t f ds (acc ++ [y]) (wipeE env3 vs) else compGo vs b t f ds acc (wipeE env2 vs)
def fComp (vs : List Nat) (fi : Tw.Env → Rs (List D)) (b : Bd) (t : EvB) (f : Ev) : Ev := fun env => (fi env).bind fun items env1 => if lenOk items.length then (compGo vs b t f items [] (wipeE env1 vs)).bind fun ds env2 => .ok (.lst true ds) env2 else .stuck
theorem Rel.append {K : PySem.W.Frag} {H : Hp} {d : D} {acc : List D} {y : V} {p : Addr} {κ : Tw.Env} {τ : S} (r : Rel K cl H (some d :: some (.lst true acc) :: κ) (some y :: some (.ref p) :: τ)) :
    ∃ us, H p = some (.lst us) ∧ us.length = acc.length ∧ Rel K cl (upd H p (.lst (us ++ [y]))) (some (.lst true (acc ++ [d])) :: κ) (some (.ref p) :: τ) := by
  obtain ⟨F, n, h⟩ := r
  obtain ⟨v1, xs1, f1, g1, e1, e2, h1, h2⟩ := h
  cases e1
  obtain ⟨v2, xs2, f2, g2, e3, e4, h3, h4⟩ := h2
  cases e3
  obtain ⟨a, us, g, e5, t, hd, w⟩ := h3
  cases e5
  rcases w with ⟨_, hM, e6⟩ | ⟨z, _⟩
  · subst e6; subst e4; subst e2
    refine ⟨us, t, dats_length hd, ?_⟩
    have n1 := List.nodup_append.mp n
    have n2 := List.nodup_append.mp n1.2.1
    have np1 : p ∉ f1 := fun z => n1.2.2 p z p (List.mem_append_left _ List.mem_cons_self) rfl
    have np2 : p ∉ g2 := fun z => n2.2.2 p List.mem_cons_self p z rfl
    have np3 : p ∉ g := (List.nodup_cons.mp n2.1).1
    have pm : (f1 ++ (p :: g ++ g2)).Perm ((p :: (g ++ f1)) ++ g2) := by
      refine (List.perm_append_comm_assoc f1 (p :: g) g2).trans ?_
      simp
    refine Rel.of_perm (f := f1 ++ (p :: g ++ g2)) (g := (p :: (g ++ f1)) ++ g2) ?_ n pm
    have tr : ∀ {f : List Addr}, p ∉ f → ∀ a o, H a = some o → (a ∈ f1 ++ (p :: g ++ g2) → a ∈ f) → upd H p (.lst (us ++ [y])) a = some o := fun {f} np a o e hf => by
      rw [upd_ne fun z => np (by rw [← z]; exact hf (by rw [z]; exact hM))]
      exact e
    refine ⟨.ref p, _, p :: (g ++ f1), g2, rfl, rfl, ⟨p, us ++ [y], g ++ f1, rfl, upd_same, ?_, .inl ⟨rfl, hM, rfl⟩⟩, ?_⟩
    · refine dats_append (dats_tr hd (fun a z => .inl z) (fun a z => by simp [z]) (tr np3)) ⟨y, [], f1, [], rfl, by simp, dat_tr h1 (fun a z => .inl z) (fun a z => by simp [z]) (tr np1), rfl, rfl⟩
    · exact slots_tr h4 (fun a z => .inl z) (fun a z => by simp [z]) (tr np2)
  · cases z
theorem slots_blank {K M H} : ∀ {ds : Tw.Env} {xs : S} {f : List Addr} (i : Nat) (x : Option V), Slots K cl M H ds xs f → ∃ g, (∀ a ∈ g, a ∈ f) ∧ (f.Nodup → g.Nodup) ∧ Slots K cl M H (ds.set i none) (xs.set i x) g
  | [], xs, f, i, x, h => by
    have e := h.1.1
    subst e
    exact ⟨f, fun _ z => z, id, h⟩
  | none :: ds, _, f, 0, x, h => by
    obtain ⟨y, ys, rfl, h⟩ := h
    exact ⟨f, fun _ z => z, id, x, ys, rfl, h⟩
  | some d :: ds, _, f, 0, x, h => by
    obtain ⟨y, ys, f1, f2, rfl, rfl, h1, h⟩ := h
    exact ⟨f2, fun _ z => List.mem_append_right _ z, fun n => (List.nodup_append.mp n).2.1, x, ys, rfl, h⟩
  | none :: ds, _, f, i + 1, x, h => by
    obtain ⟨y, ys, rfl, h⟩ := h
    obtain ⟨g, hg, n, h2⟩ := slots_blank i x h
    exact ⟨g, hg, n, y, ys.set i x, rfl, h2⟩
  | some d :: ds, _, f, i + 1, x, h => by
    obtain ⟨y, ys, f1, f2, rfl, rfl, h1, h⟩ := h
    obtain ⟨g, hg, n, h2⟩ := slots_blank i x h
    refine ⟨f1 ++ g, fun a z => (List.mem_append.mp z).elim (fun z => List.mem_append_left _ z) fun z => List.mem_append_right _ (hg a z), fun n' => ?_, y, ys.set i x, f1, g, rfl, rfl, h1, h2⟩
    have n3 := List.nodup_append.mp n'
    exact List.nodup_append.mpr ⟨n3.1, n n3.2.1, fun a z b w e => n3.2.2 a z b (hg b w) e⟩
theorem Rel.blank {K : PySem.W.Frag} {H : Hp} {ds : Tw.Env} {xs : S} (r : Rel K cl H ds xs) (i : Nat) (x : Option V) : Rel K cl H (ds.set i none) (xs.set i x) := by
  obtain ⟨f, n, h⟩ := r
  obtain ⟨g, hg, n2, h2⟩ := slots_blank i x h
  exact .of_sub h2 (n2 n) hg
theorem Rel.blank2 {K : PySem.W.Frag} {H : Hp} {κ env : Tw.Env} {τ σ : S} (r : Rel K cl H (κ ++ env) (τ ++ σ)) (l : τ.length = κ.length) (i : Nat) (x : Option V) : Rel K cl H (κ ++ env.set i none) (τ ++ σ.set i x) := by
  have q := r.blank (κ.length + i) x
  rwa [List.set_append_right _ _ (by omega), Nat.add_sub_cancel_left, ← l, List.set_append_right _ _ (by omega), Nat.add_sub_cancel_left] at q
theorem rel_wipe {K : PySem.W.Frag} {H : Hp} {κ env : Tw.Env} {τ σ : S} (r : Rel K cl H (κ ++ env) (τ ++ σ)) (l : τ.length = κ.length) : ∀ vs : List Nat, Rel K cl H (κ ++ wipeE env vs) (τ ++ wipe σ vs)
  | [] => r
  | v :: vs => (rel_wipe r l vs).blank2 l v none
theorem wipeE_set {env : Tw.Env} : ∀ {vs : List Nat} {v : Nat}, v ∈ vs → (wipeE env vs).set v none = wipeE env vs
  | u :: vs, v, h => by
    unfold wipeE
    by_cases e : v = u
    · subst e; rw [List.set_set]
    · rw [List.set_comm _ _ (Ne.symm e), wipeE_set ((List.mem_cons.mp h).resolve_left e)]
theorem set_some_self (σ : S) (v : Nat) : σ.set v (σ[v]?.join) = σ := by
  by_cases h : v < σ.length
  · rw [List.getElem?_eq_getElem h]
    show σ.set v σ[v] = σ
    exact List.set_getElem_self h
  · exact List.set_eq_of_length_le (by omega)
theorem rel_unwipe {K : PySem.W.Frag} {H : Hp} {κ env : Tw.Env} {τ σ : S} (l : τ.length = κ.length) : ∀ {vs : List Nat}, (∀ v ∈ vs, env.set v none = env) → Rel K cl H (κ ++ env) (τ ++ wipe σ vs) → Rel K cl H (κ ++ env) (τ ++ σ)
  | [], _, r => r
  | v :: vs, hv, r => by
    refine rel_unwipe l (fun u hu => hv u (List.mem_cons_of_mem _ hu)) ?_
    have q := r.blank2 l v ((wipe σ vs)[v]?.join)
    rw [hv v List.mem_cons_self] at q
    have e : (wipe σ (v :: vs)).set v ((wipe σ vs)[v]?.join) = wipe σ vs := by
      show ((wipe σ vs).set v none).set v _ = _
      rw [List.set_set, set_some_self]
    rwa [e] at q
theorem wipe_off {σ σ' : S} : ∀ {vs : List Nat}, σ'.length = σ.length → (∀ j, j ∉ vs → σ'[j]? = σ[j]?) → wipe σ' vs = wipe σ vs := fun {vs} l h => by
  apply List.ext_getElem?
  intro j
  by_cases hj : j ∈ vs
  · have key : ∀ (ρ : S) (us : List Nat), j ∈ us → (wipe ρ us)[j]? = if j < ρ.length then some none else none := fun ρ us hm => by
      induction us with
      | nil => cases hm
      | cons u us ih =>
        unfold wipe
        by_cases e : u = j
        · subst e
          by_cases c : u < ρ.length
          · rw [if_pos c, List.getElem?_set_self (by rw [wipe_length]; exact c)]
          · rw [if_neg c, List.getElem?_eq_none (by rw [List.length_set, wipe_length]; omega)]
        · rw [List.getElem?_set_ne e]
          exact ih ((List.mem_cons.mp hm).resolve_left fun z => e z.symm)
    rw [key σ' vs hj, key σ vs hj, l]
  · rw [wipe_out hj, wipe_out hj, h j hj]
/-- the reading of a comprehension -/
theorem rd_comp {K : PySem.W.Frag} {vs ts : List Nat} {fi : Tw.Env → Rs (List D)} {b : Bd} {t : EvB} {f : Ev} {g : TG} {tt : TT} {te : TE} (hts : ∀ i ∈ ts, i ∈ vs) {σ : S} {H : Hp} {Q : VK} (h : tE K cl W (fComp vs fi b t f) σ H Q)
    (hg : ∀ v σ H Q, tG K cl ts b v σ H Q → g v σ H Q) (ht : ∀ σ H Q, tT K cl (fun _ _ _ _ => False) t σ H Q → tt σ H Q) (he : ∀ σ H Q, tE K cl (fun _ _ _ _ => False) f σ H Q → te σ H Q) : tLc (tI K cl W fi) g tt te vs σ H Q := by
  obtain ⟨τ, κ, env, r, l, q⟩ := h
  refine ⟨τ, κ, env, r, l, ?_⟩
  unfold fComp at q
  cases e1 : fi env with
  | ok items env1 =>
    rw [e1, Rs.bind_ok] at q
    intro J κx τx H1 lx it r1 p hD
    split at q
    · rename_i hlen
      have hlen := of_decide_eq_true hlen
      let Inv : Nat → Nat → Hp → Prop := fun i m H => i ≤ items.length ∧ m = items.length - i ∧ ∃ (env' : Tw.Env) (acc : List D), acc.length ≤ i ∧ (∀ v ∈ vs, env'.set v none = env') ∧ Rel K cl H (some (.lst true acc) :: (κx ++ (κ ++ env'))) (some (.ref p) :: (τx ++ (τ ++ wipe σ vs))) ∧
        ((compGo vs b t f (items.drop i) acc env').bind fun ds env2 => Rs.ok (Tw.D.lst true ds) env2).P (fun d env' => ∀ v H', Rel K cl H' (some d :: (κ ++ env')) (some v :: (τ ++ σ)) → Q v H') (WP K cl W κ τ σ)
      refine ⟨Inv, ⟨items.length, Nat.zero_le _, rfl, wipeE env1 vs, [], Nat.zero_le _, fun v hv => wipeE_set hv, ?_, q⟩, ?_⟩
      · have r2 : Rel K cl H1 (κx ++ (κ ++ wipeE env1 vs)) (τx ++ (τ ++ wipe σ vs)) := by
          have z := rel_wipe (κ := κx ++ κ) (τ := τx ++ τ) (env := env1) (σ := σ) (by rw [List.append_assoc, List.append_assoc]; exact r1) (by simp [lx, l]) vs
          rwa [List.append_assoc, List.append_assoc] at z
        exact Rel.packL (as := []) (vs := []) r2 rfl hD
      · rintro i m H ⟨hi, rfl, env', acc, ha, hv, r2, q2⟩
        by_cases hlt : i < items.length
        · right
          have hd : items[i]? = some items[i] := List.getElem?_eq_getElem hlt
          have r3 : Rel K cl H (κx ++ (some (.lst true acc) :: (κ ++ env'))) (τx ++ (some (.ref p) :: (τ ++ wipe σ vs))) := Rel.swap3 (A := [some (.lst true acc)]) (X := [some (.ref p)]) r2 rfl lx
          obtain ⟨go, yl⟩ := it.go i items[i] hd H _ _ r3
          have r4' : ∀ x H', J.yld i H x H' → Rel K cl H' (some items[i] :: (some (.lst true acc) :: (κx ++ (κ ++ env')))) (some x :: (some (.ref p) :: (τx ++ (τ ++ wipe σ vs)))) := fun x H' y => by
            have z := yl x H' y
            have z2 := Rel.swap3 (A := some items[i] :: κx) (X := some x :: τx) (B := [some (.lst true acc)]) (Y := [some (.ref p)]) (C := κ ++ env') (Z := τ ++ wipe σ vs) z (by simp [lx]) rfl
            exact Rel.swap3 (A := [some (.lst true acc)]) (X := [some (.ref p)]) (B := [some items[i]]) (Y := [some x]) z2 rfl rfl
          rw [List.drop_eq_getElem_cons hlt] at q2
          unfold compGo at q2
          refine ⟨go, fun H' => ∃ m', m' < items.length - i ∧ Inv (i + 1) m' H', fun H' z => z, fun x H' y => hg _ _ _ _ ?_⟩
          have r4 := r4' x H' y
          cases e2 : b items[i] env' with
          | none => rw [e2] at q2; exact q2.elim
          | some env2 =>
            rw [e2] at q2
            simp only at q2
            refine ⟨some (.ref p) :: (τx ++ τ), some (.lst true acc) :: (κx ++ κ), env', items[i], by simpa [List.append_assoc] using r4, by simp [lx, l], env2, e2, fun σ2 H2 o2 r5 => ?_⟩
            have ew : wipe σ2 vs = wipe σ vs := by
              have z : wipe σ2 vs = wipe (wipe σ vs) vs := wipe_off o2.1 fun j hj => o2.2 j fun z => hj (hts j z)
              rw [z]
              exact wipe_off (wipe_length _ _) fun j hj => wipe_out hj
            refine ⟨ew, ht _ _ _ ?_⟩
            have back : ∀ {ρ : S} {env3 : Tw.Env} {H3 : Hp} {a : List D}, wipe ρ vs = wipe σ vs → Rel K cl H3 (some (.lst true a) :: (κx ++ (κ ++ env3))) (some (.ref p) :: (τx ++ (τ ++ ρ))) → Rel K cl H3 (some (.lst true a) :: (κx ++ (κ ++ wipeE env3 vs))) (some (.ref p) :: (τx ++ (τ ++ wipe σ vs))) := fun {ρ env3 H3 a} e z => by
              have z2 := rel_wipe (κ := some (.lst true a) :: (κx ++ κ)) (τ := some (.ref p) :: (τx ++ τ)) (env := env3) (σ := ρ) (by simpa [List.append_assoc] using z) (by simp [lx, l]) vs
              rw [e] at z2
              simpa [List.append_assoc] using z2
            refine ⟨some (.ref p) :: (τx ++ τ), some (.lst true acc) :: (κx ++ κ), env2, r5, by simp [lx, l], ?_⟩
            cases e3 : t env2 with
            | ok k env3 =>
              rw [e3] at q2
              simp only [Rs.ne, Rs.bind_ok] at q2
              intro H3 r6
              have r6' : Rel K cl H3 (some (.lst true acc) :: (κx ++ (κ ++ env3))) (some (.ref p) :: (τx ++ (τ ++ σ2))) := by simpa [List.append_assoc] using r6
              cases k with
              | true =>
                rw [if_pos rfl] at q2 ⊢
                refine he _ _ _ ⟨some (.ref p) :: (τx ++ τ), some (.lst true acc) :: (κx ++ κ), env3, r6, by simp [lx, l], ?_⟩
                cases e4 : f env3 with
                | ok y env4 =>
                  rw [e4] at q2
                  simp only [Rs.ne, Rs.bind_ok] at q2
                  intro v H4 r7
                  obtain ⟨us, t1, lu, r8⟩ := Rel.append (d := y) (acc := acc) (y := v) (p := p) (κ := κx ++ (κ ++ env4)) (τ := τx ++ (τ ++ σ2)) (by simpa [List.append_assoc] using r7)
                  exact ⟨us, t1, by omega, items.length - (i + 1), by omega, hlt, rfl, wipeE env4 vs, acc ++ [y], by simp; omega, fun v hv => wipeE_set hv, back ew r8, q2⟩
                | exc _ _ _ _ => rw [e4] at q2; exact q2.elim
                | stuck => rw [e4] at q2; exact q2.elim
              | false =>
                rw [if_neg Bool.false_ne_true] at q2 ⊢
                exact ⟨items.length - (i + 1), by omega, hlt, rfl, wipeE env3 vs, acc, by omega, fun v hv => wipeE_set hv, back ew r6', q2⟩
            | exc _ _ _ _ => rw [e3] at q2; exact q2.elim
            | stuck => rw [e3] at q2; exact q2.elim
        · left
          have e : i = items.length := by omega
          subst e
          have r3 : Rel K cl H (κx ++ (some (.lst true acc) :: (κ ++ env'))) (τx ++ (some (.ref p) :: (τ ++ wipe σ vs))) := Rel.swap3 (A := [some (.lst true acc)]) (X := [some (.ref p)]) r2 rfl lx
          refine ⟨it.stop _ (Nat.le_refl _) H _ _ r3, ?_⟩
          rw [List.drop_length] at q2
          have r4 := Rel.drop r3 lx
          exact q2 _ _ (rel_unwipe (κ := some (.lst true acc) :: κ) (τ := some (.ref p) :: τ) (by simp [l]) hv r4)
    · exact q.elim
  | exc _ _ _ _ => rw [e1] at q; exact q
  | stuck => rw [e1] at q; exact q
end
end Tw
noncomputable section
namespace Tw
open PySem PySem.Spec PyProof.Rows L2
def bTrue : EvB := fun env => .ok true env
section
variable {X : Cx} {cl : Cl} {W : WX} {a b c e : Expr} {es : List Expr} {pos p : Pos} {x : Str} {fa fb fc : Ev}
theorem c_nil : PTs X [] (tT X.K cl W bTrue) := ⟨fun pins s σ H Q I ⟨τ, κ, env, r, l, q⟩ => pts_nil.run pins s σ H Q I (q H r)⟩
theorem j_comp {elt tg iter : Expr} {ifs : List Expr} {scope : Scope} {own : List (Str × Nat)} {fi : Tw.Env → Rs (List D)} {bd : Bd} {ts : List Nat} {t : EvB} {f : Ev} (hc : X.calm = true) (hN : X.N.Nodup) (hi : PI X tg iter (tI X.K cl W fi)) (ok : BlkOk X.N X.env.scope scope own)
    (hg : ∀ (s : Shared) (H : Hp) (C : Addr) (cls : List (Str × Addr)) (fp : List Addr), PG (X.blk s H scope (compEnvC scope cls C X.env) fp) tg (tG X.K cl ts bd)) (ht : ∀ (s : Shared) (H : Hp) (C : Addr) (cls : List (Str × Addr)) (fp : List Addr), PTs (X.blk s H scope (compEnvC scope cls C X.env) fp) ifs (tT X.K cl (fun _ _ _ _ => False) t))
    (he : ∀ (s : Shared) (H : Hp) (C : Addr) (cls : List (Str × Addr)) (fp : List Addr), PE (X.blk s H scope (compEnvC scope cls C X.env) fp) elt (tE X.K cl (fun _ _ _ _ => False) f)) (hts : ∀ i ∈ ts, i ∈ own.map (·.2)) (hs : ∀ x, foldedSetIterable iter X.env x = pure x := by intro _; rfl) :
    PE X (.ListComp elt [⟨tg, iter, ifs, 0⟩] scope pos) (tE X.K cl W (fComp (own.map (·.2)) fi bd t f)) :=
  PE.imp (pe_lc hc hN hi ok hg ht he hs) fun σ H Q h => rd_comp hts h (fun _ _ _ _ z => z) (fun _ _ _ z => z) fun _ _ _ z => z
/-! ## statements -/
inductive Out where
  | next (env : Tw.Env) | brk (env : Tw.Env) | cont (env : Tw.Env) | ret (d : D) (env : Tw.Env) | exc (c : Nat) (ns : List Str) (ds : List D) (env : Tw.Env) | stuck
abbrev Sv := Tw.Env → Out
def Agr (io : List Nat) (σ σ' : S) : Prop := σ'.length = σ.length ∧ ∀ i ∈ io, σ'[i]? = σ[i]?
theorem Agr.refl {io : List Nat} {σ : S} : Agr io σ σ := ⟨rfl, fun _ _ => rfl⟩
theorem Agr.symm {io : List Nat} {σ σ' : S} (h : Agr io σ σ') : Agr io σ' σ := ⟨h.1.symm, fun i hi => (h.2 i hi).symm⟩
theorem Agr.trans {io : List Nat} {σ σ1 σ2 : S} (h : Agr io σ σ1) (h2 : Agr io σ1 σ2) : Agr io σ σ2 := ⟨h2.1.trans h.1, fun i hi => (h2.2 i hi).trans (h.2 i hi)⟩
theorem Off.agr {ts io : List Nat} {σ σ' : S} (h : Off ts σ σ') (d : ∀ i ∈ io, i ∉ ts) : Agr io σ σ' := ⟨h.1, fun i hi => h.2 i (d i hi)⟩
def SOut (K : PySem.W.Frag) (cl : Cl) (W : WX) (io : List Nat) (Z : Ends) (κ : Tw.Env) (τ σ : S) : Out → Prop
  | .next env' => ∀ σ' H', Agr io σ σ' → Rel K cl H' (κ ++ env') (τ ++ σ') → Z.nx σ' H'
  | .brk env' => ∀ σ' H', Agr io σ σ' → Rel K cl H' (κ ++ env') (τ ++ σ') → Z.bk σ' H'
  | .cont env' => ∀ σ' H', Agr io σ σ' → Rel K cl H' (κ ++ env') (τ ++ σ') → Z.ct σ' H'
  | .ret d env' => ∀ v σ' H', Agr io σ σ' → Rel K cl H' (some d :: (κ ++ env')) (some v :: (τ ++ σ')) → Z.rt v H'
  | .exc c ns ds env' => ∀ cls dd σ' H' vs, Agr io σ σ' → ExAt cl H' cls dd c ns vs → Rel K cl H' (ds.map some ++ (κ ++ env')) (vs.map some ++ (τ ++ σ')) → ds.length = vs.length → W cls dd σ' H'
  | .stuck => False
def tS (K : PySem.W.Frag) (cl : Cl) (W : WX) (io : List Nat) (g : Sv) : TS := fun Z σ H => ∃ (τ : S) (κ env : Tw.Env), Rel K cl H (κ ++ env) (τ ++ σ) ∧ τ.length = κ.length ∧ SOut K cl W io Z κ τ σ (g env)
theorem SOut.agr {K : PySem.W.Frag} {io : List Nat} {Z : Ends} {κ : Tw.Env} {τ σ σ1 : S} {o : Out} (h : SOut K cl W io Z κ τ σ o) (g : Agr io σ σ1) : SOut K cl W io Z κ τ σ1 o := by
  cases o with
  | next env => exact fun σ' H' q r => h σ' H' (g.trans q) r
  | brk env => exact fun σ' H' q r => h σ' H' (g.trans q) r
  | cont env => exact fun σ' H' q r => h σ' H' (g.trans q) r
  | ret d env => exact fun v σ' H' q r => h v σ' H' (g.trans q) r
  | exc c ns ds env => exact fun cls dd σ' H' vs q e r l => h cls dd σ' H' vs (g.trans q) e r l
  | stuck => exact h
def sBind {α : Type} (r : Rs α) (k : α → Tw.Env → Out) : Out := match r with
  | .ok a e => k a e
  | .exc c ns ds e => .exc c ns ds e
  | .stuck => .stuck
@[simp] theorem sBind_ok {α : Type} (a : α) (e : Tw.Env) (k : α → Tw.Env → Out) : sBind (.ok a e) k = k a e := rfl
@[simp] theorem sBind_stuck {α : Type} (k : α → Tw.Env → Out) : sBind .stuck k = .stuck := rfl
theorem sbind_at {K : PySem.W.Frag} {io : List Nat} {Z : Ends} {A κ env : Tw.Env} {Y τ σ : S} {H : Hp} {f : Ev} {k : D → Tw.Env → Out} {Q : VK} (ly : Y.length = A.length) (r : Rel K cl H (A ++ (κ ++ env)) (Y ++ (τ ++ σ))) (l : τ.length = κ.length) (h : SOut K cl W io Z κ τ σ (sBind (f env) k))
    (hk : ∀ d env1 v H1, SOut K cl W io Z κ τ σ (k d env1) → Rel K cl H1 (some d :: (A ++ (κ ++ env1))) (some v :: (Y ++ (τ ++ σ))) → Q v H1) : tE K cl W f σ H Q := by
  refine ⟨Y ++ τ, A ++ κ, env, by rwa [List.append_assoc, List.append_assoc], by simp [ly, l], ?_⟩
  cases e : f env with
  | ok d env1 =>
    rw [e] at h
    exact fun v H1 r1 => hk d env1 v H1 h (by rwa [List.append_assoc, List.append_assoc] at r1)
  | exc c ns ds env1 =>
    rw [e] at h
    exact WP.weak ly fun cls dd H' vs ex r2 l2 => h cls dd σ H' vs .refl ex r2 l2
  | stuck => rw [e] at h; exact h
theorem tbind_at {K : PySem.W.Frag} {io : List Nat} {Z : Ends} {κ env : Tw.Env} {τ σ : S} {H : Hp} {f : EvB} {k : Bool → Tw.Env → Out} {Q : Bool → Hp → Prop} (r : Rel K cl H (κ ++ env) (τ ++ σ)) (l : τ.length = κ.length) (h : SOut K cl W io Z κ τ σ (sBind (f env) k))
    (hk : ∀ d env1 H1, SOut K cl W io Z κ τ σ (k d env1) → Rel K cl H1 (κ ++ env1) (τ ++ σ) → Q d H1) : tT K cl W f σ H Q := by
  refine ⟨τ, κ, env, r, l, ?_⟩
  cases e : f env with
  | ok d env1 =>
    rw [e] at h
    exact fun H1 r1 => hk d env1 H1 h r1
  | exc c ns ds env1 =>
    rw [e] at h
    exact fun cls dd H' vs ex r2 l2 => h cls dd σ H' vs .refl ex r2 l2
  | stuck => rw [e] at h; exact h
/-! ### one behind another -/
variable {io : List Nat} {st : Stmt} {sts : List Stmt}
def sNil : Sv := fun env => .next env
def sSeq (g h : Sv) : Sv := fun env => match g env with
  | .next env1 => h env1
  | o => o
theorem ss_nil : PSs X [] (tS X.K cl W io sNil) := PSs.imp pss_nil fun Z σ H ⟨τ, κ, env, r, l, q⟩ => q σ H .refl r
theorem ss_cons {g h : Sv} (h1 : PS X st (tS X.K cl W io g)) (h2 : PSs X sts (tS X.K cl W io h)) : PSs X (st :: sts) (tS X.K cl W io (sSeq g h)) := PSs.imp (pss_cons h1 h2) fun Z σ H ⟨τ, κ, env, r, l, q⟩ => by
  refine ⟨τ, κ, env, r, l, ?_⟩
  unfold sSeq at q
  cases e : g env with
  | next env1 =>
    rw [e] at q
    exact fun σ' H' a r' => ⟨τ, κ, env1, r', l, q.agr a⟩
  | brk env1 => rw [e] at q; exact q
  | cont env1 => rw [e] at q; exact q
  | ret d env1 => rw [e] at q; exact q
  | exc c ns ds env1 => rw [e] at q; exact q
  | stuck => rw [e] at q; exact q
def sNever : Sv := fun _ => .stuck
theorem s_never : PS X st (tS X.K cl W io sNever) := PS.imp ps_never fun Z σ H ⟨τ, κ, env, r, l, q⟩ => q
def sBrk : Sv := fun env => .brk env
def sCont : Sv := fun env => .cont env
def sRet (f : Ev) : Sv := fun env => sBind (f env) fun d env1 => .ret d env1
def sExpr (f : Ev) : Sv := fun env => sBind (f env) fun _ env1 => .next env1
theorem s_ret (h : PE X e (tE X.K cl W fa)) : PS X (.Return (some e) pos) (tS X.K cl W io (sRet fa)) := PS.imp (ps_ret h) fun Z σ H ⟨τ, κ, env, r, l, q⟩ =>
  sbind_at (A := []) (Y := []) rfl r l q fun d env1 v H1 h1 r1 => h1 v σ H1 .refl r1
theorem s_expr (h : PE X e (tE X.K cl W fa)) (hs : swapsWith e none pos.line X.env = pure false := by rfl) : PS X (.Expr e pos) (tS X.K cl W io (sExpr fa)) := PS.imp (ps_expr h hs) fun Z σ H ⟨τ, κ, env, r, l, q⟩ =>
  sbind_at (A := []) (Y := []) rfl r l q fun d env1 v H1 h1 r1 => h1 σ H1 .refl r1.pop
def sIf (t : EvB) (g h : Sv) : Sv := fun env => sBind (t env) fun k env1 => if k = true then g env1 else h env1
theorem s_if {t : EvB} {g h : Sv} {as bs : List Stmt} (hc : PT X c (tT X.K cl W t)) (ha : PSs X as (tS X.K cl W io g)) (hb : PSs X bs (tS X.K cl W io h)) : PS X (.If c as bs pos) (tS X.K cl W io (sIf t g h)) := PS.imp (ps_if hc ha hb) fun Z σ H ⟨τ, κ, env, r, l, q⟩ =>
  tbind_at r l q fun k env1 H1 h1 r1 => by
    cases k with
    | true => rw [if_pos rfl] at h1 ⊢; exact ⟨τ, κ, env1, r1, l, h1⟩
    | false => rw [if_neg Bool.false_ne_true] at h1 ⊢; exact ⟨τ, κ, env1, r1, l, h1⟩
/-! ### stores -/
def sAsg (bd : Bd) (f : Ev) : Sv := fun env => sBind (f env) fun d env1 => match bd d env1 with
  | some env2 => .next env2
  | none => .stuck
theorem rd_asg {K : PySem.W.Frag} {ts : List Nat} {bd : Bd} {te : TE} {g : TG} (he : ∀ σ H Q, tE K cl W fa σ H Q → te σ H Q) (hg : ∀ v σ H Q, tG K cl ts bd v σ H Q → g v σ H Q) (hio : ∀ i ∈ io, i ∉ ts) {Z : Ends} {σ : S} {H : Hp} (h : tS K cl W io (sAsg bd fa) Z σ H) : tAsg te g Z σ H := by
  obtain ⟨τ, κ, env, r, l, q⟩ := h
  refine he _ _ _ (sbind_at (A := []) (Y := []) rfl r l q fun d env1 v H1 h1 r1 => hg _ _ _ _ ?_)
  cases e : bd d env1 with
  | none => rw [e] at h1; exact h1.elim
  | some env2 =>
    rw [e] at h1
    exact ⟨τ, κ, env1, d, r1, l, env2, e, fun σ' H' o r2 => h1 σ' H' (o.agr hio) r2⟩
theorem s_set {i : Nat} {px : Pos} (hN : X.N.Nodup) (he : PE X e (tE X.K cl W fa)) (hio : ∀ j ∈ io, j ∉ [i] := by decide) (hi : X.N[i]? = some x := by rfl) (hx : Loc X.env.scope x := by first | exact .inl rfl | exact .inr rfl) (hs : swapsWith e (some (.Name x px)) pos.line X.env = pure false := by rfl)
    (hf : X.fn x = true ∨ X.env.scope.names.lookup x = some .local := by first | exact .inl rfl | exact .inr rfl) : PS X (.Assign [.Name x px] e pos) (tS X.K cl W io (sAsg (bNm i) fa)) :=
  PS.imp (L2.ps_set hN hi hx he hs hf) fun Z σ H h => rd_asg (fun _ _ _ z => z) (fun _ _ _ _ z => rd_nm z) hio h
theorem s_asg {tg : Expr} {ts : List Nat} {bd : Bd} (he : PE X e (tE X.K cl W fa)) (hg : PG X tg (tG X.K cl ts bd)) (hio : ∀ j ∈ io, j ∉ ts := by decide) (hs : swapsWithSole [tg] e pos.line X.env = pure false := by rfl) (hw : swappedStores [tg] e X.env = pure none := by rfl) (h1 : (assignEach [tg] X.env).map (·.2) = [assign tg X.env] := by rfl) :
    PS X (.Assign [tg] e pos) (tS X.K cl W io (sAsg bd fa)) := PS.imp (ps_asg he hg hs hw h1) fun Z σ H h => rd_asg (fun _ _ _ z => z) (fun _ _ _ _ z => z) hio h
theorem s_setLc {i : Nat} {y : Str} {py spos : Pos} {elt tg iter : Expr} {ifs : List Expr} {scope : Scope} {own : List (Str × Nat)} {fi : Tw.Env → Rs (List D)} {bd : Bd} {ts : List Nat} {t : EvB} {f : Ev} (hc : X.calm = true) (hN : X.N.Nodup) (hy : X.N[i]? = some y) (hyl : X.env.scope.names.lookup y = some .local)
    (hsw : swapsWith (.ListComp elt [⟨tg, iter, ifs, 0⟩] scope pos) (some (.Name y py)) spos.line X.env = pure true) (hi : PI X tg iter (tI X.K cl W fi)) (ok : BlkOk X.N X.env.scope scope own)
    (hg : ∀ (s : Shared) (H : Hp) (C : Addr) (cls : List (Str × Addr)) (fp : List Addr), PG (X.blk s H scope (compEnvC scope cls C X.env) fp) tg (tG X.K cl ts bd)) (ht : ∀ (s : Shared) (H : Hp) (C : Addr) (cls : List (Str × Addr)) (fp : List Addr), PTs (X.blk s H scope (compEnvC scope cls C X.env) fp) ifs (tT X.K cl (fun _ _ _ _ => False) t))
    (he : ∀ (s : Shared) (H : Hp) (C : Addr) (cls : List (Str × Addr)) (fp : List Addr), PE (X.blk s H scope (compEnvC scope cls C X.env) fp) elt (tE X.K cl (fun _ _ _ _ => False) f)) (hts : ∀ i ∈ ts, i ∈ own.map (·.2)) (hio : ∀ j ∈ io, j ∉ [i] := by decide) (hs : ∀ x, foldedSetIterable iter X.env x = pure x := by intro _; rfl) :
    PS X (.Assign [.Name y py] (.ListComp elt [⟨tg, iter, ifs, 0⟩] scope pos) spos) (tS X.K cl W io (sAsg (bNm i) (fComp (own.map (·.2)) fi bd t f))) :=
  PS.imp (ps_setLc hc hN hy hyl hsw hi ok hg ht he hs) fun Z σ H h => rd_asg (fun σ H Q h => rd_comp hts h (fun _ _ _ _ z => z) (fun _ _ _ z => z) fun _ _ _ z => z) (fun _ _ _ _ z => rd_nm z) hio h
/-- a, b = e1, e2 -/
def sPar (i j : Nat) (f g : Ev) : Sv := fun env => sBind (f env) fun x env1 => sBind (g env1) fun y env2 => if i < env2.length ∧ j < env2.length then .next ((env2.set i (some x)).set j (some y)) else .stuck
theorem s_par {i j : Nat} {x y : Str} {px py pt : Pos} {kt k2 pt2} (hc : X.calm = true) (hN : X.N.Nodup) (ha : PE X a (tE X.K cl W fa)) (hb : PE X b (tE X.K cl W fb)) (hi : X.N[i]? = some x := by rfl) (hj : X.N[j]? = some y := by rfl) (hij : i ≠ j := by decide) (hio : ∀ k ∈ io, k ∉ [i, j] := by decide)
    (hx : X.env.scope.names.lookup x = some .local := by rfl) (hy : X.env.scope.names.lookup y = some .local := by rfl) (hw : swappedStores [.Tuple [.Name x px, .Name y py] kt pt] (.Tuple [a, b] k2 pt2) X.env = pure (some [x, y]) := by rfl)
    (hs : swapsWithSole [.Tuple [.Name x px, .Name y py] kt pt] (.Tuple [a, b] k2 pt2) pos.line X.env = pure false := by rfl) (h1 : starEach [a, b] X.env = (false, eval a X.env) :: starEach [b] X.env := by rfl) (h2 : starEach [b] X.env = (false, eval b X.env) :: starEach [] X.env := by rfl) :
    PS X (.Assign [.Tuple [.Name x px, .Name y py] kt pt] (.Tuple [a, b] k2 pt2) pos) (tS X.K cl W io (sPar i j fa fb)) :=
  PS.imp (ps_par hc hN hi hj hij hx hy (pa_cons ha (pa_cons hb pa_nil h2) h1) hw hs) fun Z σ H ⟨τ, κ, env, r, l, q⟩ => by
  refine sbind_at (A := []) (Y := []) rfl r l q fun d env1 v H1 h1 r1 => ?_
  refine sbind_at (A := [some d]) (Y := [some v]) rfl r1 l h1 fun d2 env2 v2 H2 h2 r2 => ⟨v, v2, rfl, ?_⟩
  split at h2
  · rename_i hl
    have r3 : Rel X.K cl H2 (some d :: (some d2 :: (κ ++ env2))) (some v :: (some v2 :: (τ ++ σ))) := Rel.swap3 (A := [some d2]) (X := [some v2]) (B := [some d]) (Y := [some v]) r2 rfl rfl
    have r4 := Rel.put (i := κ.length + i + 1) r3 (by simp; omega)
    have r5 : Rel X.K cl H2 (some d2 :: (κ ++ env2.set i (some d))) (some v2 :: (τ ++ σ.set i (some v))) := by
      rw [List.set_cons_succ, List.set_cons_succ, List.set_append_right _ _ (by omega), Nat.add_sub_cancel_left, ← l, List.set_append_right _ _ (by omega), Nat.add_sub_cancel_left] at r4
      exact r4
    have r6 := Rel.put (i := κ.length + j) r5 (by simp; omega)
    rw [List.set_append_right _ _ (by omega), Nat.add_sub_cancel_left, ← l, List.set_append_right _ _ (by omega), Nat.add_sub_cancel_left] at r6
    exact h2 _ H2 ((Off.set.trans Off.set).agr hio) r6
  · exact h2.elim
/-! ### loops -/
def forGo (bd : Bd) (body : Sv) : List D → Sv
  | [], env => .next env
  | d :: ds, env => match bd d env with
    | none => .stuck
    | some env1 => match body env1 with
      | .next env2 => forGo bd body ds env2
      | .cont env2 => forGo bd body ds env2
      | .brk env2 => .next env2
      | o => o
def sFor (fi : Tw.Env → Rs (List D)) (bd : Bd) (body : Sv) : Sv := fun env => sBind (fi env) fun items env1 => forGo bd body items env1
theorem s_for {tg iter : Expr} {body : List Stmt} {fi : Tw.Env → Rs (List D)} {ts : List Nat} {bd : Bd} {g : Sv} (hp : PassesOwn (model X.prog X.w) X.A X.env X.xe) (hc : X.calm = true) (hi : PI X tg iter (tI X.K cl W fi)) (hg : PG X tg (tG X.K cl ts bd)) (hb : PSs X body (tS X.K cl W io g)) (hio : ∀ i ∈ io, i ∉ ts := by decide)
    (hs : ∀ x, foldedSetIterable iter X.env x = pure x := by intro _; rfl) : PS X (.For tg iter body [] pos) (tS X.K cl W io (sFor fi bd g)) := PS.imp (ps_for hp hc hi hg hb hs) fun Z σ H ⟨τ, κ, env, r, l, q⟩ => by
  refine ⟨τ, κ, env, r, l, ?_⟩
  unfold sFor at q
  cases e1 : fi env with
  | ok items env1 =>
    rw [e1, sBind_ok] at q
    intro J κx τx H1 lx it r1
    refine ⟨fun i m σ1 H1 => i ≤ items.length ∧ m = items.length - i ∧ Agr io σ σ1 ∧ ∃ env', Rel X.K cl H1 (κx ++ (κ ++ env')) (τx ++ (τ ++ σ1)) ∧ SOut X.K cl W io Z κ τ σ (forGo bd g (items.drop i) env'), ⟨items.length, Nat.zero_le _, rfl, .refl, env1, r1, q⟩, ?_⟩
    rintro i m σ1 H1 ⟨hi, rfl, ag, env', r2, q2⟩
    by_cases hlt : i < items.length
    · right
      have hd : items[i]? = some items[i] := List.getElem?_eq_getElem hlt
      obtain ⟨go, yl⟩ := it.go i items[i] hd H1 _ _ r2
      refine ⟨go, _, fun σ' H' z => z, fun x H' y => ?_⟩
      have r3 := yl x H' y
      rw [List.drop_eq_getElem_cons hlt] at q2
      unfold forGo at q2
      cases e2 : bd items[i] env' with
      | none => rw [e2] at q2; exact q2.elim
      | some env2 =>
        rw [e2] at q2
        simp only at q2
        refine ⟨τx ++ τ, κx ++ κ, env', items[i], by simpa [List.append_assoc] using r3, by simp [lx, l], env2, e2, fun σ2 H2 o2 r4 => ?_⟩
        have ag2 := ag.trans (o2.agr hio)
        refine ⟨τx ++ τ, κx ++ κ, env2, r4, by simp [lx, l], ?_⟩
        cases e3 : g env2 with
        | next env3 =>
          rw [e3] at q2
          exact fun σ3 H3 a3 r5 => ⟨items.length - (i + 1), by omega, hlt, rfl, ag2.trans a3, env3, by simpa [List.append_assoc] using r5, q2⟩
        | cont env3 =>
          rw [e3] at q2
          exact fun σ3 H3 a3 r5 => ⟨items.length - (i + 1), by omega, hlt, rfl, ag2.trans a3, env3, by simpa [List.append_assoc] using r5, q2⟩
        | brk env3 =>
          rw [e3] at q2
          exact fun σ3 H3 a3 r5 => q2 σ3 H3 (ag2.trans a3) (Rel.drop (A := κx) (X := τx) (by simpa [List.append_assoc] using r5) lx)
        | ret d env3 =>
          rw [e3] at q2
          exact fun v σ3 H3 a3 r5 => q2 v σ3 H3 (ag2.trans a3) (Rel.drop (A := κx) (X := τx) (Rel.swap3 (A := [some d]) (X := [some v]) (B := κx) (Y := τx) (C := κ ++ env3) (Z := τ ++ σ3) (by simpa [List.append_assoc] using r5) rfl lx) lx)
        | exc c ns ds env3 =>
          rw [e3] at q2
          exact fun cls dd σ3 H3 vs a3 ex r5 l5 => q2 cls dd σ3 H3 vs (ag2.trans a3) ex (Rel.drop (A := κx) (X := τx) (Rel.swap3 (A := ds.map some) (X := vs.map some) (B := κx) (Y := τx) (C := κ ++ env3) (Z := τ ++ σ3) (by simpa [List.append_assoc] using r5) (by simp [l5]) lx) lx) l5
        | stuck => rw [e3] at q2; exact q2.elim
    · left
      have e : i = items.length := by omega
      subst e
      rw [List.drop_length] at q2
      exact ⟨it.stop _ (Nat.le_refl _) H1 _ _ r2, q2 σ1 H1 ag (Rel.drop r2 lx)⟩
  | exc c ns ds env1 =>
    rw [e1] at q
    exact fun cls dd H' vs ex r2 l2 => q cls dd σ H' vs .refl ex r2 l2
  | stuck => rw [e1] at q; exact q
def whileGo (t : EvB) (body : Sv) : Nat → Sv
  | 0, _ => .stuck
  | n + 1, env => sBind (t env) fun k env1 => if k = true then (match body env1 with
      | .next env2 => whileGo t body n env2
      | .cont env2 => whileGo t body n env2
      | .brk env2 => .next env2
      | o => o) else .next env1
open Classical in
noncomputable def sWhile (t : EvB) (body : Sv) : Sv := fun env => if h : ∃ n, whileGo t body n env ≠ .stuck then whileGo t body (Classical.choose h) env else .stuck
end
end Tw
noncomputable section
namespace Tw
open PySem PySem.Spec PyProof.Rows L2
/-! ### lists that are changed where they lie -/
def D.own : D → Option (List D)
  | .lst true xs => some xs
  | _ => none
theorem own_eq {d : D} {xs : List D} (h : D.own d = some xs) : d = .lst true xs := by
  cases d with
  | lst m ys => cases m <;> simp [D.own] at h; rw [h]
  | _ => simp [D.own] at h
def ownAt (env : Tw.Env) (i : Nat) : Option (List D) := (env[i]?.join).bind D.own
section
variable {X : Cx} {cl : Cl} {W : WX} {a b c e : Expr} {es : List Expr} {pos p : Pos} {x : Str} {fa fb fc : Ev} {io : List Nat}
theorem ownAt_eq {env : Tw.Env} {i : Nat} {xs : List D} (h : ownAt env i = some xs) : env[i]? = some (some (.lst true xs)) := by
  unfold ownAt at h
  obtain ⟨d, e, h⟩ := Option.bind_eq_some_iff.mp h
  rw [own_eq h] at e
  cases e2 : env[i]? with
  | none => rw [e2] at e; cases e
  | some o => rw [e2] at e; cases o with
    | none => cases e
    | some d' => cases e; rfl
/-- the list at a slot to the front, and back -/
theorem slot_out {K : PySem.W.Frag} {H : Hp} {A κ env : Tw.Env} {Y τ σ : S} {i : Nat} {d : D} (r : Rel K cl H (A ++ (κ ++ env)) (Y ++ (τ ++ σ))) (ly : Y.length = A.length) (l : τ.length = κ.length) (e : env[i]? = some (some d)) :
    ∃ v, σ[i]? = some (some v) ∧ Rel K cl H (some d :: (A ++ (κ ++ env.set i none))) (some v :: (Y ++ (τ ++ σ))) := by
  have e2 : (A ++ (κ ++ env))[A.length + (κ.length + i)]? = some (some d) := by
    rw [List.getElem?_append_right (by omega), Nat.add_sub_cancel_left, List.getElem?_append_right (by omega), Nat.add_sub_cancel_left]
    exact e
  obtain ⟨v, e3, r2⟩ := r.take e2
  rw [List.getElem?_append_right (by omega), ly, Nat.add_sub_cancel_left, List.getElem?_append_right (by omega), l, Nat.add_sub_cancel_left] at e3
  rw [List.set_append_right _ _ (by omega), Nat.add_sub_cancel_left, List.set_append_right _ _ (by omega), Nat.add_sub_cancel_left] at r2
  exact ⟨v, e3, r2⟩
theorem slot_in {K : PySem.W.Frag} {H : Hp} {A κ env : Tw.Env} {Y τ σ : S} {i : Nat} {d : D} {v : V} (r : Rel K cl H (some d :: (A ++ (κ ++ env))) (some v :: (Y ++ (τ ++ σ)))) (ly : Y.length = A.length) (l : τ.length = κ.length) (e : σ[i]? = some (some v)) : Rel K cl H (A ++ (κ ++ env.set i (some d))) (Y ++ (τ ++ σ)) := by
  have e2 : (Y ++ (τ ++ σ))[A.length + (κ.length + i)]? = some (some v) := by
    rw [← ly, ← l, List.getElem?_append_right (by omega), Nat.add_sub_cancel_left, List.getElem?_append_right (by omega), Nat.add_sub_cancel_left]
    exact e
  have r2 := r.back e2
  rwa [List.set_append_right _ _ (by omega), Nat.add_sub_cancel_left, List.set_append_right _ _ (by omega), Nat.add_sub_cancel_left] at r2
/-- o.m(e) of the list at slot i: gm tells from the list and the argument the answer and the new list -/
def fMt1 (i : Nat) (gm : List D → D → Option (D × List D)) (f : Ev) : Ev := fun env => match ownAt env i with
  | none => .stuck
  | some _ => (f env).bind fun y env1 => match (ownAt env1 i).bind fun ds => gm ds y with
    | some q => .ok q.1 (env1.set i (some (.lst true q.2)))
    | none => .stuck
def fMt0 (i : Nat) (gm : List D → Option (D × List D)) : Ev := fun env => match (ownAt env i).bind gm with
  | some q => .ok q.1 (env.set i (some (.lst true q.2)))
  | none => .stuck
/-- what the rule of such a method asks, told of the front -/
def Mt1S (K : PySem.W.Frag) (cl : Cl) (r : V → List V → Hp → VK → Prop) (gm : List D → D → Option (D × List D)) : Prop :=
  ∀ (ds : List D) (y : D) (q : D × List D) (p : Addr) (v : V) (H : Hp) (κ : Tw.Env) (τ : S) (Q : VK), gm ds y = some q → Rel K cl H (some y :: some (.lst true ds) :: κ) (some v :: some (.ref p) :: τ) →
    (∀ u H', Rel K cl H' (some q.1 :: some (.lst true q.2) :: κ) (some u :: some (.ref p) :: τ) → Q u H') → r (.ref p) [v] H Q
def Mt0S (K : PySem.W.Frag) (cl : Cl) (r : V → List V → Hp → VK → Prop) (gm : List D → Option (D × List D)) : Prop :=
  ∀ (ds : List D) (q : D × List D) (p : Addr) (H : Hp) (κ : Tw.Env) (τ : S) (Q : VK), gm ds = some q → Rel K cl H (some (.lst true ds) :: κ) (some (.ref p) :: τ) →
    (∀ u H', Rel K cl H' (some q.1 :: some (.lst true q.2) :: κ) (some u :: some (.ref p) :: τ) → Q u H') → r (.ref p) [] H Q
theorem own_head {K : PySem.W.Frag} {H : Hp} {ds : List D} {v : V} {κ : Tw.Env} {τ : S} (r : Rel K cl H (some (.lst true ds) :: κ) (some v :: τ)) : ∃ p vs, v = .ref p ∧ H p = some (.lst vs) ∧ vs.length = ds.length := by
  obtain ⟨M, f, a, vs, g, e, t, hd, _⟩ := r.head
  exact ⟨a, vs, e, t, dats_length hd⟩
theorem rd_mt1 {K : PySem.W.Frag} {i : Nat} {r : V → List V → Hp → VK → Prop} {gm : List D → D → Option (D × List D)} (hs : Mt1S K cl r gm) {σ : S} {H : Hp} {Q : VK} (h : tE K cl W (fMt1 i gm fa) σ H Q) : tBM K "list" r (tVar i) (tOs K cl W [.val fa]) σ H Q := by
  obtain ⟨τ, κ, env, rl, l, q⟩ := h
  unfold fMt1 at q
  cases e : ownAt env i with
  | none => rw [e] at q; exact q.elim
  | some ds0 =>
    rw [e] at q
    simp only at q
    obtain ⟨v, e1, r1⟩ := slot_out (A := []) (Y := []) rl rfl l (ownAt_eq e)
    obtain ⟨p, vs, rfl, t, _⟩ := own_head r1
    refine ⟨.ref p, e1, .inl ⟨rfl, vs, .of t⟩, ?_⟩
    refine tE_bind rl l q fun y env1 v H1 h1 r2 => ?_
    show r _ _ _ _
    cases e2 : (ownAt env1 i).bind fun ds => gm ds y with
    | none => rw [e2] at h1; exact h1.elim
    | some z =>
      rw [e2] at h1
      obtain ⟨ds, e3, e4⟩ := Option.bind_eq_some_iff.mp e2
      obtain ⟨v', e5, r3⟩ := slot_out (A := [some y]) (Y := [some v]) r2 rfl l (ownAt_eq e3)
      rw [e1] at e5
      cases e5
      refine hs ds y z p v H1 _ _ Q e4 (Rel.swap3 (A := [some (.lst true ds)]) (X := [some (.ref p)]) (B := [some y]) (Y := [some v]) r3 rfl rfl) fun u H2 r4 => ?_
      have r5 := slot_in (A := [some z.1]) (Y := [some u]) (Rel.swap3 (A := [some z.1]) (X := [some u]) (B := [some (.lst true z.2)]) (Y := [some (.ref p)]) r4 rfl rfl) rfl l e1
      rw [List.set_set] at r5
      exact h1 u H2 r5
def gAppend (ds : List D) (y : D) : Option (D × List D) := if lenOk (ds.length + 1) then some (.non, ds ++ [y]) else none
theorem s_append {K : PySem.W.Frag} : Mt1S K cl rAppend gAppend := by
  intro ds y q p v H κ τ Q h r k
  unfold gAppend at h
  split at h
  · rename_i c
    cases h
    obtain ⟨us, t, lu, r2⟩ := r.append
    have c := of_decide_eq_true c
    exact ⟨p, us, v, rfl, rfl, t, by omega, k _ _ (r2.push fun M => ⟨rfl, rfl⟩)⟩
  · cases h
/-- parts of the front list put elsewhere: what is left of it -/
theorem Rel.relist {K : PySem.W.Frag} {H : Hp} {ds es : List D} {us ws : List V} {p : Addr} {κ : Tw.Env} {τ : S} (r : Rel K cl H (some (.lst true ds) :: κ) (some (.ref p) :: τ)) (t : H p = some (.lst us)) (o : D.oks ds = true)
    (hd : ∀ M, Dats K cl M H ds us [] → Dats K cl M H es ws []) : Rel K cl (upd H p (.lst ws)) (some (.lst true es) :: κ) (some (.ref p) :: τ) := by
  obtain ⟨F, n, h⟩ := r
  obtain ⟨v1, xs1, f1, g1, e1, e2, h1, h4⟩ := h
  cases e1
  obtain ⟨a, us', g, e5, t', hd', w⟩ := h1
  cases e5
  rw [t] at t'
  cases t'
  have eg := dats_ok hd' o
  subst eg
  rcases w with ⟨_, hM, e6⟩ | ⟨z, _⟩
  · subst e6; subst e2
    have np : p ∉ g1 := (List.nodup_cons.mp n).1
    have tr : ∀ {f : List Addr}, p ∉ f → ∀ a o, H a = some o → (a ∈ [p] ++ g1 → a ∈ f) → upd H p (.lst ws) a = some o := fun {f} np a o e hf => by
      rw [upd_ne fun z => np (by rw [← z]; exact hf (by rw [z]; exact hM))]
      exact e
    refine ⟨[p] ++ g1, n, .ref p, _, [p], g1, rfl, rfl, ⟨p, ws, [], rfl, upd_same, ?_, .inl ⟨rfl, hM, rfl⟩⟩, ?_⟩
    · exact dats_tr (hd _ hd') (fun a z => .inl z) (fun a z => nomatch z) (tr (by simp))
    · exact slots_tr h4 (fun a z => .inl z) (fun a z => List.mem_append_right _ z) (tr np)
  · cases z
theorem dats_eraseIdx {K M H} {ds : List D} {vs : List V} (n : Nat) (h : Dats K cl M H ds vs []) : Dats K cl M H (ds.eraseIdx n) (vs.eraseIdx n) [] := by
  rw [List.eraseIdx_eq_take_drop_succ, List.eraseIdx_eq_take_drop_succ]
  exact dats_nil_append (dats_take _ h) (dats_drop _ h)
theorem dats_set {K M H} {d : D} {v : V} (hd : Dat K cl M H d v []) : ∀ {ds : List D} {vs : List V} (n : Nat), Dats K cl M H ds vs [] → Dats K cl M H (ds.set n d) (vs.set n v) []
  | [], _, n, h => by rw [h.1]; exact ⟨rfl, rfl⟩
  | e :: ds, _, n, h => by
    obtain ⟨u, us, f1, f2, rfl, e2, h1, h2⟩ := h
    obtain ⟨rfl, rfl⟩ := List.append_eq_nil_iff.mp e2.symm
    cases n with
    | zero => exact ⟨v, us, [], [], rfl, rfl, hd, h2⟩
    | succ n => exact ⟨u, us.set n v, [], [], rfl, rfl, h1, dats_set hd n h2⟩
/-- take a frozen thing out of the front list, and change it -/
theorem Rel.pluck {K : PySem.W.Frag} {H : Hp} {ds es : List D} {us ws : List V} {p : Addr} {κ : Tw.Env} {τ : S} {j : Nat} {d : D} {v : V} (r : Rel K cl H (some (.lst true ds) :: κ) (some (.ref p) :: τ)) (t : H p = some (.lst us)) (o : D.oks ds = true) (ed : ds[j]? = some d) (ev : us[j]? = some v)
    (hd : ∀ M, Dats K cl M H ds us [] → Dats K cl M H es ws []) : Rel K cl (upd H p (.lst ws)) (some d :: some (.lst true es) :: κ) (some v :: some (.ref p) :: τ) := by
  have r2 : Rel K cl H (some d :: (List.map some [D.lst true ds] ++ κ)) (some v :: (List.map some [.ref p] ++ τ)) := by
    obtain ⟨f, g, n, hh, hr⟩ := Rel.split (as := [.lst true ds]) (vs := [.ref p]) r rfl
    obtain ⟨a', us', g1, e1, t1, d1, _⟩ := dats1 hh
    cases e1
    rw [t] at t1
    cases t1
    obtain ⟨w, e2, hw⟩ := dats_get (oks_nil d1 o) ed
    rw [ev] at e2
    cases e2
    exact derive n hh hr hw
  have r3 : Rel K cl H (some (.lst true ds) :: (some d :: κ)) (some (.ref p) :: (some v :: τ)) := Rel.swap3 (A := [some d]) (X := [some v]) (B := [some (.lst true ds)]) (Y := [some (.ref p)]) r2 rfl rfl
  exact Rel.swap3 (A := [some (.lst true es)]) (X := [some (.ref p)]) (B := [some d]) (Y := [some v]) (r3.relist t o hd) rfl rfl
def gPop (ds : List D) : Option (D × List D) := if D.oks ds then (ds[ds.length - 1]?).map fun d => (d, ds.dropLast) else none
theorem own_dats {K : PySem.W.Frag} {H : Hp} {ds : List D} {p : Addr} {κ : Tw.Env} {τ : S} (r : Rel K cl H (some (.lst true ds) :: κ) (some (.ref p) :: τ)) (o : D.oks ds = true) : ∃ us M, H p = some (.lst us) ∧ Dats K cl M H ds us [] := by
  obtain ⟨M, f, a, vs, g, e, t, hd, _⟩ := r.head
  cases e
  exact ⟨vs, M, t, oks_nil hd o⟩
def gPopAt (ds : List D) (y : D) : Option (D × List D) := (D.asI y).bind fun i => if D.oks ds && decide (-(2 ^ 63) ≤ i ∧ i < 2 ^ 63) then (seqIndex? i ds.length).bind fun k => (ds[k]?).map fun d => (d, ds.eraseIdx k) else none
theorem s_popAt {K : PySem.W.Frag} : Mt1S K cl rPopAt gPopAt := by
  intro ds y q p v H κ τ Q h r k
  unfold gPopAt at h
  obtain ⟨i, e, h⟩ := Option.bind_eq_some_iff.mp h
  split at h
  · rename_i o
    simp only [Bool.and_eq_true, decide_eq_true_eq] at o
    obtain ⟨o, b1, b2⟩ := o
    obtain ⟨j, ej, h⟩ := Option.bind_eq_some_iff.mp h
    obtain ⟨d, ed, rfl⟩ := Option.map_eq_some_iff.mp h
    obtain ⟨M, f, hv⟩ := r.head
    have ev := dat_asI hv e
    subst ev
    have r := r.pop
    obtain ⟨us, M, t, hd⟩ := own_dats r o
    obtain ⟨v, e2, _⟩ := dats_get hd ed
    refine ⟨p, us, i, j, v, rfl, rfl, t, b1, b2, by rw [dats_length hd]; exact ej, e2, k _ _ (r.pluck t o ed e2 fun M h => dats_eraseIdx _ h)⟩
  · cases h
/-- xs.extend(ys) -/
def D.lstOf : D → Option (List D)
  | .lst _ xs => some xs
  | _ => none
def gExtend (ds : List D) (y : D) : Option (D × List D) := (D.lstOf y).bind fun ys => if D.oks ds && D.oks ys && lenOk (ds.length + ys.length) then some (.non, ds ++ ys) else none
theorem dat_lstOf {K M H} {d : D} {xs : List D} {v : V} {f : List Addr} (h : Dat K cl M H d v f) (e : D.lstOf d = some xs) (o : D.oks xs = true) : ∃ a vs, v = .ref a ∧ H a = some (.lst vs) ∧ Dats K cl M H xs vs [] := by
  cases d with
  | lst m ds =>
    cases e
    obtain ⟨a, vs, g, e1, t, hd, _⟩ := h
    exact ⟨a, vs, e1, t, oks_nil hd o⟩
  | _ => cases e
theorem s_extend {K : PySem.W.Frag} : Mt1S K cl rExtend gExtend := by
  intro ds y q p v H κ τ Q h r k
  unfold gExtend at h
  obtain ⟨ys, ey, h⟩ := Option.bind_eq_some_iff.mp h
  split at h
  · rename_i o
    cases h
    simp only [Bool.and_eq_true] at o
    obtain ⟨⟨o1, o2⟩, o3⟩ := o
    have o3 := of_decide_eq_true o3
    obtain ⟨F, n, h⟩ := r
    obtain ⟨v1, xs1, f1, g1, e1, e2, h1, h2⟩ := h
    cases e1
    obtain ⟨v2, xs2, f2, g2, e3, e4, h3, h4⟩ := h2
    cases e3
    obtain ⟨a, us, g, e5, t, hd, w⟩ := h3
    cases e5
    have eg := dats_ok hd o1
    subst eg
    obtain ⟨b, zs, e7, tb, hz⟩ := dat_lstOf h1 ey o2
    subst e7
    rcases w with ⟨_, hM, e6⟩ | ⟨z, _⟩
    · subst e6; subst e4; subst e2
      have n1 := List.nodup_append.mp n
      have np : p ∉ g2 := (List.nodup_cons.mp n1.2.1).1
      have tr : ∀ {f : List Addr}, p ∉ f → ∀ a o, H a = some o → (a ∈ f1 ++ ([p] ++ g2) → a ∈ f) → upd H p (.lst (us ++ zs)) a = some o := fun {f} np a o e hf => by
        rw [upd_ne fun z => np (by rw [← z]; exact hf (by rw [z]; exact hM))]
        exact e
      have r2 : Rel K cl (upd H p (.lst (us ++ zs))) (some (.lst true (ds ++ ys)) :: κ) (some (.ref p) :: τ) := by
        refine Rel.of_sub (f := f1 ++ ([p] ++ g2)) (g := [p] ++ g2) ?_ n1.2.1 fun a z => List.mem_append_right _ z
        refine ⟨.ref p, _, [p], g2, rfl, rfl, ⟨p, us ++ zs, [], rfl, upd_same, ?_, .inl ⟨rfl, hM, rfl⟩⟩, ?_⟩
        · exact dats_tr (dats_nil_append hd hz) (fun a z => .inl z) (fun a z => nomatch z) (tr (by simp))
        · exact slots_tr h4 (fun a z => .inl z) (fun a z => by simp [z]) (tr np)
      refine ⟨p, b, us, zs, rfl, rfl, t, tb, by rw [dats_length hd, dats_length hz]; exact o3, k _ _ (r2.push fun M => ⟨rfl, rfl⟩)⟩
    · cases z
  · cases h
end
end Tw
noncomputable section
namespace Tw
open PySem PySem.Spec PyProof.Rows L2
section
variable {X : Cx} {cl : Cl} {W : WX} {a b c e : Expr} {es : List Expr} {pos p : Pos} {x : Str} {fa fb fc : Ev} {io : List Nat} {o : Expr} {i : Nat} {apos : Pos}
theorem j_append (ho : PE X o (tVar i)) (ha : PA X [e] (tOs X.K cl W [.val fa])) (hbase : attributeBase o "append" X.env (eval o X.env) = eval o X.env := by rfl)
    (hfew : ((backTo pos (starEach [e] X.env)).all (fun x => !x.1) && (backToKw pos (keywordEach [] X.env)).all (fun x => x.1.isSome) && decide ([e].length + ([] : List Keyword).length + (if ([] : List Keyword).isEmpty then 0 else 1) < 30)) = true := by rfl)
    (hline : (apos.endLine == pos.line) = true := by rfl) (hs : starEach [e] X.env = (false, eval e X.env) :: starEach [] X.env := by rfl) (hplain : (backTo pos (starEach [] X.env)).any (·.1) = false := by rfl) :
    PE X (.Call (.Attribute o "append" apos) [e] [] pos) (tE X.K cl W (fMt1 i gAppend fa)) :=
  PE.imp (pe_bm PySem.F.plainAttrs_list PySem.F.slot_list_append PySem.F.type_list_append mt_append ho ha hbase hfew hline hs hplain) fun σ H Q h => rd_mt1 s_append h
theorem j_extend (ho : PE X o (tVar i)) (ha : PA X [e] (tOs X.K cl W [.val fa])) (hbase : attributeBase o "extend" X.env (eval o X.env) = eval o X.env := by rfl)
    (hfew : ((backTo pos (starEach [e] X.env)).all (fun x => !x.1) && (backToKw pos (keywordEach [] X.env)).all (fun x => x.1.isSome) && decide ([e].length + ([] : List Keyword).length + (if ([] : List Keyword).isEmpty then 0 else 1) < 30)) = true := by rfl)
    (hline : (apos.endLine == pos.line) = true := by rfl) (hs : starEach [e] X.env = (false, eval e X.env) :: starEach [] X.env := by rfl) (hplain : (backTo pos (starEach [] X.env)).any (·.1) = false := by rfl) :
    PE X (.Call (.Attribute o "extend" apos) [e] [] pos) (tE X.K cl W (fMt1 i gExtend fa)) :=
  PE.imp (pe_bm PySem.F.plainAttrs_list PySem.F.slot_list_extend PySem.F.type_list_extend mt_extend ho ha hbase hfew hline hs hplain) fun σ H Q h => rd_mt1 s_extend h
theorem j_popAt (ho : PE X o (tVar i)) (ha : PA X [e] (tOs X.K cl W [.val fa])) (hbase : attributeBase o "pop" X.env (eval o X.env) = eval o X.env := by rfl)
    (hfew : ((backTo pos (starEach [e] X.env)).all (fun x => !x.1) && (backToKw pos (keywordEach [] X.env)).all (fun x => x.1.isSome) && decide ([e].length + ([] : List Keyword).length + (if ([] : List Keyword).isEmpty then 0 else 1) < 30)) = true := by rfl)
    (hline : (apos.endLine == pos.line) = true := by rfl) (hs : starEach [e] X.env = (false, eval e X.env) :: starEach [] X.env := by rfl) (hplain : (backTo pos (starEach [] X.env)).any (·.1) = false := by rfl) :
    PE X (.Call (.Attribute o "pop" apos) [e] [] pos) (tE X.K cl W (fMt1 i gPopAt fa)) :=
  PE.imp (pe_bm PySem.F.plainAttrs_list PySem.F.slot_list_pop PySem.F.type_list_pop mt_popAt ho ha hbase hfew hline hs hplain) fun σ H Q h => rd_mt1 s_popAt h
/-! ### xs[i] = v -/
def sStore (i : Nat) (fi f : Ev) : Sv := fun env => sBind (f env) fun d env1 => match ownAt env1 i with
  | none => .stuck
  | some _ => sBind (fi env1) fun k env2 => match (D.asI k).bind fun z => (ownAt env2 i).bind fun ds => if D.oks ds && D.ok d then (ixN ds.length z).map fun j => ds.set j d else none with
    | some es => .next (env2.set i (some (.lst true es)))
    | none => .stuck
theorem s_store {tpos : Pos} (hpg : PG X (.Subscript o c tpos) (L2.gSub (tVar i) (tE X.K cl W fc) rSetL)) (he : PE X e (tE X.K cl W fa)) (hs : swapsWithSole [.Subscript o c tpos] e pos.line X.env = pure false := by rfl) (hw : swappedStores [.Subscript o c tpos] e X.env = pure none := by rfl)
    (h1 : (assignEach [.Subscript o c tpos] X.env).map (·.2) = [assign (.Subscript o c tpos) X.env] := by rfl) :
    PS X (.Assign [.Subscript o c tpos] e pos) (tS X.K cl W io (sStore i fc fa)) := PS.imp (ps_asg he hpg hs hw h1) fun Z σ H ⟨τ, κ, env, r, l, q⟩ => by
  refine sbind_at (A := []) (Y := []) rfl r l q fun d env1 v H1 h1 r1 => ?_
  cases e : ownAt env1 i with
  | none => rw [e] at h1; exact h1.elim
  | some ds0 =>
    rw [e] at h1
    simp only at h1
    obtain ⟨u, e1, r1'⟩ := slot_out (A := [some d]) (Y := [some v]) r1 rfl l (ownAt_eq e)
    obtain ⟨p, vs0, eu, t0, _⟩ := own_head r1'
    subst eu
    refine ⟨.ref p, e1, ?_⟩
    refine sbind_at (A := [some d]) (Y := [some v]) rfl r1 l h1 fun k env2 w H2 h2 r2 => ?_
    cases e2 : (D.asI k).bind fun z => (ownAt env2 i).bind fun ds => if D.oks ds && D.ok d then (ixN ds.length z).map fun j => ds.set j d else none with
    | none => rw [e2] at h2; exact h2.elim
    | some es =>
      rw [e2] at h2
      obtain ⟨z, ez, e2⟩ := Option.bind_eq_some_iff.mp e2
      obtain ⟨ds, ed, e2⟩ := Option.bind_eq_some_iff.mp e2
      split at e2
      · rename_i ok
        simp only [Bool.and_eq_true] at ok
        obtain ⟨j, ej, rfl⟩ := Option.map_eq_some_iff.mp e2
        obtain ⟨M, f, hk⟩ := r2.head
        have ew := dat_asI hk ez
        subst ew
        have r3 := r2.pop
        obtain ⟨u', e1', r4⟩ := slot_out (A := [some d]) (Y := [some v]) r3 rfl l (ownAt_eq ed)
        rw [e1] at e1'
        cases e1'
        have r5 : Rel X.K cl H2 (List.map some [d, .lst true ds] ++ (κ ++ env2.set i none)) (List.map some [v, .ref p] ++ (τ ++ σ)) := Rel.swap3 (A := [some (.lst true ds)]) (X := [some (.ref p)]) (B := [some d]) (Y := [some v]) r4 rfl rfl
        obtain ⟨f, g, n, hh, hr⟩ := r5.split rfl
        obtain ⟨f1, f2, ef, hd, hl⟩ := dats2 hh
        obtain ⟨a', us, g', e6, t, hds, w⟩ := hl
        cases e6
        have z1 := dat_ok hd ok.2
        subst z1
        have z2 := dats_ok hds ok.1
        subst z2
        rcases w with ⟨_, hM, e7⟩ | ⟨z, _⟩
        · subst e7
          have e8 : f = [p] := ef
          subst e8
          refine ⟨p, us, z, j, rfl, rfl, t, by rw [dats_length hds]; exact ej, ?_⟩
          have np : p ∉ g := (List.nodup_cons.mp n).1
          have tr : ∀ {f : List Addr}, p ∉ f → ∀ a o, H2 a = some o → (a ∈ [p] ++ g → a ∈ f) → upd H2 p (.lst (us.set j v)) a = some o := fun {f} np a o e hf => by
            rw [upd_ne fun z => np (by rw [← z]; exact hf (by rw [z]; exact hM))]
            exact e
          have r6 : Rel X.K cl (upd H2 p (.lst (us.set j v))) (some (.lst true (ds.set j d)) :: (κ ++ env2.set i none)) (some (.ref p) :: (τ ++ σ)) := by
            refine ⟨[p] ++ g, n, .ref p, _, [p], g, rfl, rfl, ⟨p, us.set j v, [], rfl, upd_same, ?_, .inl ⟨rfl, hM, rfl⟩⟩, ?_⟩
            · exact dats_tr (dats_set hd j hds) (fun a z => .inl z) (fun a z => nomatch z) (tr (by simp))
            · exact slots_tr hr (fun a z => .inl z) (fun a z => List.mem_append_right _ z) (tr np)
          have r7 := slot_in (A := []) (Y := []) r6 rfl l e1
          rw [List.set_set] at r7
          exact h2 σ _ .refl r7
        · cases z
      · cases e2
/-- x op= e -/
def sAug (i : Nat) (g : List D → Option D) (f : Ev) : Sv := fun env => sBind (fVar i env) fun u env1 => sBind (f env1) fun y env2 => match g [u, y] with
  | some z => if i < env2.length then .next (env2.set i (some z)) else .stuck
  | none => .stuck
end
/-! ## a def -/
def ioOf (io : List Nat) (env : Tw.Env) : Option (List D) := io.mapM fun i => env[i]?.join
def runB (n : Nat) (io : List Nat) (g : Sv) : List D → Rf := fun ds => match g (ds.map some ++ List.replicate (n - ds.length) none) with
  | .next env => match ioOf io env with
    | some ios => .ret .non ios
    | none => .stuck
  | .ret d env => match ioOf io env with
    | some ios => .ret d ios
    | none => .stuck
  | .exc c ns es env => match ioOf io env with
    | some ios => .exc c ns es ios
    | none => .stuck
  | _ => .stuck
section
variable {P : Program} {w : World} {K : PySem.W.Frag} {mg : Str → Option Value} {base : Heap} {cl : Cl}
/-- the slots that the caller gets back, in front of what is the caller's own -/
theorem Rel.outs {H : Hp} : ∀ {io : List Nat} {ios : List D} {env A κ : Tw.Env} {σ Y τ : S}, ioOf io env = some ios → io.Nodup → σ.length = env.length → Y.length = A.length → Rel K cl H (A ++ (κ ++ env)) (Y ++ (τ ++ σ)) → τ.length = κ.length →
    ∃ us : List V, io.map (fun i => σ[i]?) = us.map (fun u => some (some u)) ∧ us.length = ios.length ∧ Rel K cl H (A ++ (ios.map some ++ κ)) (Y ++ (us.map some ++ τ))
  | [], ios, env, A, κ, σ, Y, τ, e, _, ls, ly, r, l => by
    simp [ioOf] at e
    subst e
    refine ⟨[], rfl, rfl, ?_⟩
    have r2 : Rel K cl H ((A ++ κ) ++ env) ((Y ++ τ) ++ σ) := by rwa [List.append_assoc, List.append_assoc]
    exact Rel.drop (r2.swap (by simp [ly, l])) ls
  | i :: io, ios, env, A, κ, σ, Y, τ, e, nd, ls, ly, r, l => by
    simp only [ioOf, List.mapM_cons, Option.bind_eq_bind, Option.bind_eq_some_iff, Option.pure_def, Option.some.injEq] at e
    obtain ⟨d, ed, ios', e, rfl⟩ := e
    have ed2 : env[i]? = some (some d) := by
      cases q : env[i]? with
      | none => rw [q] at ed; cases ed
      | some y => rw [q] at ed; cases y with
        | none => cases ed
        | some d' => cases ed; rfl
    obtain ⟨v, ev, r2⟩ := slot_out r ly l ed2
    have nd2 := List.nodup_cons.mp nd
    have e' : ioOf io (env.set i none) = some ios' := by
      have key : ∀ l : List Nat, i ∉ l → ioOf l (env.set i none) = ioOf l env := fun l => by
        induction l with
        | nil => intro _; rfl
        | cons j l ih =>
          intro hj
          simp only [List.mem_cons, not_or] at hj
          unfold ioOf at ih ⊢
          rw [List.mapM_cons, List.mapM_cons, ih hj.2, List.getElem?_set_ne hj.1]
      rw [key io nd2.1]
      exact e
    have r3 : Rel K cl H ((A ++ [some d]) ++ (κ ++ env.set i none)) ((Y ++ [some v]) ++ (τ ++ σ)) := by
      have z := Rel.swap3 (A := [some d]) (X := [some v]) (B := A) (Y := Y) r2 rfl ly
      rwa [List.append_assoc, List.append_assoc]
    obtain ⟨us, eu, lu, r4⟩ := Rel.outs (io := io) (ios := ios') e' nd2.2 (by simp [ls]) (by simp [ly]) r3 l
    refine ⟨v :: us, by simp [ev, eu], by simp [lu], ?_⟩
    rw [List.append_assoc, List.append_assoc] at r4
    exact r4
theorem start_rel {N : List Str} {H : Hp} {ds : List D} {vs : List V} {κ : Tw.Env} {τ : S} (r : Rel K cl H (ds.map some ++ κ) (vs.map some ++ τ)) (l : vs.length = ds.length) : Rel K cl H (κ ++ (ds.map some ++ List.replicate (N.length - ds.length) none)) (τ ++ L2.start N vs) := by
  have key : ∀ (n : Nat) {A : Tw.Env} {Y : S}, Rel K cl H A Y → Rel K cl H (A ++ List.replicate n none) (Y ++ List.replicate n none) := fun n A Y h => by
    obtain ⟨f, nd, h⟩ := h
    have hn : ∀ n, Slots K cl (· ∈ f) H (List.replicate n (none : Option D)) (List.replicate n (none : Option V)) [] := fun n => by
      induction n with
      | zero => exact ⟨⟨rfl, rfl⟩, slots_tb h⟩
      | succ n ih => exact ⟨none, _, rfl, ih⟩
    have z := slots_app h (hn n)
    rw [List.append_nil] at z
    exact ⟨f, nd, z⟩
  unfold L2.start
  rw [l]
  have r2 := r.swap (by simp [l])
  have r3 := key (N.length - ds.length) r2
  rwa [List.append_assoc, List.append_assoc] at r3
theorem def_okG {x qual : Str} {st : Stmt} {f : Addr} {fd : FuncData} {N ps : List Str} {k : Nat} {io : List Nat} {g : Sv} (F : Fun K x qual st f fd) (Sc : FnScope N ps (defScope st)) (hnd : io.Nodup) (hio : ∀ i ∈ io, i < ps.length) (hps : ps.length ≤ N.length)
    (hbody : ∀ (cdv : Value), fd.code = cdv → ∀ (A : Around) (outer : List PySem.Env) (s : Shared) (H : Hp) (E : XK), Room k (A.deeper (envOfC qual (defScope st) s.heap.objs.size f cdv)) →
      Takes (cxOf (L2.CX P w) P w K mg base N qual (defScope st) f cdv A outer s H E) (fun cls dd _ H' => E cls dd H') → PassesOwn (model P w) (A.deeper (envOfC qual (defScope st) s.heap.objs.size f cdv)) (envOfC qual (defScope st) s.heap.objs.size f cdv) (cxOf (L2.CX P w) P w K mg base N qual (defScope st) f cdv A outer s H E).xe →
      PSs (cxOf (L2.CX P w) P w K mg base N qual (defScope st) f cdv A outer s H E) (defBody st) (tS K cl (fun cls dd _ H' => E cls dd H') io g)) :
    FnOk P w K mg base (L2.CX P w) (k + 1) f fd ps (spD K cl ps.length io (runB N.length io g)) := by
  obtain ⟨oc, od, kV, doc, pm, an, cdv, ct, osl, rfl, lk, hcd⟩ := F.ex
  refine fn_of lk hcd Sc (fun vs H Q E h => h.1) fun A outer s H vs Q E hr h => ⟨_, hbody cdv rfl A outer s H E hr (takes_of rfl rfl rfl rfl) (passes_of rfl), ?_⟩
  obtain ⟨ln, τ, κ, ds, l, lt, r, q⟩ := h
  refine ⟨τ, κ, ds.map some ++ List.replicate (N.length - ds.length) none, start_rel r l, lt, ?_⟩
  have lst : (L2.start N vs).length = (ds.map some ++ List.replicate (N.length - ds.length) none : Tw.Env).length := by unfold L2.start; simp [l]
  have hstart : ∀ {σ' : S} {us : List V}, Agr io (L2.start N vs) σ' → io.map (fun i => σ'[i]?) = us.map (fun u => some (some u)) → io.map (fun i => vs[i]?) = us.map some := fun {σ' us} ag e => by
    have key : ∀ (l : List Nat) (us : List V), (∀ i ∈ l, i ∈ io) → l.map (fun i => σ'[i]?) = us.map (fun u => some (some u)) → l.map (fun i => vs[i]?) = us.map some := fun l => by
      induction l with
      | nil => intro us _ e; cases us with
        | nil => rfl
        | cons _ _ => simp at e
      | cons i l ih =>
        intro us hi e
        cases us with
        | nil => simp at e
        | cons u us =>
          simp only [List.map_cons, List.cons.injEq] at e ⊢
          refine ⟨?_, ih us (fun j hj => hi j (List.mem_cons_of_mem _ hj)) e.2⟩
          have e1 := (ag.2 i (hi i List.mem_cons_self)).symm.trans e.1
          have il : i < vs.length := by have := hio i (hi i List.mem_cons_self); omega
          unfold L2.start at e1
          rw [List.getElem?_append_left (by simpa using il), List.getElem?_map] at e1
          cases q : vs[i]? with
          | none => rw [q] at e1; cases e1
          | some y => rw [q] at e1; cases e1; rfl
    exact key io us (fun _ z => z) e
  unfold runB at q
  have lenOf : ∀ {H' : Hp} {κ' env' : Tw.Env} {τ' σ' : S}, Rel K cl H' (κ' ++ env') (τ' ++ σ') → τ'.length = κ'.length → σ'.length = env'.length := fun {H' κ' env' τ' σ'} z lt => by
    have y := z.len
    simp only [List.length_append] at y
    omega
  cases e : g (ds.map some ++ List.replicate (N.length - ds.length) none) with
  | next env =>
    rw [e] at q
    intro σ' H' ag r2
    cases e2 : ioOf io env with
    | none => simp only [e2] at q
    | some ios =>
      simp only [e2] at q
      obtain ⟨us, eu, lu, r3⟩ := Rel.outs (A := [some D.non]) (Y := [some V.non]) e2 hnd (lenOf r2 lt) rfl (r2.push fun M => ⟨rfl, rfl⟩) lt
      exact q .non H' us (hstart ag eu) r3
  | ret d env =>
    rw [e] at q
    intro v σ' H' ag r2
    cases e2 : ioOf io env with
    | none => simp only [e2] at q
    | some ios =>
      simp only [e2] at q
      obtain ⟨us, eu, lu, r3⟩ := Rel.outs (A := [some d]) (Y := [some v]) e2 hnd (lenOf r2.pop lt) rfl r2 lt
      exact q v H' us (hstart ag eu) r3
  | exc c ns es env =>
    rw [e] at q
    intro cls dd σ' H' ws ag ex r2 lw
    cases e2 : ioOf io env with
    | none => simp only [e2] at q
    | some ios =>
      simp only [e2] at q
      obtain ⟨us, eu, lu, r3⟩ := Rel.outs (A := es.map some) (Y := ws.map some) e2 hnd (lenOf (Rel.drop r2 (by simp [lw])) lt) (by simp [lw]) r2 lt
      exact q cls dd H' ws us ex lw.symm (hstart ag eu) r3
  | brk env => rw [e] at q; exact q.elim
  | cont env => rw [e] at q; exact q.elim
  | stuck => rw [e] at q; exact q.elim
theorem def_okF {x qual : Str} {st : Stmt} {f : Addr} {fd : FuncData} {N ps : List Str} {k : Nat} {io : List Nat} {g : Sv} (F : Fun K x qual st f fd) (Sc : FnScope N ps (defScope st)) (hnd : io.Nodup) (hio : ∀ i ∈ io, i < ps.length) (hps : ps.length ≤ N.length)
    (hbody : ∀ (cdv : Value) (A : Around) (outer : List PySem.Env) (s : Shared) (H : Hp) (E : XK), Room k (A.deeper (envOfC qual (defScope st) s.heap.objs.size f cdv)) →
      Takes (cxOf (L2.CX P w) P w K mg base N qual (defScope st) f cdv A outer s H E) (fun cls dd _ H' => E cls dd H') → PassesOwn (model P w) (A.deeper (envOfC qual (defScope st) s.heap.objs.size f cdv)) (envOfC qual (defScope st) s.heap.objs.size f cdv) (cxOf (L2.CX P w) P w K mg base N qual (defScope st) f cdv A outer s H E).xe →
      PSs (cxOf (L2.CX P w) P w K mg base N qual (defScope st) f cdv A outer s H E) (defBody st) (tS K cl (fun cls dd _ H' => E cls dd H') io g)) :
    FnOk P w K mg base (L2.CX P w) (k + 1) f fd ps (spD K cl ps.length io (runB N.length io g)) := by
  exact def_okG F Sc hnd hio hps fun cdv _ => hbody cdv
theorem def_ok {x qual : Str} {st : Stmt} {f : Addr} {fd : FuncData} {N ps : List Str} {k : Nat} {io : List Nat} {g : Sv} (F : Fun K x qual st f fd) (Sc : FnScope N ps (defScope st)) (gm : mg x = some (.ref f)) (hb : Binds K fd ps []) (hnd : io.Nodup) (hio : ∀ i ∈ io, i < ps.length) (hps : ps.length ≤ N.length)
    (hbody : ∀ (cdv : Value) (A : Around) (outer : List PySem.Env) (s : Shared) (H : Hp) (E : XK), Room k (A.deeper (envOfC qual (defScope st) s.heap.objs.size f cdv)) →
      Takes (cxOf (L2.CX P w) P w K mg base N qual (defScope st) f cdv A outer s H E) (fun cls dd _ H' => E cls dd H') → PassesOwn (model P w) (A.deeper (envOfC qual (defScope st) s.heap.objs.size f cdv)) (envOfC qual (defScope st) s.heap.objs.size f cdv) (cxOf (L2.CX P w) P w K mg base N qual (defScope st) f cdv A outer s H E).xe →
      PSs (cxOf (L2.CX P w) P w K mg base N qual (defScope st) f cdv A outer s H E) (defBody st) (tS K cl (fun cls dd _ H' => E cls dd H') io g)) :
    FnD P w K mg base cl x (k + 1) ps.length io (runB N.length io g) := ⟨f, fd, ps, gm, F.kp, hb, def_okF F Sc hnd hio hps hbody⟩
end
end Tw
noncomputable section
namespace Tw
open PySem PySem.Spec PyProof.Rows L2
/-! ### comprehensions with two clauses -/
def comp2Go (vs vs1 : List Nat) (b : Bd) (t : EvB) (fi1 : Tw.Env → Rs (List D)) (b1 : Bd) (t1 : EvB) (f : Ev) : List D → List D → Tw.Env → Rs (List D)
  | [], acc, env => .ok acc env
  | d :: ds, acc, env => match b d env with
    | none => .stuck
    | some env1 => (t env1).ne.bind fun k env2 => if k = true then (fi1 env2).ne.bind fun items1 env3 => if lenOk (acc.length + items1.length) then
        (compGo vs1 b1 t1 f items1 acc (wipeE env3 vs1)).bind fun acc2 env4 => comp2Go vs vs1 b t fi1 b1 t1 f ds acc2 (wipeE env4 vs) else .stuck
      else comp2Go vs vs1 b t fi1 b1 t1 f ds acc (wipeE env2 vs)
def fComp2 (vs vs1 : List Nat) (fi : Tw.Env → Rs (List D)) (b : Bd) (t : EvB) (fi1 : Tw.Env → Rs (List D)) (b1 : Bd) (t1 : EvB) (f : Ev) : Ev := fun env => (fi env).bind fun items env1 => (comp2Go vs vs1 b t fi1 b1 t1 f items [] (wipeE env1 vs)).bind fun ds env2 => .ok (.lst true ds) env2
section
variable {X : Cx} {cl : Cl} {W : WX} {pos : Pos}
variable {io : List Nat}
end
end Tw
noncomputable section
namespace Tw
open PySem PySem.Spec PyProof.Rows L2
/-! ### objects -/
def putN (f : Str) (ns : List Str) : List Str := if f ∈ ns then ns else ns ++ [f]
def putD (f : Str) (d : D) : List Str → List D → List D
  | n :: ns, e :: ds => if n = f then d :: ds else e :: putD f d ns ds
  | _, _ => [d]
/-- the thing at the field that is stored anew -/
def oldOk (f : Str) : List Str → List D → Bool
  | n :: ns, e :: ds => if n = f then D.ok e else oldOk f ns ds
  | _, _ => true
def D.ownO : D → Option (Nat × List Str × List D)
  | .obj true c ns ds => some (c, ns, ds)
  | _ => none
theorem ownO_eq {d : D} {c : Nat} {ns : List Str} {ds : List D} (h : D.ownO d = some (c, ns, ds)) : d = .obj true c ns ds := by
  cases d with
  | obj m c' ns' ds' => cases m <;> simp [D.ownO] at h; obtain ⟨rfl, rfl, rfl⟩ := h; rfl
  | _ => simp [D.ownO] at h
def ownOAt (env : Tw.Env) (i : Nat) : Option (Nat × List Str × List D) := (env[i]?.join).bind D.ownO
def sFSet (i : Nat) (own : Nat → Bool) (f : Str) (fe : Ev) : Sv := fun env => sBind (fe env) fun d env1 => match ownOAt env1 i with
  | some q => if own q.1 && decide (q.2.1.length = q.2.2.length) && decide (q.2.1.length < 1000) && oldOk f q.2.1 q.2.2 then .next (env1.set i (some (.obj true q.1 (putN f q.2.1) (putD f d q.2.1 q.2.2)))) else .stuck
  | none => .stuck
section
variable {X : Cx} {cl : Cl} {W : WX} {a b c e : Expr} {es : List Expr} {pos p : Pos} {x : Str} {fa fb fc : Ev} {io : List Nat} {o : Expr} {i : Nat} {K : PySem.W.Frag} {M : Addr → Prop} {H : Hp}
theorem ownOAt_eq {env : Tw.Env} {i : Nat} {q : Nat × List Str × List D} (h : ownOAt env i = some q) : env[i]? = some (some (.obj true q.1 q.2.1 q.2.2)) := by
  unfold ownOAt at h
  obtain ⟨d, e, h⟩ := Option.bind_eq_some_iff.mp h
  obtain ⟨c, ns, ds⟩ := q
  rw [ownO_eq h] at e
  cases e2 : env[i]? with
  | none => rw [e2] at e; cases e
  | some o => rw [e2] at e; cases o with
    | none => cases e
    | some d' => cases e; rfl
theorem put_zip (f : Str) (d : D) (v : V) {k : List Addr} : ∀ {ns : List Str} {ds : List D} {vs : List V} {g : List Addr}, Dats K cl M H ds vs g → ns.length = ds.length → Dat K cl M H d v k → oldOk f ns ds = true →
    ∃ ws g2, putF f v (ns.zip vs) = (putN f ns).zip ws ∧ (putN f ns).length = ws.length ∧ g2.Perm (k ++ g) ∧ Dats K cl M H (putD f d ns ds) ws g2
  | [], [], vs, g, h, _, hd, _ => by
    obtain ⟨rfl, rfl⟩ := h
    exact ⟨[v], k, rfl, rfl, by rw [List.append_nil], v, [], k, [], rfl, (List.append_nil k).symm, hd, rfl, rfl⟩
  | n :: ns, e :: ds, vs, g, h, l, hd, ok => by
    obtain ⟨u, us, f1, f2, rfl, rfl, h1, h2⟩ := h
    by_cases c : n = f
    · subst c
      simp only [oldOk, if_pos] at ok
      have z := dat_ok h1 ok
      subst z
      refine ⟨v :: us, k ++ f2, ?_, ?_, .refl _, ?_⟩
      · show (if n = n then (n, v) :: ns.zip us else _) = _
        rw [if_pos rfl, putN, if_pos List.mem_cons_self]
        rfl
      · rw [putN, if_pos List.mem_cons_self]
        have := dats_length h2
        simp only [List.length_cons] at l ⊢
        omega
      · show Dats K cl M H (if n = n then d :: ds else _) _ _
        rw [if_pos rfl]
        exact ⟨v, us, k, f2, rfl, rfl, hd, h2⟩
    · simp only [oldOk, if_neg c] at ok
      obtain ⟨ws, g2, e1, e2, ep, e3⟩ := put_zip f d v h2 (by simpa using l) hd ok
      have en : putN f (n :: ns) = n :: putN f ns := by
        unfold putN
        by_cases m : f ∈ ns
        · rw [if_pos m, if_pos (List.mem_cons_of_mem _ m)]
        · rw [if_neg m, if_neg (by simp [m, Ne.symm c])]
          rfl
      refine ⟨u :: ws, f1 ++ g2, ?_, by rw [en]; simp [e2], ?_, ?_⟩
      · show (if n = f then _ else (n, u) :: putF f v (ns.zip us)) = _
        rw [if_neg c, e1, en]
        rfl
      · refine (List.Perm.append_left f1 ep).trans ?_
        rw [← List.append_assoc, ← List.append_assoc]
        exact List.Perm.append_right _ List.perm_append_comm
      · show Dats K cl M H (if n = f then _ else e :: putD f d ns ds) _ _
        rw [if_neg c]
        exact ⟨u, ws, f1, g2, rfl, rfl, h1, e3⟩
  | [], _ :: _, _, _, _, l, _, _ => by simp at l
  | _ :: _, [], _, _, _, l, _, _ => by simp at l
theorem s_fset {own : Nat → Bool} {f : Str} {pf : Pos} (ho : FldOk X.K cl own f) (hs : PE X o (tVar i)) (he : PE X e (tE X.K cl W fa)) (hsw : swapsWith e (some (.Attribute o f pf)) pos.line X.env = pure false := by rfl) : PS X (.Assign [.Attribute o f pf] e pos) (tS X.K cl W io (sFSet i own f fa)) :=
  PS.imp (ps_fld hs he hsw) fun Z σ H ⟨τ, κ, env, r, l, q⟩ => by
  refine sbind_at (A := []) (Y := []) rfl r l q fun d env1 v H1 h1 r1 => ?_
  cases e1 : ownOAt env1 i with
  | none => rw [e1] at h1; exact h1.elim
  | some z =>
    obtain ⟨c, ns, ds⟩ := z
    rw [e1] at h1
    simp only at h1
    split at h1
    · rename_i ok
      simp only [Bool.and_eq_true, decide_eq_true_eq] at ok
      obtain ⟨⟨⟨ow, ln⟩, l1⟩, okf⟩ := ok
      obtain ⟨u, e2, r2⟩ := slot_out (A := [some d]) (Y := [some v]) r1 rfl l (ownOAt_eq e1)
      have r3 : Rel X.K cl H1 (List.map some [d, .obj true c ns ds] ++ (κ ++ env1.set i none)) (List.map some [v, u] ++ (τ ++ σ)) := Rel.swap3 (A := [some (.obj true c ns ds)]) (X := [some u]) (B := [some d]) (Y := [some v]) r2 rfl rfl
      obtain ⟨fp, g, n, hh, hr⟩ := r3.split rfl
      obtain ⟨f1, f2, ef, hd, hl⟩ := dats2 hh
      obtain ⟨ad, dx, vs, g', eu, t, lv, hds, w⟩ := hl
      subst eu
      rcases w with ⟨_, hM, e7⟩ | ⟨z, _⟩
      · subst e7
        subst ef
        obtain ⟨ws, g2, q1, q2, qp, q3⟩ := put_zip f d v hds ln hd okf
        refine ⟨.ref ad, e2, ad, cl c, dx, _, rfl, t, (ho.ok c ow).1.c, (ho.ok c ow).2, ?_, ?_⟩
        · rw [List.length_zip]; omega
        · rw [q1]
          have pm : (f1 ++ ad :: g').Perm (ad :: g2) := List.perm_middle.trans (qp.symm.cons ad)
          have n1 : (ad :: g2 ++ g).Nodup := ((pm.append_right g).nodup_iff).mp n
          have n2 := List.nodup_append.mp n1
          have np : ad ∉ g := fun z => n2.2.2 ad List.mem_cons_self ad z rfl
          have np2 : ad ∉ g2 := (List.nodup_cons.mp n2.1).1
          have mm : ∀ a, a ∈ f1 ++ ad :: g' ++ g ↔ a ∈ ad :: g2 ++ g := fun a => (pm.append_right g).mem_iff
          have tr : ∀ {f0 : List Addr} {ob : HO}, ad ∉ f0 → ∀ a o, H1 a = some o → (a ∈ f1 ++ ad :: g' ++ g → a ∈ f0) → upd H1 ad ob a = some o := fun {f0 ob} np a o e hf => by
            rw [upd_ne fun z => np (by rw [← z]; exact hf (by rw [z]; exact hM))]
            exact e
          have r6 : Rel X.K cl (upd H1 ad (.ins (cl c) dx ((putN f ns).zip ws))) (some (.obj true c (putN f ns) (putD f d ns ds)) :: (κ ++ env1.set i none)) (some (.ref ad) :: (τ ++ σ)) := by
            refine ⟨ad :: g2 ++ g, n1, .ref ad, _, ad :: g2, g, rfl, rfl, ⟨ad, dx, ws, g2, rfl, upd_same, q2, ?_, .inl ⟨rfl, (mm ad).mp hM, rfl⟩⟩, ?_⟩
            · exact dats_tr q3 (fun a z => .inl ((mm a).mpr z)) (fun a z => List.mem_append_left _ (List.mem_cons_of_mem _ z)) (tr np2)
            · exact slots_tr hr (fun a z => .inl ((mm a).mpr z)) (fun a z => List.mem_append_right _ z) (tr np)
          have r7 := slot_in (A := []) (Y := []) r6 rfl l e2
          rw [List.set_set] at r7
          exact h1 σ _ .refl r7
      · cases z
    · exact h1.elim
/-- C(..): a new instance, then its __init__ -/
def fMake (n : Nat) (h : List D → Rf) (fs : List Ev) : Ev := fun env => (evs (vals fs) env).bind fun ds env1 => match h (.obj true n [] [] :: ds) with
  | .ret .non [z] => .ok z env1
  | .exc c ns es _ => .exc c ns es env1
  | _ => .stuck
/-- the new instance stands in front -/
theorem Rel.newO {as : List D} {vs : List V} {κ : Tw.Env} {τ : S} {q dx : Addr} {n : Nat} (r : Rel K cl H (as.map some ++ κ) (vs.map some ++ τ)) (hq : H q = none) (hd : H dx = none) (ne : dx ≠ q) :
    Rel K cl (upd (upd H dx (.own q)) q (.ins (cl n) dx [])) (List.map some (.obj true n [] [] :: as) ++ κ) (List.map some (.ref q :: vs) ++ τ) := by
  have hq1 : upd H dx (.own q) q = none := by rw [upd_ne (Ne.symm ne)]; exact hq
  have r1 := (r.same (same_upd (o := .own q) hd)).same (same_upd (o := .ins (cl n) dx []) hq1)
  obtain ⟨f, nd, h⟩ := r
  have np : q ∉ f := fun z => by
    obtain ⟨_, o, e⟩ := slots_in h q z
    rw [hq] at e; cases e
  refine ⟨q :: f, List.nodup_cons.mpr ⟨np, nd⟩, .ref q, _, [q], f, rfl, rfl, ⟨q, dx, [], [], rfl, upd_same, rfl, ⟨rfl, rfl⟩, .inl ⟨rfl, List.mem_cons_self, rfl⟩⟩, ?_⟩
  refine slots_tr h (fun a z => (List.mem_cons.mp z).elim (fun e => .inr (by rw [e]; exact hq)) .inl) (fun a z => List.mem_cons_of_mem _ z) fun a o e _ => ?_
  exact same_upd hq1 a o (same_upd hd a o e)
theorem j_make {n k m ar : Nat} {h : List D → Rf} {fs : List Ev} {name : Str} (hm : X.mg name = some (.ref (cl n)) ∧ ∃ f, Mk X.K (cl n) f ∧ ∃ fd ps, Binds X.K fd ps [] ∧ FnOk X.prog X.w X.K X.mg X.base (L2.CX X.prog X.w) k f fd ps (spD X.K cl ar [0] h)) (tk : Takes X W) (hr : Room m X.A) (hkm : k + 1 ≤ m) (hn : fs.length + 1 = ar)
    (hW : ∀ cls dd σ σ' H, W cls dd σ H → W cls dd σ' H) (ha : PA X (e :: es) (tOs X.K cl W (vals fs))) (hg : Gl X name := by rfl) (hdb : (name == ("__debug__" : Str)) = false := by decide) (he : starEach (e :: es) X.env = (false, eval e X.env) :: starEach es X.env := by rfl) (hpl : (backTo pos (starEach es X.env)).any (·.1) = false := by rfl) :
    PE X (.Call (.Name name p) (e :: es) [] pos) (tE X.K cl W (fMake n h fs)) := by
  obtain ⟨hm, f, M, fd, ps, hb, F⟩ := hm
  refine PE.imp (pe_make (dvs := []) (E := fun cls dd H' => ∀ σ, W cls dd σ H') M F (hr.mono hkm) hg hm hb .nil (passes_call tk fun cls dd σ H z => z σ) ha hdb he hpl) fun σ H Q ⟨τ, κ, env, r, l, q⟩ => ?_
  refine tA_os (os := vals fs) ⟨τ, κ, env, r, l, ?_⟩
  unfold fMake at q
  cases e1 : evs (vals fs) env with
  | exc _ _ _ _ => rw [e1] at q; exact q
  | stuck => rw [e1] at q; exact q
  | ok ds env1 =>
    rw [e1, Rs.bind_ok] at q
    intro us vs H' l2 r2 fu
    obtain ⟨rfl, l3⟩ := full_vals fu
    intro xa dx hx hd ne
    rw [List.append_nil]
    have ls : (τ ++ σ).length = (κ ++ env1).length := by
      have z := r2.len
      simp only [List.length_append, List.length_map] at z ⊢
      omega
    refine ⟨by simp [l3, hn], τ ++ σ, κ ++ env1, .obj true n [] [] :: ds, by simp [l2], ls, Rel.newO r2 hx hd ne, ?_⟩
    cases e2 : h (.obj true n [] [] :: ds) with
    | ret d ios =>
      rw [e2] at q
      cases d with
      | non =>
        match ios, q with
        | [z], q =>
          intro v H2 ws ew r3
          cases ws with
          | nil => simp at ew
          | cons w ws =>
            simp only [List.map_cons, List.map_nil, List.cons.injEq] at ew
            obtain ⟨ew, ew2⟩ := ew
            cases ew
            cases ws with
            | cons _ _ => simp at ew2
            | nil =>
              obtain ⟨M, f, hv⟩ := Rel.head r3
              exact ⟨hv.1, q _ H2 (Rel.pop r3)⟩
        | [], q => exact q.elim
        | _ :: _ :: _, q => exact q.elim
      | _ => exact q.elim
    | exc c ns es ios =>
      rw [e2] at q
      intro cls dd H2 xs ws ex lx ew r3 σ'
      refine hW cls dd σ σ' H2 (q cls dd H2 xs ex ?_ lx.symm)
      have r4 := Rel.swap3 (A := es.map some) (X := xs.map some) (B := ios.map some) (Y := ws.map some) r3 (by simp [lx]) (by
        have z := r3.len
        simp only [List.length_append, List.length_map] at z ls ⊢
        omega)
      exact Rel.drop r4 (by
        have z := r3.len
        simp only [List.length_append, List.length_map] at z ls ⊢
        omega)
    | stuck => rw [e2] at q; exact q.elim
/-! ### how many unlike numbers -/
def nub : List Int → List Int
  | [] => []
  | n :: ns => if n ∈ ns then nub ns else n :: nub ns
def fLenSet (f : Ev) : Ev := fun env => (f env).bind fun d env1 => match D.seqK d with
  | some (true, xs) => (match D.ints xs with
    | some is => if is.length ≤ 4000 then .ok (.int (nub is).length) env1 else .stuck
    | none => .stuck)
  | _ => .stuck
end
end Tw
noncomputable section
namespace Tw
open PySem PySem.Spec PyProof.Rows L2
section
variable {prog : Program} {w : World} {A : Around} {E : Value → Shared → Prop} {s : Shared}
end
section
variable {X : Cx} {cl : Cl} {W : WX} {a b c e : Expr} {es : List Expr} {pos p : Pos} {x : Str} {fa fb fc : Ev} {io : List Nat} {K : PySem.W.Frag} {M : Addr → Prop} {H : Hp}
def tRevT (K : PySem.W.Frag) (ta : TE) : TE := fun σ H Q => ta σ H fun x H1 => ∃ a xs, x = .ref a ∧ SqT K H1 a xs ∧ ∀ p its, H1 p = none → Q (.ref p) (upd H1 p (tupH its xs.reverse))
def gRev : D → Option D
  | .lst _ xs => if D.oks xs then some (.lst true xs.reverse) else none
  | .tup xs => if D.oks xs then some (.tup xs.reverse) else none
  | _ => none
def fRev (f : Ev) : Ev := fun env => (f env).bind fun d env1 => match gRev d with
  | some z => .ok z env1
  | none => .stuck
theorem PE.or {e : Expr} {t t' : TE} (h : PE X e t) (h' : PE X e t') : PE X e (fun σ H Q => t σ H Q ∨ t' σ H Q) := ⟨fun pins s σ H Q I z => z.elim (fun z => h.run pins s σ H Q I z) fun z => h'.run pins s σ H Q I z⟩
/-! ### in, of flat things -/
def D.flat : D → Option V
  | .non => some .non | .bl b => some (.bl b) | .int i => some (.int i) | .str x => some (.str x)
  | _ => none
def D.flats : List D → Option (List V)
  | [] => some []
  | d :: ds => (D.flat d).bind fun v => (D.flats ds).map (v :: ·)
theorem dat_flat {d : D} {u v : V} {f : List Addr} (h : Dat K cl M H d v f) (e : D.flat d = some u) : v = u ∧ flatV u = true := by
  cases d with
  | non => cases e; exact ⟨h.1, rfl⟩
  | bl b => cases e; exact ⟨h.1, rfl⟩
  | int b => cases e; exact ⟨h.1, rfl⟩
  | str b => cases e; exact ⟨h.1, rfl⟩
  | _ => cases e
theorem dats_flat : ∀ {ds : List D} {us vs : List V} {f : List Addr}, Dats K cl M H ds vs f → D.flats ds = some us → vs = us ∧ us.all flatV = true
  | [], _, _, _, h, e => by cases e; exact ⟨h.1, rfl⟩
  | d :: ds, _, _, _, h, e => by
    obtain ⟨v, vs', f1, f2, rfl, _, h1, h2⟩ := h
    simp only [D.flats, Option.bind_eq_some_iff, Option.map_eq_some_iff] at e
    obtain ⟨b, e1, bs, e, rfl⟩ := e
    obtain ⟨rfl, a1⟩ := dat_flat h1 e1
    obtain ⟨rfl, a2⟩ := dats_flat h2 e
    exact ⟨rfl, by simp [a1, a2]⟩
def gIn : List D → Option D
  | [a, b] => (D.flat a).bind fun v => (D.seqK b).bind fun q => (D.flats q.2).map fun vs => .bl (inV v vs)
  | _ => none
def gNotIn : List D → Option D
  | [a, b] => (D.flat a).bind fun v => (D.seqK b).bind fun q => (D.flats q.2).map fun vs => .bl (!inV v vs)
  | _ => none
theorem in_core {as : List D} {d : D} {vs : List V} {κ : Tw.Env} {τ : S} {neg : Bool} {Q : VK} (h : (if neg then gNotIn as else gIn as) = some d) (l : as.length = vs.length) (r : Rel K cl H (as.map some ++ κ) (vs.map some ++ τ))
    (q : ∀ v H', Rel K cl H' (some d :: (as.map some ++ κ)) (some v :: (vs.map some ++ τ)) → Q v H') : rw2 (rIn K neg) vs H Q := by
  have key : ∃ a b v k xs us, as = [a, b] ∧ D.flat a = some v ∧ D.seqK b = some (k, xs) ∧ D.flats xs = some us ∧ d = .bl (if neg then !inV v us else inV v us) := by
    match as, h with
    | [a, b], h =>
      cases neg with
      | true =>
        simp only [if_true, gNotIn, Option.bind_eq_some_iff, Option.map_eq_some_iff] at h
        obtain ⟨v, e1, ⟨k, xs⟩, e2, us, e3, rfl⟩ := h
        exact ⟨a, b, v, k, xs, us, rfl, e1, e2, e3, rfl⟩
      | false =>
        simp only [Bool.false_eq_true, if_false, gIn, Option.bind_eq_some_iff, Option.map_eq_some_iff] at h
        obtain ⟨v, e1, ⟨k, xs⟩, e2, us, e3, rfl⟩ := h
        exact ⟨a, b, v, k, xs, us, rfl, e1, e2, e3, rfl⟩
    | [], h => cases neg <;> simp [gIn, gNotIn] at h
    | [_], h => cases neg <;> simp [gIn, gNotIn] at h
    | _ :: _ :: _ :: _, h => cases neg <;> simp [gIn, gNotIn] at h
  obtain ⟨a, b, v, k, xs, us, rfl, e1, e2, e3, rfl⟩ := key
  obtain ⟨x, y, rfl⟩ := two_of rfl l
  obtain ⟨M, f, hh⟩ := r.heads l
  obtain ⟨f1, f2, _, h1, h2⟩ := dats2 hh
  obtain ⟨rfl, a1⟩ := dat_flat h1 e1
  obtain ⟨ad, ws, rfl, l1, t1, d1⟩ := dat_seqK h2 e2
  obtain ⟨rfl, a2⟩ := dats_flat d1 e3
  refine ⟨ad, ws, rfl, ?_, a1, a2, q _ _ (r.push fun M => dbl)⟩
  cases k with
  | false => exact .inl (.of (l1 rfl))
  | true => exact .inr (t1 rfl)
theorem s_in : OpS K cl (rw2 (rIn K false)) gIn := fun as d vs H κ τ Q h l r q => in_core (neg := false) h l r q
theorem op_inA : OpR X (compareOp .In) (rIn X.K false) := op_in_seq
/-! ### x *= e -/
def gIMul : List D → Option D := gInt2 fun i j => if CMul i j then some (.int (i * j)) else none
def gIAdd : List D → Option D := gInt2 fun i j => some (.int (i + j))
end
end Tw
noncomputable section
namespace Tw
open PySem PySem.Spec PyProof.Rows L2
/-! ### == and != by an own __eq__ -/
structure EqF (K : PySem.W.Frag) (C f : Addr) : Prop where
  e1 : PySem.W.findIn K (.ref C) "__eq__" = some (some (.ref f))
  fn : PySem.W.isFn K (.ref f) = true
  tf : ∃ of, K.lookup f = some of ∧ of.cls = .type "function"
  ne : ∃ nm q N bs sn sub col dd k0 k1 k2 k3 k5, K.lookup C = some (excClassObj nm q C N bs [.type "object"] true sn sub false col dd k0 k1 k2 k3 k5 "object.__new__") ∧ PySem.W.nsOkIn K N = true ∧ PySem.W.nsIn K N "__eq__" = some (some (.ref f)) ∧ PySem.W.nsIn K N "__ne__" = some none
def rEqO (K : PySem.W.Frag) (C : Addr) (neg : Bool) (sp : Sp) : R2 := fun x y H Q => ∃ a b dx dy fs gs, x = .ref a ∧ y = .ref b ∧ H a = some (.ins C dx fs) ∧ H b = some (.ins C dy gs) ∧ sp [x, y] H (fun v H' => ∃ k, v = .bl k ∧ Q (.bl (if neg then !k else k)) H') E0
section
variable {X : Cx} {cl : Cl} {W : WX} {a b : Expr} {pos : Pos} {fa fb : Ev}
def fCmpO (neg : Bool) (n : Nat) (h : List D → Rf) (fa fb : Ev) : Ev := fun env => (fa env).bind fun x env1 => (fb env1).bind fun y env2 => match D.tag x, D.tag y, h [x, y] with
  | some (.cl i), some (.cl j), .ret (.bl k) [] => if i = n ∧ j = n then .ok (.bl (if neg then !k else k)) env2 else .stuck
  | _, _, _ => .stuck
/-- a method of a class -/
def FnM (P : Program) (w : World) (K : PySem.W.Frag) (mg : Str → Option Value) (base : Heap) (cl : Cl) (f : Addr) (k n : Nat) (io : List Nat) (h : List D → Rf) : Prop :=
  ∃ fd ps, Binds K fd ps [] ∧ FnOk P w K mg base (L2.CX P w) k f fd ps (spD K cl n io h)
end
section
variable {P : Program} {w : World} {K : PySem.W.Frag} {mg : Str → Option Value} {base : Heap} {cl : Cl}
/-- as def_ok, for a method -/
theorem meth_ok {x qual : Str} {st : Stmt} {f : Addr} {fd : FuncData} {N ps : List Str} {k : Nat} {io : List Nat} {g : Sv} (F : Fun K x qual st f fd) (Sc : FnScope N ps (defScope st)) (hb : Binds K fd ps []) (hnd : io.Nodup) (hio : ∀ i ∈ io, i < ps.length) (hps : ps.length ≤ N.length)
    (hbody : ∀ (cdv : Value) (A : Around) (outer : List PySem.Env) (s : Shared) (H : Hp) (E : XK), Room k (A.deeper (envOfC qual (defScope st) s.heap.objs.size f cdv)) →
      Takes (cxOf (L2.CX P w) P w K mg base N qual (defScope st) f cdv A outer s H E) (fun cls dd _ H' => E cls dd H') → PassesOwn (model P w) (A.deeper (envOfC qual (defScope st) s.heap.objs.size f cdv)) (envOfC qual (defScope st) s.heap.objs.size f cdv) (cxOf (L2.CX P w) P w K mg base N qual (defScope st) f cdv A outer s H E).xe →
      PSs (cxOf (L2.CX P w) P w K mg base N qual (defScope st) f cdv A outer s H E) (defBody st) (tS K cl (fun cls dd _ H' => E cls dd H') io g)) :
    FnM P w K mg base cl f (k + 1) ps.length io (runB N.length io g) := by
  have key := def_okF (cl := cl) (mg := mg) (base := base) (P := P) (w := w) F Sc hnd hio hps hbody
  exact ⟨fd, ps, hb, key⟩
end
end Tw
noncomputable section
namespace Tw
open PySem PySem.Spec PyProof.Rows L2
/-! ### what is told of the text -/
def Tg.same : Tg → Tg → Bool
  | .ty a, .ty b => decide (a = b)
  | .cl a, .cl b => decide (a = b)
  | _, _ => false
theorem Tg.same_eq {a b : Tg} (h : Tg.same a b = true) : a = b := by
  cases a <;> cases b <;> simp [Tg.same] at h <;> simp [h]
def isaBy (l : List (Tg × Tg × Bool)) (t u : Tg) : Option Bool := (l.find? fun z => Tg.same z.1 t && Tg.same z.2.1 u).map (·.2.2)
theorem isaBy_mem {l : List (Tg × Tg × Bool)} {t u : Tg} {b : Bool} (h : isaBy l t u = some b) : (t, u, b) ∈ l := by
  unfold isaBy at h
  rw [Option.map_eq_some_iff] at h
  obtain ⟨z, h1, rfl⟩ := h
  have h2 := List.find?_some h1
  have h3 := List.mem_of_find?_eq_some h1
  rw [Bool.and_eq_true] at h2
  rw [← Tg.same_eq h2.1, ← Tg.same_eq h2.2]
  exact h3
theorem isaOk_of {K : PySem.W.Frag} {cl : Cl} {l : List (Tg × Tg × Bool)} (h : ∀ z ∈ l, PySem.W.kitOne K (tgV cl z.1) (tgV cl z.2.1) = some z.2.2) (h2 : ∀ c u b, (Tg.cl c, u, b) ∈ l → ClsF K (cl c)) : IsaOk K cl (isaBy l) :=
  ⟨fun t u b e => h _ (isaBy_mem e), fun c u b e => h2 c u b (isaBy_mem e)⟩
/-- where the own classes lie -/
def clAt (K : PySem.W.Frag) (ns : List Str) (i : Nat) : Addr := match ns[i]? with
  | some x => match PySem.W.nsIn K mainGlobals x with
    | some (some (.ref a)) => a
    | _ => 0
  | none => 0
def clOf (K : PySem.W.Frag) (ns : List Str) : Cl := ⟨clAt K ns, []⟩
/-- the same with tables of code objects -/
def clOfT (K : PySem.W.Frag) (ns : List Str) (T : List (Addr × Str)) : Cl := ⟨clAt K ns, T⟩
theorem clOf_eq {K : PySem.W.Frag} {ns : List Str} {i : Nat} {x : Str} {a : Addr} (e : ns[i]? = some x) (h : PySem.W.nsIn K mainGlobals x = some (some (.ref a))) : clOf K ns i = a := by
  show clAt K ns i = a
  unfold clAt
  rw [e]
  simp only [h]
/-- a def of the top -/
def IsFn (K : PySem.W.Frag) (mg : Str → Option Value) (x qual : Str) (st : Stmt) (ps : List Str) : Prop := ∃ f fd, mg x = some (.ref f) ∧ Fun K x qual st f fd ∧ Binds K fd ps []
/-- a method -/
def IsM (K : PySem.W.Frag) (f : Addr) (x qual : Str) (st : Stmt) (ps : List Str) : Prop := ∃ fd, Fun K x qual st f fd ∧ Binds K fd ps []
/-- what the law's script is -/
theorem scr_rel {K : PySem.W.Frag} {cl : Cl} {H : Hp} {a : Addr} {ns : List Int} (t : Tb cl.T (fun a => a ∈ ([] : List Addr)) H) (h : SqL K H a (ns.map V.int)) : Rel K cl H [some (.scr ns)] [some (.ref a)] :=
  ⟨[], .nil, .ref a, [], [], [], rfl, rfl, ⟨rfl, a, rfl, h.elim (fun z => .inl ⟨z, by simp⟩) .inr⟩, ⟨⟨rfl, rfl⟩, t⟩⟩
theorem law_spT {K : PySem.W.Frag} {cl : Cl} {h : List D → Rf} {H : Hp} {a : Addr} {ns : List Int} (t : Tb cl.T (fun a => a ∈ ([] : List Addr)) H) (e : h [.scr ns] = .ret (.bl true) []) (hS : SqL K H a (ns.map V.int)) : spD K cl 1 [] h [.ref a] H (fun v _ => v = .bl true) fun _ _ _ => False := by
  refine ⟨rfl, [], [], [.scr ns], rfl, rfl, scr_rel t hS, ?_⟩
  rw [e]
  intro v H' us _ r
  obtain ⟨M, f, hd⟩ := Rel.head r
  exact hd.1
theorem law_sp {K : PySem.W.Frag} {ks : List Str} {h : List D → Rf} {H : Hp} {a : Addr} {ns : List Int} (e : h [.scr ns] = .ret (.bl true) []) (hS : SqL K H a (ns.map V.int)) : spD K (clOf K ks) 1 [] h [.ref a] H (fun v _ => v = .bl true) fun _ _ _ => False :=
  law_spT (fun _ z => nomatch z) e hS
end Tw
noncomputable section
namespace Tw
open PySem PySem.Spec PyProof.Rows L2
/-! ### reckoning with what a text computes: each word at an environment -/
def varR (i : Nat) (env : Tw.Env) : Option (Option D) → Rs D
  | some (some d) => .ok (D.frz d) (env.set i (some (D.frz d)))
  | _ => .stuck
theorem e_var (i : Nat) (env : Tw.Env) : fVar i env = varR i env env[i]? := by unfold fVar varR; split <;> simp_all
theorem e_varR (i : Nat) (env : Tw.Env) (d : D) : varR i env (some (some d)) = .ok (D.frz d) (env.set i (some (D.frz d))) := (rfl)
def moveR (i : Nat) (env : Tw.Env) : Option (Option D) → Rs D
  | some (some d) => .ok d (env.set i none)
  | _ => .stuck
theorem e_move (i : Nat) (env : Tw.Env) : fMove i env = moveR i env env[i]? := by unfold fMove moveR; split <;> simp_all
theorem e_moveR (i : Nat) (env : Tw.Env) (d : D) : moveR i env (some (some d)) = .ok d (env.set i none) := (rfl)
theorem e_K (d : D) (env : Tw.Env) : fK d env = .ok d env := (rfl)
theorem e_nil (env : Tw.Env) : evs [] env = .ok [] env := (rfl)
def k_val2 (d : D) : List D → Tw.Env → Rs (List D) := fun ds env2 => .ok (d :: ds) env2
theorem e_kval2 (d : D) (ds : List D) (env2 : Tw.Env) : k_val2 d ds env2 = .ok (d :: ds) env2 := (rfl)
def k_val (os : List Opd) : D → Tw.Env → Rs (List D) := fun d env1 => (evs os env1).bind (k_val2 d)
theorem e_kval (os : List Opd) (d : D) (env1 : Tw.Env) : k_val os d env1 = (evs os env1).bind (k_val2 d) := (rfl)
theorem e_val (f : Ev) (os : List Opd) (env : Tw.Env) : evs (.val f :: os) env = (f env).bind (k_val os) := (rfl)
def slotR (os : List Opd) (env : Tw.Env) : Option (Option D) → Rs (List D)
  | some (some _) => evs os env
  | _ => .stuck
theorem e_slot (i : Nat) (os : List Opd) (env : Tw.Env) : evs (.slot i :: os) env = slotR os env env[i]? := by
  unfold evs slotR
  split <;> simp_all
theorem e_slotR (os : List Opd) (env : Tw.Env) (d : D) : slotR os env (some (some d)) = evs os env := (rfl)
theorem e_gnil (env : Tw.Env) : gat [] [] env = some ([], env) := (rfl)
def gvR (d : D) : Option (List D × Tw.Env) → Option (List D × Tw.Env)
  | some p => some (d :: p.1, p.2)
  | none => none
theorem e_gval (f : Ev) (os : List Opd) (d : D) (ds : List D) (env : Tw.Env) : gat (.val f :: os) (d :: ds) env = gvR d (gat os ds env) := by
  show Option.map _ _ = _
  cases gat os ds env <;> rfl
theorem e_gvR (d : D) (p : List D × Tw.Env) : gvR d (some p) = some (d :: p.1, p.2) := (rfl)
def gsR (i : Nat) (os : List Opd) (ds : List D) (env : Tw.Env) : Option (Option D) → Option (List D × Tw.Env)
  | some (some d) => gvR d (gat os ds (env.set i none))
  | _ => none
theorem e_gslot (i : Nat) (os : List Opd) (ds : List D) (env : Tw.Env) : gat (.slot i :: os) ds env = gsR i os ds env env[i]? := by
  show (match env[i]? with | some (some d) => (gat os ds (env.set i none)).map fun p => (d :: p.1, p.2) | _ => none) = gsR i os ds env env[i]?
  cases env[i]? with
  | none => rfl
  | some o => cases o with
    | none => rfl
    | some d =>
      show Option.map _ _ = gvR d (gat os ds (env.set i none))
      cases gat os ds (env.set i none) <;> rfl
theorem e_gsR (i : Nat) (os : List Opd) (ds : List D) (env : Tw.Env) (d : D) : gsR i os ds env (some (some d)) = gvR d (gat os ds (env.set i none)) := (rfl)
def gR (env : Tw.Env) : Option D → Rs D
  | some d => .ok d env
  | none => .stuck
theorem e_gR (env : Tw.Env) (d : D) : gR env (some d) = .ok d env := (rfl)
def gpR (g : List D → Option D) (env : Tw.Env) : Option (List D × Tw.Env) → Rs D
  | some p => gR env (g p.1)
  | none => .stuck
theorem e_gpR (g : List D → Option D) (env : Tw.Env) (p : List D × Tw.Env) : gpR g env (some p) = gR env (g p.1) := (rfl)
def k_N (g : List D → Option D) (os : List Opd) : List D → Tw.Env → Rs D := fun ds env1 => gpR g env1 (gat os ds env1)
theorem e_kN (g : List D → Option D) (os : List Opd) (ds : List D) (env1 : Tw.Env) : k_N g os ds env1 = gpR g env1 (gat os ds env1) := (rfl)
theorem e_N (g : List D → Option D) (os : List Opd) (env : Tw.Env) : fN g os env = (evs os env).bind (k_N g os) := by
  unfold fN
  refine congrArg _ (funext fun ds => funext fun env1 => ?_)
  show _ = gpR g env1 (gat os ds env1)
  cases gat os ds env1 with
  | none => rfl
  | some p => show (match g p.1 with | some d => Rs.ok d env1 | none => .stuck) = gR env1 (g p.1); cases g p.1 <;> rfl
theorem e_vals0 : vals [] = [] := (rfl)
theorem e_vals1 (f : Ev) (fs : List Ev) : vals (f :: fs) = .val f :: vals fs := (rfl)
def k_tup  : List D → Tw.Env → Rs D := fun ds env1 => .ok (.tup ds) env1
theorem e_ktup  (ds : List D) (env1 : Tw.Env) : k_tup  ds env1 = .ok (.tup ds) env1 := (rfl)
theorem e_tup (fs : List Ev) (env : Tw.Env) : fTup fs env = (evs (vals fs) env).bind k_tup := (rfl)
def k_lst  : List D → Tw.Env → Rs D := fun ds env1 => .ok (.lst true ds) env1
theorem e_klst  (ds : List D) (env1 : Tw.Env) : k_lst  ds env1 = .ok (.lst true ds) env1 := (rfl)
theorem e_lst (fs : List Ev) (env : Tw.Env) : fLst fs env = (evs (vals fs) env).bind k_lst := (rfl)
def andR (g : Ev) (d : D) (env : Tw.Env) : Option Bool → Rs D
  | some true => g env
  | some false => .ok d env
  | none => .stuck
def k_and (g : Ev) : D → Tw.Env → Rs D := fun d env1 => andR g d env1 (D.tru d)
theorem e_kand (g : Ev) (d : D) (env1 : Tw.Env) : k_and g d env1 = andR g d env1 (D.tru d) := (rfl)
theorem e_and (f g : Ev) (env : Tw.Env) : fAnd f g env = (f env).bind (k_and g) := (rfl)
theorem e_andT (g : Ev) (d : D) (env : Tw.Env) : andR g d env (some true) = g env := (rfl)
theorem e_andF (g : Ev) (d : D) (env : Tw.Env) : andR g d env (some false) = .ok d env := (rfl)
def orR (g : Ev) (d : D) (env : Tw.Env) : Option Bool → Rs D
  | some false => g env
  | some true => .ok d env
  | none => .stuck
def k_or (g : Ev) : D → Tw.Env → Rs D := fun d env1 => orR g d env1 (D.tru d)
theorem e_kor (g : Ev) (d : D) (env1 : Tw.Env) : k_or g d env1 = orR g d env1 (D.tru d) := (rfl)
theorem e_or (f g : Ev) (env : Tw.Env) : fOr f g env = (f env).bind (k_or g) := (rfl)
theorem e_orT (g : Ev) (d : D) (env : Tw.Env) : orR g d env (some true) = .ok d env := (rfl)
theorem e_orF (g : Ev) (d : D) (env : Tw.Env) : orR g d env (some false) = g env := (rfl)
def notR (env : Tw.Env) : Option Bool → Rs D
  | some k => .ok (.bl (!k)) env
  | none => .stuck
def k_not  : D → Tw.Env → Rs D := fun d env1 => notR env1 (D.tru d)
theorem e_knot  (d : D) (env1 : Tw.Env) : k_not  d env1 = notR env1 (D.tru d) := (rfl)
theorem e_not (f : Ev) (env : Tw.Env) : fNot f env = (f env).bind k_not := (rfl)
theorem e_notR (env : Tw.Env) (k : Bool) : notR env (some k) = .ok (.bl (!k)) env := (rfl)
def bR (env : Tw.Env) : Option Bool → Rs Bool
  | some k => .ok k env
  | none => .stuck
def k_bE  : D → Tw.Env → Rs Bool := fun d env1 => bR env1 (D.tru d)
theorem e_kbE  (d : D) (env1 : Tw.Env) : k_bE  d env1 = bR env1 (D.tru d) := (rfl)
theorem e_bE (f : Ev) (env : Tw.Env) : bE f env = (f env).bind k_bE := (rfl)
theorem e_bR (env : Tw.Env) (k : Bool) : bR env (some k) = .ok k env := (rfl)
def k_bAnd (g : EvB) : Bool → Tw.Env → Rs Bool := fun k env1 => if k = true then g env1 else .ok false env1
theorem e_kbAnd (g : EvB) (k : Bool) (env1 : Tw.Env) : k_bAnd g k env1 = if k = true then g env1 else .ok false env1 := (rfl)
theorem e_bAnd (f g : EvB) (env : Tw.Env) : bAnd f g env = (f env).bind (k_bAnd g) := (rfl)
def k_bOr (g : EvB) : Bool → Tw.Env → Rs Bool := fun k env1 => if k = true then .ok true env1 else g env1
theorem e_kbOr (g : EvB) (k : Bool) (env1 : Tw.Env) : k_bOr g k env1 = if k = true then .ok true env1 else g env1 := (rfl)
theorem e_bOr (f g : EvB) (env : Tw.Env) : bOr f g env = (f env).bind (k_bOr g) := (rfl)
def k_bNot  : Bool → Tw.Env → Rs Bool := fun k env1 => .ok (!k) env1
theorem e_kbNot  (k : Bool) (env1 : Tw.Env) : k_bNot  k env1 = .ok (!k) env1 := (rfl)
theorem e_bNot (f : EvB) (env : Tw.Env) : bNot f env = (f env).bind k_bNot := (rfl)
theorem e_bTrue (env : Tw.Env) : bTrue env = .ok true env := (rfl)
def k_if (f g : Ev) : Bool → Tw.Env → Rs D := fun k env1 => if k = true then f env1 else g env1
theorem e_kif (f g : Ev) (k : Bool) (env1 : Tw.Env) : k_if f g k env1 = if k = true then f env1 else g env1 := (rfl)
theorem e_if (t : EvB) (f g : Ev) (env : Tw.Env) : fIf t f g env = (t env).bind (k_if f g) := (rfl)
def chR2 (env : Tw.Env) : Option D → Rs D
  | some d => .ok d env
  | none => .stuck
theorem e_chR2 (env : Tw.Env) (d : D) : chR2 env (some d) = .ok d env := (rfl)
def chR (g' : List D → Option D) (fc : Ev) (y : D) (env : Tw.Env) : Option D → Rs D
  | some (.bl true) => (fc env).bind fun z env3 => chR2 env3 (g' [y, z])
  | some (.bl false) => .ok (.bl false) env
  | _ => .stuck
def k_chRT (g' : List D → Option D) (y : D) : D → Tw.Env → Rs D := fun z env3 => chR2 env3 (g' [y, z])
theorem e_kchRT (g' : List D → Option D) (y z : D) (env3 : Tw.Env) : k_chRT g' y z env3 = chR2 env3 (g' [y, z]) := (rfl)
theorem e_chRT (g' : List D → Option D) (fc : Ev) (y : D) (env : Tw.Env) : chR g' fc y env (some (.bl true)) = (fc env).bind (k_chRT g' y) := (rfl)
theorem e_chRF (g' : List D → Option D) (fc : Ev) (y : D) (env : Tw.Env) : chR g' fc y env (some (.bl false)) = .ok (.bl false) env := (rfl)
def k_chain2 (g g' : List D → Option D) (fc : Ev) (x : D) : D → Tw.Env → Rs D := fun y env2 => chR g' fc y env2 (g [x, y])
theorem e_kchain2 (g g' : List D → Option D) (fc : Ev) (x y : D) (env2 : Tw.Env) : k_chain2 g g' fc x y env2 = chR g' fc y env2 (g [x, y]) := (rfl)
def k_chain (g g' : List D → Option D) (fb fc : Ev) : D → Tw.Env → Rs D := fun x env1 => (fb env1).bind (k_chain2 g g' fc x)
theorem e_kchain (g g' : List D → Option D) (fb fc : Ev) (x : D) (env1 : Tw.Env) : k_chain g g' fb fc x env1 = (fb env1).bind (k_chain2 g g' fc x) := (rfl)
theorem e_chain (g g' : List D → Option D) (fa fb fc : Ev) (env : Tw.Env) : fChain g g' fa fb fc env = (fa env).bind (k_chain g g' fb fc) := by
  unfold fChain
  refine congrArg _ (funext fun x => funext fun env1 => ?_)
  show Rs.bind (fb env1) _ = Rs.bind (fb env1) _
  refine congrArg _ (funext fun y => funext fun env2 => ?_)
  show _ = chR g' fc y env2 (g [x, y])
  cases g [x, y] with
  | none => rfl
  | some d => cases d with
    | bl b => cases b with
      | true =>
        show Rs.bind (fc env2) _ = Rs.bind (fc env2) _
        refine congrArg _ (funext fun z => funext fun env3 => ?_)
        show _ = chR2 env3 (g' [y, z])
        cases g' [y, z] <;> rfl
      | false => rfl
    | _ => rfl
theorem e_part0 (env : Tw.Env) : fPart none env = .ok none env := (rfl)
def partR (env : Tw.Env) : Option Int → Rs (Option Int)
  | some i => .ok (some i) env
  | none => .stuck
def k_part  : D → Tw.Env → Rs (Option Int) := fun d env1 => partR env1 (D.asI d)
theorem e_kpart  (d : D) (env1 : Tw.Env) : k_part  d env1 = partR env1 (D.asI d) := (rfl)
theorem e_part (f : Ev) (env : Tw.Env) : fPart (some f) env = (f env).bind k_part := (rfl)
theorem e_partR (env : Tw.Env) (i : Int) : partR env (some i) = .ok (some i) env := (rfl)
def k_sl3 (d : D) (l : Option Int) : Option Int → Tw.Env → Rs D := fun h env3 => gR env3 (gSl d l h)
theorem e_ksl3 (d : D) (l h : Option Int) (env3 : Tw.Env) : k_sl3 d l h env3 = gR env3 (gSl d l h) := (rfl)
def k_sl2 (d : D) (hi : Option Ev) : Option Int → Tw.Env → Rs D := fun l env2 => (fPart hi env2).bind (k_sl3 d l)
theorem e_ksl2 (d : D) (hi : Option Ev) (l : Option Int) (env2 : Tw.Env) : k_sl2 d hi l env2 = (fPart hi env2).bind (k_sl3 d l) := (rfl)
def k_sl (lo hi : Option Ev) : D → Tw.Env → Rs D := fun d env1 => (fPart lo env1).bind (k_sl2 d hi)
theorem e_ksl (lo hi : Option Ev) (d : D) (env1 : Tw.Env) : k_sl lo hi d env1 = (fPart lo env1).bind (k_sl2 d hi) := (rfl)
theorem e_sl (fa : Ev) (lo hi : Option Ev) (env : Tw.Env) : fSl fa lo hi env = (fa env).bind (k_sl lo hi) := by
  unfold fSl
  refine congrArg _ (funext fun d => funext fun env1 => ?_)
  show Rs.bind _ _ = Rs.bind _ _
  refine congrArg _ (funext fun l => funext fun env2 => ?_)
  show Rs.bind _ _ = Rs.bind _ _
  refine congrArg _ (funext fun h => funext fun env3 => ?_)
  show _ = gR env3 (gSl d l h)
  cases gSl d l h <;> rfl
def k_rev  : D → Tw.Env → Rs D := fun d env1 => gR env1 (gRev d)
theorem e_krev  (d : D) (env1 : Tw.Env) : k_rev  d env1 = gR env1 (gRev d) := (rfl)
theorem e_rev (f : Ev) (env : Tw.Env) : fRev f env = (f env).bind k_rev := by
  unfold fRev
  refine congrArg _ (funext fun d => funext fun env1 => ?_)
  show _ = gR env1 (gRev d)
  cases gRev d <;> rfl
/-! calls -/
def ok1 (d : D) : Option Tw.Env → Rs D
  | some env => .ok d env
  | none => .stuck
def ex1 (c : Nat) (ns : List Str) (es : List D) : Option Tw.Env → Rs D
  | some env => .exc c ns es env
  | none => .stuck
def ioR (os : List Opd) (io : List Nat) (env : Tw.Env) : Rf → Rs D
  | .ret d ios => ok1 d (putIo os io ios env)
  | .exc c ns es ios => ex1 c ns es (putIo os io ios env)
  | .stuck => .stuck
def callR (io : List Nat) (h : List D → Rf) (os : List Opd) : Option (List D × Tw.Env) → Rs D
  | some p => ioR os io p.2 (h p.1)
  | none => .stuck
theorem e_callR (io : List Nat) (h : List D → Rf) (os : List Opd) (p : List D × Tw.Env) : callR io h os (some p) = ioR os io p.2 (h p.1) := (rfl)
def k_call (io : List Nat) (h : List D → Rf) (os : List Opd) : List D → Tw.Env → Rs D := fun ds env1 => callR io h os (gat os ds env1)
theorem e_kcall (io : List Nat) (h : List D → Rf) (os : List Opd) (ds : List D) (env1 : Tw.Env) : k_call io h os ds env1 = callR io h os (gat os ds env1) := (rfl)
theorem e_call (io : List Nat) (h : List D → Rf) (os : List Opd) (env : Tw.Env) : fCall io h os env = (evs os env).bind (k_call io h os) := by
  unfold fCall
  refine congrArg _ (funext fun ds => funext fun env1 => ?_)
  show _ = callR io h os (gat os ds env1)
  cases gat os ds env1 with
  | none => rfl
  | some p =>
    show (match h p.1 with | .ret d ios => _ | .exc c ns es ios => _ | .stuck => _) = ioR os io p.2 (h p.1)
    cases h p.1 with
    | ret d ios => show (match putIo os io ios p.2 with | some e => _ | none => _) = ok1 d (putIo os io ios p.2); cases putIo os io ios p.2 <;> rfl
    | exc c ns es ios => show (match putIo os io ios p.2 with | some e => _ | none => _) = ex1 c ns es (putIo os io ios p.2); cases putIo os io ios p.2 <;> rfl
    | stuck => rfl
theorem e_io0 (os : List Opd) (env : Tw.Env) (d : D) : ioR os [] env (.ret d []) = .ok d env := (rfl)
def io1R (i : D) (d : D) (env : Tw.Env) : Option Opd → Rs D
  | some (.slot j) => .ok d (env.set j (some i))
  | _ => .stuck
theorem e_io1 (os : List Opd) (p : Nat) (env : Tw.Env) (d x : D) : ioR os [p] env (.ret d [x]) = io1R x d env os[p]? := by
  show ok1 d (match os[p]? with | some (.slot i) => _ | _ => none) = io1R x d env os[p]?
  cases os[p]? with
  | none => rfl
  | some o => cases o <;> rfl
theorem e_io1R (x d : D) (env : Tw.Env) (j : Nat) : io1R x d env (some (.slot j)) = .ok d (env.set j (some x)) := (rfl)
/-! statements -/
def seqR (h : Sv) : Out → Out
  | .next env1 => h env1
  | o => o
theorem e_seq (g h : Sv) (env : Tw.Env) : sSeq g h env = seqR h (g env) := by unfold sSeq seqR; cases g env <;> rfl
theorem e_seqN (h : Sv) (env : Tw.Env) : seqR h (.next env) = h env := (rfl)
theorem e_seqR (h : Sv) (d : D) (env : Tw.Env) : seqR h (.ret d env) = .ret d env := (rfl)
theorem e_seqB (h : Sv) (env : Tw.Env) : seqR h (.brk env) = .brk env := (rfl)
theorem e_seqC (h : Sv) (env : Tw.Env) : seqR h (.cont env) = .cont env := (rfl)
theorem e_sNil (env : Tw.Env) : sNil env = .next env := (rfl)
theorem e_sBrk (env : Tw.Env) : sBrk env = .brk env := (rfl)
theorem e_sCont (env : Tw.Env) : sCont env = .cont env := (rfl)
def k_sRet  : D → Tw.Env → Out := fun d env1 => .ret d env1
theorem e_ksRet  (d : D) (env1 : Tw.Env) : k_sRet  d env1 = .ret d env1 := (rfl)
theorem e_sRet (f : Ev) (env : Tw.Env) : sRet f env = sBind (f env) k_sRet := (rfl)
def k_sExpr  : D → Tw.Env → Out := fun _ env1 => .next env1
theorem e_ksExpr (d : D) (env1 : Tw.Env) : k_sExpr d env1 = .next env1 := (rfl)
theorem e_sExpr (f : Ev) (env : Tw.Env) : sExpr f env = sBind (f env) k_sExpr := (rfl)
def k_sIf (g h : Sv) : Bool → Tw.Env → Out := fun k env1 => if k = true then g env1 else h env1
theorem e_ksIf (g h : Sv) (k : Bool) (env1 : Tw.Env) : k_sIf g h k env1 = if k = true then g env1 else h env1 := (rfl)
theorem e_sIf (t : EvB) (g h : Sv) (env : Tw.Env) : sIf t g h env = sBind (t env) (k_sIf g h) := (rfl)
def nxR : Option Tw.Env → Out
  | some env => .next env
  | none => .stuck
theorem e_nxR (env : Tw.Env) : nxR (some env) = .next env := (rfl)
def k_sAsg (bd : Bd) : D → Tw.Env → Out := fun d env1 => nxR (bd d env1)
theorem e_ksAsg (bd : Bd) (d : D) (env1 : Tw.Env) : k_sAsg bd d env1 = nxR (bd d env1) := (rfl)
theorem e_sAsg (bd : Bd) (f : Ev) (env : Tw.Env) : sAsg bd f env = sBind (f env) (k_sAsg bd) := by
  unfold sAsg
  refine congrArg _ (funext fun d => funext fun env1 => ?_)
  show _ = nxR (bd d env1)
  cases bd d env1 <;> rfl
theorem e_bNm (i : Nat) (d : D) (env : Tw.Env) : bNm i d env = if i < env.length then some (env.set i (some d)) else none := (rfl)
def k_sPar2 (i j : Nat) (x : D) : D → Tw.Env → Out := fun y env2 => if i < env2.length ∧ j < env2.length then .next ((env2.set i (some x)).set j (some y)) else .stuck
theorem e_ksPar2 (i j : Nat) (x y : D) (env2 : Tw.Env) : k_sPar2 i j x y env2 = if i < env2.length ∧ j < env2.length then .next ((env2.set i (some x)).set j (some y)) else .stuck := (rfl)
def k_sPar (i j : Nat) (g : Ev) : D → Tw.Env → Out := fun x env1 => sBind (g env1) (k_sPar2 i j x)
theorem e_ksPar (i j : Nat) (g : Ev) (x : D) (env1 : Tw.Env) : k_sPar i j g x env1 = sBind (g env1) (k_sPar2 i j x) := (rfl)
theorem e_sPar (i j : Nat) (f g : Ev) (env : Tw.Env) : sPar i j f g env = sBind (f env) (k_sPar i j g) := (rfl)
def k_sFor (bd : Bd) (body : Sv) : List D → Tw.Env → Out := fun items env1 => forGo bd body items env1
theorem e_ksFor (bd : Bd) (body : Sv) (items : List D) (env1 : Tw.Env) : k_sFor bd body items env1 = forGo bd body items env1 := (rfl)
theorem e_sFor (fi : Tw.Env → Rs (List D)) (bd : Bd) (body : Sv) (env : Tw.Env) : sFor fi bd body env = sBind (fi env) (k_sFor bd body) := (rfl)
def augR (i : Nat) (env : Tw.Env) : Option D → Out
  | some z => if i < env.length then .next (env.set i (some z)) else .stuck
  | none => .stuck
theorem e_augR (i : Nat) (env : Tw.Env) (z : D) : augR i env (some z) = if i < env.length then .next (env.set i (some z)) else .stuck := (rfl)
def k_sAug2 (i : Nat) (g : List D → Option D) (u : D) : D → Tw.Env → Out := fun y env2 => augR i env2 (g [u, y])
theorem e_ksAug2 (i : Nat) (g : List D → Option D) (u y : D) (env2 : Tw.Env) : k_sAug2 i g u y env2 = augR i env2 (g [u, y]) := (rfl)
def k_sAug (i : Nat) (g : List D → Option D) (f : Ev) : D → Tw.Env → Out := fun u env1 => sBind (f env1) (k_sAug2 i g u)
theorem e_ksAug (i : Nat) (g : List D → Option D) (f : Ev) (u : D) (env1 : Tw.Env) : k_sAug i g f u env1 = sBind (f env1) (k_sAug2 i g u) := (rfl)
theorem e_sAug (i : Nat) (g : List D → Option D) (f : Ev) (env : Tw.Env) : sAug i g f env = sBind (fVar i env) (k_sAug i g f) := by
  unfold sAug
  refine congrArg _ (funext fun u => funext fun env1 => ?_)
  show sBind _ _ = sBind _ _
  refine congrArg _ (funext fun y => funext fun env2 => ?_)
  show _ = augR i env2 (g [u, y])
  cases g [u, y] <;> rfl
def ownR : Option (Option D) → Option (List D)
  | some (some (.lst true xs)) => some xs
  | _ => none
theorem e_own (env : Tw.Env) (i : Nat) : ownAt env i = ownR env[i]? := by
  unfold ownAt ownR
  cases env[i]? with
  | none => rfl
  | some o => cases o with
    | none => rfl
    | some d => cases d with
      | lst m xs => cases m <;> rfl
      | _ => rfl
theorem e_ownR (xs : List D) : ownR (some (some (.lst true xs))) = some xs := (rfl)
def stR2 (i : Nat) (env : Tw.Env) (xs : List D) (d : D) : Option Nat → Out
  | some j => .next (env.set i (some (.lst true (xs.set j d))))
  | none => .stuck
theorem e_stR2 (i : Nat) (env : Tw.Env) (xs : List D) (d : D) (j : Nat) : stR2 i env xs d (some j) = .next (env.set i (some (.lst true (xs.set j d)))) := (rfl)
def stR3 (i : Nat) (env : Tw.Env) (d : D) (k : Option Int) : Option (List D) → Out
  | some ds => match k with
    | some z => if D.oks ds && D.ok d then stR2 i env ds d (ixN ds.length z) else .stuck
    | none => .stuck
  | none => .stuck
theorem e_stR3 (i : Nat) (env : Tw.Env) (d : D) (z : Int) (ds : List D) : stR3 i env d (some z) (some ds) = if D.oks ds && D.ok d then stR2 i env ds d (ixN ds.length z) else .stuck := (rfl)
def k_stR (i : Nat) (d : D) : D → Tw.Env → Out := fun k env2 => stR3 i env2 d (D.asI k) (ownAt env2 i)
theorem e_kstR (i : Nat) (d k : D) (env2 : Tw.Env) : k_stR i d k env2 = stR3 i env2 d (D.asI k) (ownAt env2 i) := (rfl)
def stR (i : Nat) (fi : Ev) (d : D) (env : Tw.Env) : Option (List D) → Out
  | some _ => sBind (fi env) (k_stR i d)
  | none => .stuck
theorem e_stR (i : Nat) (fi : Ev) (d : D) (env : Tw.Env) (xs : List D) : stR i fi d env (some xs) = sBind (fi env) (k_stR i d) := (rfl)
def k_sStore (i : Nat) (fi : Ev) : D → Tw.Env → Out := fun d env1 => stR i fi d env1 (ownAt env1 i)
theorem e_ksStore (i : Nat) (fi : Ev) (d : D) (env1 : Tw.Env) : k_sStore i fi d env1 = stR i fi d env1 (ownAt env1 i) := (rfl)
theorem e_sStore (i : Nat) (fi f : Ev) (env : Tw.Env) : sStore i fi f env = sBind (f env) (k_sStore i fi) := by
  unfold sStore
  refine congrArg _ (funext fun d => funext fun env1 => ?_)
  show _ = stR i fi d env1 (ownAt env1 i)
  cases ownAt env1 i with
  | none => rfl
  | some _ =>
    show sBind _ _ = sBind _ _
    refine congrArg _ (funext fun k => funext fun env2 => ?_)
    show _ = stR3 i env2 d (D.asI k) (ownAt env2 i)
    cases D.asI k with
    | none => cases ownAt env2 i <;> rfl
    | some z =>
      simp only [Option.bind_some]
      cases ownAt env2 i with
      | none => rfl
      | some ds =>
        simp only [Option.bind_some, stR3]
        by_cases c : (D.oks ds && D.ok d) = true
        · simp only [c, if_true]
          cases ixN ds.length z <;> rfl
        · simp only [c, Bool.false_eq_true, if_false]
def m1R (i : Nat) (env : Tw.Env) : Option (D × List D) → Rs D
  | some q => .ok q.1 (env.set i (some (.lst true q.2)))
  | none => .stuck
theorem e_m1R (i : Nat) (env : Tw.Env) (q : D × List D) : m1R i env (some q) = .ok q.1 (env.set i (some (.lst true q.2))) := (rfl)
def m1S (i : Nat) (gm : List D → D → Option (D × List D)) (y : D) (env : Tw.Env) : Option (List D) → Rs D
  | some ds => m1R i env (gm ds y)
  | none => .stuck
theorem e_m1S (i : Nat) (gm : List D → D → Option (D × List D)) (y : D) (env : Tw.Env) (ds : List D) : m1S i gm y env (some ds) = m1R i env (gm ds y) := (rfl)
def k_m1T (i : Nat) (gm : List D → D → Option (D × List D)) : D → Tw.Env → Rs D := fun y env1 => m1S i gm y env1 (ownAt env1 i)
theorem e_km1T (i : Nat) (gm : List D → D → Option (D × List D)) (y : D) (env1 : Tw.Env) : k_m1T i gm y env1 = m1S i gm y env1 (ownAt env1 i) := (rfl)
def m1T (i : Nat) (gm : List D → D → Option (D × List D)) (f : Ev) (env : Tw.Env) : Option (List D) → Rs D
  | some _ => (f env).bind (k_m1T i gm)
  | none => .stuck
theorem e_m1T (i : Nat) (gm : List D → D → Option (D × List D)) (f : Ev) (env : Tw.Env) (ds : List D) : m1T i gm f env (some ds) = (f env).bind (k_m1T i gm) := (rfl)
theorem e_mt1 (i : Nat) (gm : List D → D → Option (D × List D)) (f : Ev) (env : Tw.Env) : fMt1 i gm f env = m1T i gm f env (ownAt env i) := by
  unfold fMt1 m1T
  cases ownAt env i with
  | none => rfl
  | some _ =>
    show Rs.bind _ _ = Rs.bind _ _
    refine congrArg _ (funext fun y => funext fun env1 => ?_)
    show _ = m1S i gm y env1 (ownAt env1 i)
    cases ownAt env1 i with
    | none => rfl
    | some ds => show _ = m1R i env1 (gm ds y); simp only [Option.bind_some]; cases gm ds y <;> rfl
def m0S (i : Nat) (gm : List D → Option (D × List D)) (env : Tw.Env) : Option (List D) → Rs D
  | some ds => m1R i env (gm ds)
  | none => .stuck
theorem e_m0S (i : Nat) (gm : List D → Option (D × List D)) (env : Tw.Env) (ds : List D) : m0S i gm env (some ds) = m1R i env (gm ds) := (rfl)
theorem e_mt0 (i : Nat) (gm : List D → Option (D × List D)) (env : Tw.Env) : fMt0 i gm env = m0S i gm env (ownAt env i) := by
  unfold fMt0 m0S
  cases ownAt env i with
  | none => rfl
  | some ds => show _ = m1R i env (gm ds); simp only [Option.bind_some]; cases gm ds <;> rfl
/-! whole defs -/
def rtN (d : D) : Option (List D) → Rf
  | some ios => .ret d ios
  | none => .stuck
theorem e_rtN (d : D) (ios : List D) : rtN d (some ios) = .ret d ios := (rfl)
def rtE (c : Nat) (ns : List Str) (es : List D) : Option (List D) → Rf
  | some ios => .exc c ns es ios
  | none => .stuck
def rtR (io : List Nat) : Out → Rf
  | .next env => rtN .non (ioOf io env)
  | .ret d env => rtN d (ioOf io env)
  | .exc c ns es env => rtE c ns es (ioOf io env)
  | _ => .stuck
theorem e_run (n : Nat) (io : List Nat) (g : Sv) (ds : List D) : runB n io g ds = rtR io (g (ds.map some ++ List.replicate (n - ds.length) none)) := by
  unfold runB
  generalize g (ds.map some ++ List.replicate (n - ds.length) none) = o
  cases o with
  | next env => show (match ioOf io env with | some ios => _ | none => _) = rtN .non (ioOf io env); cases ioOf io env <;> rfl
  | ret d env => show (match ioOf io env with | some ios => _ | none => _) = rtN d (ioOf io env); cases ioOf io env <;> rfl
  | exc c ns es env => show (match ioOf io env with | some ios => _ | none => _) = rtE c ns es (ioOf io env); cases ioOf io env <;> rfl
  | _ => rfl
theorem e_rtR (io : List Nat) (d : D) (env : Tw.Env) : rtR io (.ret d env) = rtN d (ioOf io env) := (rfl)
theorem e_rtX (io : List Nat) (env : Tw.Env) : rtR io (.next env) = rtN .non (ioOf io env) := (rfl)
theorem e_io_nil (env : Tw.Env) : ioOf [] env = some [] := (rfl)
def ioR1 : Option (Option D) → Option (List D)
  | some (some d) => some [d]
  | _ => none
theorem e_io_one (i : Nat) (env : Tw.Env) : ioOf [i] env = ioR1 env[i]? := by
  unfold ioOf ioR1
  simp only [List.mapM_cons, List.mapM_nil]
  cases env[i]? with
  | none => rfl
  | some o => cases o <;> rfl
theorem e_ioR1 (d : D) : ioR1 (some (some d)) = some [d] := (rfl)
def coR2 (neg : Bool) (n i j : Nat) (env : Tw.Env) : Rf → Rs D
  | .ret (.bl k) [] => if i = n ∧ j = n then .ok (.bl (if neg then !k else k)) env else .stuck
  | _ => .stuck
theorem e_coR2 (neg : Bool) (n i j : Nat) (env : Tw.Env) (k : Bool) : coR2 neg n i j env (.ret (.bl k) []) = if i = n ∧ j = n then .ok (.bl (if neg then !k else k)) env else .stuck := (rfl)
/-! walks -/
def itR (env : Tw.Env) : Option (List D) → Rs (List D)
  | some xs => .ok xs env
  | none => .stuck
theorem e_itR (env : Tw.Env) (xs : List D) : itR env (some xs) = .ok xs env := (rfl)
def k_iSeq  : D → Tw.Env → Rs (List D) := fun d env1 => itR env1 (D.items d)
theorem e_kiSeq  (d : D) (env1 : Tw.Env) : k_iSeq  d env1 = itR env1 (D.items d) := (rfl)
theorem e_iSeq (f : Ev) (env : Tw.Env) : iSeq f env = (f env).bind k_iSeq := by
  unfold iSeq
  refine congrArg _ (funext fun d => funext fun env1 => ?_)
  show _ = itR env1 (D.items d)
  cases D.items d <;> rfl
def rgR (env : Tw.Env) : Option (Int × Nat) → Rs (List D)
  | some q => .ok (rngD q.1 q.2) env
  | none => .stuck
theorem e_rgR (env : Tw.Env) (q : Int × Nat) : rgR env (some q) = .ok (rngD q.1 q.2) env := (rfl)
def k_iRng  : List D → Tw.Env → Rs (List D) := fun ds env1 => rgR env1 ((D.ints ds).bind rngOf)
theorem e_kiRng  (ds : List D) (env1 : Tw.Env) : k_iRng  ds env1 = rgR env1 ((D.ints ds).bind rngOf) := (rfl)
theorem e_iRng (os : List Ev) (env : Tw.Env) : iRng os env = (evs (vals os) env).bind k_iRng := by
  unfold iRng
  refine congrArg _ (funext fun d => funext fun env1 => ?_)
  show _ = rgR env1 ((D.ints d).bind rngOf)
  cases (D.ints d).bind rngOf <;> rfl
def zpR (env : Tw.Env) : Option (Bool × List D × List D) → Rs (List D)
  | some q => .ok (zipD q.2.1 q.2.2) env
  | none => .stuck
theorem e_zpR (env : Tw.Env) (q : Bool × List D × List D) : zpR env (some q) = .ok (zipD q.2.1 q.2.2) env := (rfl)
def k_iZip  : List D → Tw.Env → Rs (List D) := fun ds env1 => zpR env1 (zipOf ds)
theorem e_kiZip  (ds : List D) (env1 : Tw.Env) : k_iZip  ds env1 = zpR env1 (zipOf ds) := (rfl)
theorem e_iZip (os : List Ev) (env : Tw.Env) : iZip os env = (evs (vals os) env).bind k_iZip := by
  unfold iZip
  refine congrArg _ (funext fun d => funext fun env1 => ?_)
  show _ = zpR env1 (zipOf d)
  cases zipOf d <;> rfl
def k_cp3 : List D → Tw.Env → Rs D := fun ds env2 => .ok (.lst true ds) env2
theorem e_kcp3 (ds : List D) (env2 : Tw.Env) : k_cp3 ds env2 = .ok (.lst true ds) env2 := (rfl)
def k_comp (vs : List Nat) (b : Bd) (t : EvB) (f : Ev) : List D → Tw.Env → Rs D := fun items env1 => if lenOk items.length then (compGo vs b t f items [] (wipeE env1 vs)).bind k_cp3 else .stuck
theorem e_kcomp (vs : List Nat) (b : Bd) (t : EvB) (f : Ev) (items : List D) (env1 : Tw.Env) : k_comp vs b t f items env1 = if lenOk items.length then (compGo vs b t f items [] (wipeE env1 vs)).bind k_cp3 else .stuck := (rfl)
theorem e_comp (vs : List Nat) (fi : Tw.Env → Rs (List D)) (b : Bd) (t : EvB) (f : Ev) (env : Tw.Env) : fComp vs fi b t f env = (fi env).bind (k_comp vs b t f) := (rfl)
def k_comp2 (vs vs1 : List Nat) (b : Bd) (t : EvB) (fi1 : Tw.Env → Rs (List D)) (b1 : Bd) (t1 : EvB) (f : Ev) : List D → Tw.Env → Rs D := fun items env1 => (comp2Go vs vs1 b t fi1 b1 t1 f items [] (wipeE env1 vs)).bind k_cp3
theorem e_kcomp2 (vs vs1 : List Nat) (b : Bd) (t : EvB) (fi1 : Tw.Env → Rs (List D)) (b1 : Bd) (t1 : EvB) (f : Ev) (items : List D) (env1 : Tw.Env) : k_comp2 vs vs1 b t fi1 b1 t1 f items env1 = (comp2Go vs vs1 b t fi1 b1 t1 f items [] (wipeE env1 vs)).bind k_cp3 := (rfl)
theorem e_comp2 (vs vs1 : List Nat) (fi : Tw.Env → Rs (List D)) (b : Bd) (t : EvB) (fi1 : Tw.Env → Rs (List D)) (b1 : Bd) (t1 : EvB) (f : Ev) (env : Tw.Env) : fComp2 vs vs1 fi b t fi1 b1 t1 f env = (fi env).bind (k_comp2 vs vs1 b t fi1 b1 t1 f) := (rfl)
/-- comparison by an own __eq__ -/
def coR (neg : Bool) (n : Nat) (env : Tw.Env) (r : Rf) : Option Tg → Option Tg → Rs D
  | some (.cl i), some (.cl j) => coR2 neg n i j env r
  | _, _ => .stuck
theorem e_coR (neg : Bool) (n : Nat) (env : Tw.Env) (r : Rf) (i j : Nat) : coR neg n env r (some (.cl i)) (some (.cl j)) = coR2 neg n i j env r := (rfl)
def k_co2 (neg : Bool) (n : Nat) (h : List D → Rf) (x : D) : D → Tw.Env → Rs D := fun y env2 => coR neg n env2 (h [x, y]) (D.tag x) (D.tag y)
theorem e_kco2 (neg : Bool) (n : Nat) (h : List D → Rf) (x y : D) (env2 : Tw.Env) : k_co2 neg n h x y env2 = coR neg n env2 (h [x, y]) (D.tag x) (D.tag y) := (rfl)
def k_co (neg : Bool) (n : Nat) (h : List D → Rf) (fb : Ev) : D → Tw.Env → Rs D := fun x env1 => (fb env1).bind (k_co2 neg n h x)
theorem e_kco (neg : Bool) (n : Nat) (h : List D → Rf) (fb : Ev) (x : D) (env1 : Tw.Env) : k_co neg n h fb x env1 = (fb env1).bind (k_co2 neg n h x) := (rfl)
theorem e_co (neg : Bool) (n : Nat) (h : List D → Rf) (fa fb : Ev) (env : Tw.Env) : fCmpO neg n h fa fb env = (fa env).bind (k_co neg n h fb) := by
  unfold fCmpO
  refine congrArg _ (funext fun x => funext fun env1 => ?_)
  show Rs.bind _ _ = Rs.bind _ _
  refine congrArg _ (funext fun y => funext fun env2 => ?_)
  show _ = coR neg n env2 (h [x, y]) (D.tag x) (D.tag y)
  cases D.tag x with
  | none => rfl
  | some t => cases t with
    | ty _ => rfl
    | cl i => cases D.tag y with
      | none => rfl
      | some u => cases u with
        | ty _ => rfl
        | cl j =>
          show _ = coR2 neg n i j env2 (h [x, y])
          cases h [x, y] with
          | ret d ios => cases d with
            | bl k => cases ios <;> rfl
            | _ => rfl
          | _ => rfl
theorem e_wipe0 (env : Tw.Env) : wipeE env [] = env := (rfl)
theorem e_wipe1 (env : Tw.Env) (v : Nat) (vs : List Nat) : wipeE env (v :: vs) = (wipeE env vs).set v none := (rfl)
theorem e_bTp (r : List D → Tw.Env → Option Tw.Env) (ds : List D) (env : Tw.Env) : bTp r (.tup ds) env = r ds env := (rfl)
theorem e_bTp2 (r : List D → Tw.Env → Option Tw.Env) (ds : List D) (env : Tw.Env) : bTp r (.pr ds) env = r ds env := (rfl)
theorem e_bNil (env : Tw.Env) : bNil [] env = some env := (rfl)
theorem e_bCons (b : Bd) (r : List D → Tw.Env → Option Tw.Env) (d : D) (ds : List D) (env : Tw.Env) : bCons b r (d :: ds) env = (b d env).bind fun env1 => r ds env1 := (rfl)
/-! objects -/
def mkR (env : Tw.Env) : Rf → Rs D
  | .ret .non [z] => .ok z env
  | .exc c ns es _ => .exc c ns es env
  | _ => .stuck
theorem e_mkR (env : Tw.Env) (z : D) : mkR env (.ret .non [z]) = .ok z env := (rfl)
def k_make (n : Nat) (h : List D → Rf) : List D → Tw.Env → Rs D := fun ds env1 => mkR env1 (h (.obj true n [] [] :: ds))
theorem e_kmake (n : Nat) (h : List D → Rf) (ds : List D) (env1 : Tw.Env) : k_make n h ds env1 = mkR env1 (h (.obj true n [] [] :: ds)) := (rfl)
theorem e_make (n : Nat) (h : List D → Rf) (fs : List Ev) (env : Tw.Env) : fMake n h fs env = (evs (vals fs) env).bind (k_make n h) := by
  unfold fMake
  refine congrArg _ (funext fun ds => funext fun env1 => ?_)
  show _ = mkR env1 (h (.obj true n [] [] :: ds))
  cases h (.obj true n [] [] :: ds) with
  | ret d ios => cases d <;> (match ios with | [] => rfl | [_] => rfl | _ :: _ :: _ => rfl)
  | _ => rfl
def fsR (i : Nat) (own : Nat → Bool) (f : Str) (d : D) (env : Tw.Env) : Option (Nat × List Str × List D) → Out
  | some q => if own q.1 && decide (q.2.1.length = q.2.2.length) && decide (q.2.1.length < 1000) && oldOk f q.2.1 q.2.2 then .next (env.set i (some (.obj true q.1 (putN f q.2.1) (putD f d q.2.1 q.2.2)))) else .stuck
  | none => .stuck
def k_fset (i : Nat) (own : Nat → Bool) (f : Str) : D → Tw.Env → Out := fun d env1 => fsR i own f d env1 (ownOAt env1 i)
theorem e_kfset (i : Nat) (own : Nat → Bool) (f : Str) (d : D) (env1 : Tw.Env) : k_fset i own f d env1 = fsR i own f d env1 (ownOAt env1 i) := (rfl)
theorem e_fset (i : Nat) (own : Nat → Bool) (f : Str) (fe : Ev) (env : Tw.Env) : sFSet i own f fe env = sBind (fe env) (k_fset i own f) := by
  unfold sFSet
  refine congrArg _ (funext fun d => funext fun env1 => ?_)
  show _ = fsR i own f d env1 (ownOAt env1 i)
  cases ownOAt env1 i <;> rfl
theorem e_fsR (i : Nat) (own : Nat → Bool) (f : Str) (d : D) (env : Tw.Env) (q : Nat × List Str × List D) : fsR i own f d env (some q) = if own q.1 && decide (q.2.1.length = q.2.2.length) && decide (q.2.1.length < 1000) && oldOk f q.2.1 q.2.2 then .next (env.set i (some (.obj true q.1 (putN f q.2.1) (putD f d q.2.1 q.2.2)))) else .stuck := (rfl)
def ooR : Option (Option D) → Option (Nat × List Str × List D)
  | some (some (.obj true c ns ds)) => some (c, ns, ds)
  | _ => none
theorem e_oo (env : Tw.Env) (i : Nat) : ownOAt env i = ooR env[i]? := by
  unfold ownOAt ooR
  cases env[i]? with
  | none => rfl
  | some o => cases o with
    | none => rfl
    | some d => cases d with
      | obj m c ns xs => cases m <;> rfl
      | _ => rfl
theorem e_ooR (c : Nat) (ns : List Str) (ds : List D) : ooR (some (some (.obj true c ns ds))) = some (c, ns, ds) := (rfl)
/-! values -/
theorem e_bok {α β : Type} (a : α) (e : Tw.Env) (k : α → Tw.Env → Rs β) : Rs.bind (.ok a e) k = k a e := (rfl)
theorem e_sbok {α : Type} (a : α) (e : Tw.Env) (k : α → Tw.Env → Out) : sBind (.ok a e) k = k a e := (rfl)
theorem tru_non : D.tru .non = some false := (rfl)
theorem tru_bl (b : Bool) : D.tru (.bl b) = some b := (rfl)
theorem tru_int (i : Int) : D.tru (.int i) = some (i != 0) := (rfl)
theorem tru_tup (xs : List D) : D.tru (.tup xs) = some (!xs.isEmpty) := (rfl)
theorem tru_lst (m : Bool) (xs : List D) : D.tru (.lst m xs) = some (!xs.isEmpty) := (rfl)
theorem asI_int (i : Int) : D.asI (.int i) = some i := (rfl)
theorem ints_nil : D.ints [] = some [] := (rfl)
theorem ints_cons (d : D) (ds : List D) : D.ints (d :: ds) = (D.asI d).bind fun i => (D.ints ds).map (i :: ·) := (rfl)
theorem items_lst (m : Bool) (xs : List D) : D.items (.lst m xs) = if D.oks xs then some xs else none := (rfl)
theorem items_str (x : Str) : D.items (.str x) = some (signs x) := (rfl)
theorem items_tup (xs : List D) : D.items (.tup xs) = if D.oks xs then some xs else none := (rfl)
theorem seqK_lst (m : Bool) (xs : List D) : D.seqK (.lst m xs) = if D.oks xs then some (false, xs) else none := (rfl)
theorem seqK_tup (xs : List D) : D.seqK (.tup xs) = if D.oks xs then some (true, xs) else none := (rfl)
theorem isN_int (i : Int) : gIsN [.int i, .non] = some (.bl false) := (rfl)
theorem isN_non : gIsN [.non, .non] = some (.bl true) := (rfl)
theorem isN_tup (xs : List D) : gIsN [.tup xs, .non] = some (.bl false) := (rfl)
theorem notN_int (i : Int) : gNotN [.int i, .non] = some (.bl true) := (rfl)
theorem notN_non : gNotN [.non, .non] = some (.bl false) := (rfl)
theorem notN_tup (xs : List D) : gNotN [.tup xs, .non] = some (.bl true) := (rfl)
theorem mul_int (i j : Int) : gMul [.int i, .int j] = if CMul i j then some (.int (i * j)) else none := (rfl)
theorem add_int (i j : Int) : gAdd [.int i, .int j] = some (.int (i + j)) := (rfl)
theorem sub_int (i j : Int) : Tw.gSub [.int i, .int j] = some (.int (i - j)) := (rfl)
theorem fdiv_int (i j : Int) : gFdiv [.int i, .int j] = if CDivN i j then some (.int (i.fdiv j)) else none := (rfl)
theorem mod_int (i j : Int) : gMod [.int i, .int j] = if j ≠ 0 then some (.int (i.fmod j)) else none := (rfl)
theorem pow_int (i j : Int) : gPow [.int i, .int j] = if CPow i j then some (.int (i ^ j.toNat)) else none := (rfl)
theorem lt_str (i j : Str) : gLt [.str i, .str j] = some (.bl (sLt i j)) := (rfl)
theorem le_str (i j : Str) : gLe [.str i, .str j] = some (.bl (!sLt j i)) := (rfl)
theorem lt_int (i j : Int) : gLt [.int i, .int j] = some (.bl (decide (i < j))) := (rfl)
theorem le_int (i j : Int) : gLe [.int i, .int j] = some (.bl (decide (i ≤ j))) := (rfl)
theorem gt_int (i j : Int) : gGt [.int i, .int j] = some (.bl (decide (j < i))) := (rfl)
theorem ge_int (i j : Int) : gGe [.int i, .int j] = some (.bl (decide (j ≤ i))) := (rfl)
theorem neg_int (i : Int) : gNeg [.int i] = some (.int (-i)) := (rfl)
theorem imul_int (i j : Int) : gIMul [.int i, .int j] = if CMul i j then some (.int (i * j)) else none := (rfl)
theorem iadd_int (i j : Int) : gIAdd [.int i, .int j] = some (.int (i + j)) := (rfl)
theorem len_lst (m : Bool) (xs : List D) : gLen [.lst m xs] = some (.int xs.length) := (rfl)
theorem len_tup (xs : List D) : gLen [.tup xs] = some (.int xs.length) := (rfl)
theorem ix_lst (m : Bool) (xs : List D) (i : Int) : gIx [.lst m xs, .int i] = (atI xs i).bind fun d => if D.oks xs then some d else none := (rfl)
theorem ix_tup (xs : List D) (i : Int) : gIx [.tup xs, .int i] = (atI xs i).bind fun d => if D.oks xs then some d else none := (rfl)
theorem tuple_lst (m : Bool) (xs : List D) : gTuple [.lst m xs] = if D.oks xs then some (.tup xs) else none := (rfl)
theorem tuple_tup (xs : List D) : gTuple [.tup xs] = if D.oks xs then some (.tup xs) else none := (rfl)
theorem list_lst (m : Bool) (xs : List D) : gList [.lst m xs] = if D.oks xs then some (.lst true xs) else none := (rfl)
theorem list_scr (ns : List Int) : gList [.scr ns] = some (.lst true (ns.map .int)) := (rfl)
theorem list_tup (xs : List D) : gList [.tup xs] = if D.oks xs then some (.lst true xs) else none := (rfl)
theorem abs_int (i : Int) : gAbs [.int i] = some (.int (if i < 0 then -i else i)) := (rfl)
theorem intC_int (i : Int) : gIntC [.int i] = some (.int i) := (rfl)
theorem intC_bl (k : Bool) : gIntC [.bl k] = some (.int (if k then 1 else 0)) := (rfl)
theorem all_lst (m : Bool) (xs : List D) : gAll [.lst m xs] = (D.bools xs).map fun bs => .bl (bs.all id) := (rfl)
theorem any_lst (m : Bool) (xs : List D) : gAny [.lst m xs] = (D.bools xs).map fun bs => .bl (bs.any id) := (rfl)
theorem isi_2 (isa : Tg → Tg → Option Bool) (a b : D) : gIsi isa [a, b] = (D.tag a).bind fun t => (D.asT b).bind fun u => (isa t u).map .bl := (rfl)
theorem tag_non : D.tag .non = some (.ty "NoneType") := (rfl)
theorem tag_bl (b : Bool) : D.tag (.bl b) = some (.ty "bool") := (rfl)
theorem tag_int (i : Int) : D.tag (.int i) = some (.ty "int") := (rfl)
theorem tag_str (x : Str) : D.tag (.str x) = some (.ty "str") := (rfl)
theorem tag_tup (xs : List D) : D.tag (.tup xs) = some (.ty "tuple") := (rfl)
theorem tag_lst (m : Bool) (xs : List D) : D.tag (.lst m xs) = some (.ty "list") := (rfl)
theorem tag_obj (m : Bool) (c : Nat) (ns : List Str) (ds : List D) : D.tag (.obj m c ns ds) = some (.cl c) := (rfl)
theorem asT_ty (n : String) : D.asT (.ty n) = some (.ty n) := (rfl)
theorem asT_cl (c : Nat) : D.asT (.cl c) = some (.cl c) := (rfl)
theorem frz_int (i : Int) : D.frz (.int i) = .int i := (rfl)
theorem frz_bl (b : Bool) : D.frz (.bl b) = .bl b := (rfl)
theorem frz_non : D.frz .non = .non := (rfl)
theorem frz_ty (n : String) : D.frz (.ty n) = .ty n := (rfl)
theorem frz_cl (n : Nat) : D.frz (.cl n) = .cl n := (rfl)
theorem frz_scr (ns : List Int) : D.frz (.scr ns) = .scr ns := (rfl)
theorem frz_tup (xs : List D) : D.frz (.tup xs) = .tup (D.frzs xs) := (rfl)
theorem frz_lst (m : Bool) (xs : List D) : D.frz (.lst m xs) = .lst false (D.frzs xs) := (rfl)
theorem frz_obj (m : Bool) (c : Nat) (ns : List Str) (xs : List D) : D.frz (.obj m c ns xs) = .obj false c ns (D.frzs xs) := (rfl)
theorem frzs_nil : D.frzs [] = [] := (rfl)
theorem frzs_cons (d : D) (ds : List D) : D.frzs (d :: ds) = D.frz d :: D.frzs ds := (rfl)
theorem ok_int (i : Int) : D.ok (.int i) = true := (rfl)
theorem ok_bl (b : Bool) : D.ok (.bl b) = true := (rfl)
theorem ok_non : D.ok .non = true := (rfl)
theorem ok_tup (xs : List D) : D.ok (.tup xs) = D.oks xs := (rfl)
theorem ok_lst (xs : List D) : D.ok (.lst false xs) = D.oks xs := by simp [D.ok]
theorem ok_obj (c : Nat) (ns : List Str) (xs : List D) : D.ok (.obj false c ns xs) = D.oks xs := by simp [D.ok]
theorem doks_nil : D.oks [] = true := (rfl)
theorem doks_cons (d : D) (ds : List D) : D.oks (d :: ds) = (D.ok d && D.oks ds) := (rfl)
theorem sl_scr (ns : List Int) (lo hi : Option Int) : gSl (.scr ns) lo hi = some (.lst true ((cutD ns lo hi).map .int)) := (rfl)
theorem sl_lst (m : Bool) (xs : List D) (lo hi : Option Int) : gSl (.lst m xs) lo hi = if D.oks xs then some (.lst true (cutD xs lo hi)) else none := (rfl)
theorem sl_tup (xs : List D) (lo hi : Option Int) : gSl (.tup xs) lo hi = if D.oks xs then some (.tup (cutD xs lo hi)) else none := (rfl)
theorem rev_lst (m : Bool) (xs : List D) : gRev (.lst m xs) = if D.oks xs then some (.lst true xs.reverse) else none := (rfl)
theorem rev_tup (xs : List D) : gRev (.tup xs) = if D.oks xs then some (.tup xs.reverse) else none := (rfl)
theorem eq_2 (a b : D) : gEq [a, b] = (D.py a).bind fun p => (D.py b).bind fun q => if SeqAt.shaped p && SeqAt.shaped q then some (.bl (PyData.eqv p q)) else none := (rfl)
theorem ne_2 (a b : D) : gNe [a, b] = (D.py a).bind fun p => (D.py b).bind fun q => if SeqAt.shaped p && SeqAt.shaped q then some (.bl (!PyData.eqv p q)) else none := (rfl)
theorem eq_int (i j : Int) : gEq [.int i, .int j] = some (.bl (decide (i = j))) := by
  show (if (SeqAt.shaped (.int i) && SeqAt.shaped (.int j)) = true then some (D.bl (PyData.eqv (.int i) (.int j))) else none) = _
  have h : ∀ i, SeqAt.shaped (PyData.int i) = true := fun i => rfl
  rw [h, h, Bool.and_self, if_pos rfl]
  rfl
theorem ne_int (i j : Int) : gNe [.int i, .int j] = some (.bl (!decide (i = j))) := by
  show (if (SeqAt.shaped (.int i) && SeqAt.shaped (.int j)) = true then some (D.bl (!PyData.eqv (.int i) (.int j))) else none) = _
  have h : ∀ i, SeqAt.shaped (PyData.int i) = true := fun i => rfl
  rw [h, h, Bool.and_self, if_pos rfl]
  rfl
/-- a tuple of whole numbers -/
def tII (ns : List Int) : D := .tup (ns.map .int)
theorem oks_int (ns : List Int) : D.oks (ns.map .int) = true := by
  rw [D.oks_iff]; intro d h; obtain ⟨i, _, rfl⟩ := List.mem_map.mp h; rfl
theorem frzs_int (ns : List Int) : D.frzs (ns.map .int) = ns.map .int := D.frzs_ok (oks_int ns)
theorem ok_tI (ns : List Int) : D.ok (D.tup (ns.map .int)) = true := oks_int ns
theorem frz_tI (ns : List Int) : D.frz (.tup (ns.map .int)) = .tup (ns.map .int) := D.frz_ok (ok_tI ns)
theorem oks_tI (ls : List (List Int)) : D.oks (ls.map fun ns => .tup (ns.map .int)) = true := by
  rw [D.oks_iff]; intro d h; obtain ⟨i, _, rfl⟩ := List.mem_map.mp h; exact ok_tI i
end Tw
noncomputable section
namespace Tw
open PySem PySem.Spec PyProof.Rows L2
/-! ### loops and comprehensions, reckoned -/
def fgS (bd : Bd) (body : Sv) (ds : List D) : Out → Out
  | .next env2 => forGo bd body ds env2
  | .cont env2 => forGo bd body ds env2
  | .brk env2 => .next env2
  | o => o
theorem e_fgN (bd : Bd) (body : Sv) (ds : List D) (env : Tw.Env) : fgS bd body ds (.next env) = forGo bd body ds env := (rfl)
theorem e_fgC (bd : Bd) (body : Sv) (ds : List D) (env : Tw.Env) : fgS bd body ds (.cont env) = forGo bd body ds env := (rfl)
theorem e_fgB (bd : Bd) (body : Sv) (ds : List D) (env : Tw.Env) : fgS bd body ds (.brk env) = .next env := (rfl)
theorem e_fgRt (bd : Bd) (body : Sv) (ds : List D) (d : D) (env : Tw.Env) : fgS bd body ds (.ret d env) = .ret d env := (rfl)
def fgR (bd : Bd) (body : Sv) (ds : List D) : Option Tw.Env → Out
  | some env1 => fgS bd body ds (body env1)
  | none => .stuck
theorem e_fgR (bd : Bd) (body : Sv) (ds : List D) (env : Tw.Env) : fgR bd body ds (some env) = fgS bd body ds (body env) := (rfl)
theorem e_for0 (bd : Bd) (body : Sv) (env : Tw.Env) : forGo bd body [] env = .next env := (rfl)
theorem e_for1 (bd : Bd) (body : Sv) (d : D) (ds : List D) (env : Tw.Env) : forGo bd body (d :: ds) env = fgR bd body ds (bd d env) := by
  show (match bd d env with | none => _ | some env1 => _) = _
  cases bd d env with
  | none => rfl
  | some env1 =>
    show (match body env1 with | .next env2 => _ | .cont env2 => _ | .brk env2 => _ | o => o) = fgS bd body ds (body env1)
    cases body env1 <;> rfl
theorem for_ind {α : Type} {bd : Bd} {body : Sv} {g : α → D} (I : Nat → Tw.Env → Prop) : ∀ (xs : List α) (n : Nat) (env : Tw.Env), I n env →
    (∀ i x env, xs[i]? = some x → I (n + i) env → ∃ env2, I (n + i + 1) env2 ∧ ∀ ds, forGo bd body (g x :: ds) env = forGo bd body ds env2) → ∃ env', I (n + xs.length) env' ∧ forGo bd body (xs.map g) env = .next env'
  | [], n, env, h0, _ => ⟨env, h0, rfl⟩
  | x :: xs, n, env, h0, h => by
    obtain ⟨env2, h1, e⟩ := h 0 x env rfl h0
    obtain ⟨env', h2, e2⟩ := for_ind I xs (n + 1) env2 h1 fun i y env3 hi hI => by
      obtain ⟨env4, h5, e5⟩ := h (i + 1) y env3 hi (by rw [show n + (i + 1) = n + 1 + i by omega]; exact hI)
      exact ⟨env4, by rw [show n + 1 + i + 1 = n + (i + 1) + 1 by omega]; exact h5, e5⟩
    refine ⟨env', by rw [List.length_cons, show n + (xs.length + 1) = n + 1 + xs.length by omega]; exact h2, ?_⟩
    rw [List.map_cons, e, e2]
/-- a loop whose each turn takes a state on -/
theorem for_fold {α β : Type} {bd : Bd} {body : Sv} {g : α → D} (E : β → Tw.Env → Prop) (step : β → α → β) (xs : List α) (b : β) (env : Tw.Env) (h0 : E b env)
    (h : ∀ x ∈ xs, ∀ b env, E b env → ∃ env2, E (step b x) env2 ∧ ∀ ds, forGo bd body (g x :: ds) env = forGo bd body ds env2) : ∃ env', E (xs.foldl step b) env' ∧ forGo bd body (xs.map g) env = .next env' := by
  induction xs generalizing b env with
  | nil => exact ⟨env, h0, rfl⟩
  | cons x xs ih =>
    obtain ⟨env2, h1, e⟩ := h x List.mem_cons_self b env h0
    obtain ⟨env', h2, e2⟩ := ih _ env2 h1 fun y hy => h y (List.mem_cons_of_mem _ hy)
    exact ⟨env', h2, by rw [List.map_cons, e, e2]⟩
/-- a loop that keeps a promise -/
theorem for_keep {α : Type} {bd : Bd} {body : Sv} {g : α → D} (E : Tw.Env → Prop) (xs : List α) (env : Tw.Env) (h0 : E env)
    (h : ∀ x ∈ xs, ∀ env, E env → ∃ env2, E env2 ∧ ∀ ds, forGo bd body (g x :: ds) env = forGo bd body ds env2) : ∃ env', E env' ∧ forGo bd body (xs.map g) env = .next env' := by
  obtain ⟨env', h1, h2⟩ := for_fold (β := Unit) (fun _ => E) (fun _ _ => ()) xs () env h0 fun x hx _ e he => h x hx e he
  exact ⟨env', h1, h2⟩
def cgF (vs : List Nat) (b : Bd) (t : EvB) (f : Ev) (ds acc : List D) : D → Tw.Env → Rs (List D) := fun y env3 => compGo vs b t f ds (acc ++ [y]) (wipeE env3 vs)
theorem e_cgF (vs : List Nat) (b : Bd) (t : EvB) (f : Ev) (ds acc : List D) (y : D) (env3 : Tw.Env) : cgF vs b t f ds acc y env3 = compGo vs b t f ds (acc ++ [y]) (wipeE env3 vs) := (rfl)
def cgT (vs : List Nat) (b : Bd) (t : EvB) (f : Ev) (ds acc : List D) : Bool → Tw.Env → Rs (List D) := fun k env2 => if k = true then (f env2).ne.bind (cgF vs b t f ds acc) else compGo vs b t f ds acc (wipeE env2 vs)
theorem e_cgT (vs : List Nat) (b : Bd) (t : EvB) (f : Ev) (ds acc : List D) (k : Bool) (env2 : Tw.Env) : cgT vs b t f ds acc k env2 = if k = true then (f env2).ne.bind (cgF vs b t f ds acc) else compGo vs b t f ds acc (wipeE env2 vs) := (rfl)
def cgR (vs : List Nat) (b : Bd) (t : EvB) (f : Ev) (ds acc : List D) : Option Tw.Env → Rs (List D)
  | some env1 => (t env1).ne.bind (cgT vs b t f ds acc)
  | none => .stuck
theorem e_cgR (vs : List Nat) (b : Bd) (t : EvB) (f : Ev) (ds acc : List D) (env1 : Tw.Env) : cgR vs b t f ds acc (some env1) = (t env1).ne.bind (cgT vs b t f ds acc) := (rfl)
theorem e_neo {α : Type} (a : α) (env : Tw.Env) : (Rs.ok a env).ne = .ok a env := (rfl)
theorem e_cg0 (vs : List Nat) (b : Bd) (t : EvB) (f : Ev) (acc : List D) (env : Tw.Env) : compGo vs b t f [] acc env = .ok acc env := (rfl)
theorem e_cg1 (vs : List Nat) (b : Bd) (t : EvB) (f : Ev) (d : D) (ds acc : List D) (env : Tw.Env) : compGo vs b t f (d :: ds) acc env = cgR vs b t f ds acc (b d env) := by
  show (match b d env with | none => _ | some env1 => _) = _
  cases b d env <;> rfl
theorem comp_map {α : Type} {vs : List Nat} {b : Bd} {t : EvB} {f : Ev} {g : α → D} {env : Tw.Env} (y : α → List D) : ∀ (xs : List α) (acc : List D), (∀ x ∈ xs, ∀ ds acc, compGo vs b t f (g x :: ds) acc env = compGo vs b t f ds (acc ++ y x) env) → compGo vs b t f (xs.map g) acc env = .ok (acc ++ xs.flatMap y) env
  | [], acc, _ => by simp [compGo]
  | x :: xs, acc, h => by
    rw [List.map_cons, h x List.mem_cons_self, comp_map y xs _ fun z hz => h z (List.mem_cons_of_mem _ hz), List.flatMap_cons, List.append_assoc]
theorem comp_map1 {α : Type} {vs : List Nat} {b : Bd} {t : EvB} {f : Ev} {g : α → D} {env : Tw.Env} (y : α → D) (xs : List α) (h : ∀ x ∈ xs, ∀ ds acc, compGo vs b t f (g x :: ds) acc env = compGo vs b t f ds (acc ++ [y x]) env) : compGo vs b t f (xs.map g) [] env = .ok (xs.map y) env := by
  rw [comp_map (fun x => [y x]) xs [] h, List.nil_append]
  congr 1
  induction xs with
  | nil => rfl
  | cons x xs ih => rw [List.flatMap_cons, ih fun z hz => h z (List.mem_cons_of_mem _ hz)]; rfl
def c2A (vs vs1 : List Nat) (b : Bd) (t : EvB) (fi1 : Tw.Env → Rs (List D)) (b1 : Bd) (t1 : EvB) (f : Ev) (ds : List D) : List D → Tw.Env → Rs (List D) := fun acc2 env4 => comp2Go vs vs1 b t fi1 b1 t1 f ds acc2 (wipeE env4 vs)
theorem e_c2A (vs vs1 : List Nat) (b : Bd) (t : EvB) (fi1 : Tw.Env → Rs (List D)) (b1 : Bd) (t1 : EvB) (f : Ev) (ds acc2 : List D) (env4 : Tw.Env) : c2A vs vs1 b t fi1 b1 t1 f ds acc2 env4 = comp2Go vs vs1 b t fi1 b1 t1 f ds acc2 (wipeE env4 vs) := (rfl)
def c2I (vs vs1 : List Nat) (b : Bd) (t : EvB) (fi1 : Tw.Env → Rs (List D)) (b1 : Bd) (t1 : EvB) (f : Ev) (ds acc : List D) : List D → Tw.Env → Rs (List D) := fun items1 env3 => if lenOk (acc.length + items1.length) then (compGo vs1 b1 t1 f items1 acc (wipeE env3 vs1)).bind (c2A vs vs1 b t fi1 b1 t1 f ds) else .stuck
theorem e_c2I (vs vs1 : List Nat) (b : Bd) (t : EvB) (fi1 : Tw.Env → Rs (List D)) (b1 : Bd) (t1 : EvB) (f : Ev) (ds acc items1 : List D) (env3 : Tw.Env) : c2I vs vs1 b t fi1 b1 t1 f ds acc items1 env3 = if lenOk (acc.length + items1.length) then (compGo vs1 b1 t1 f items1 acc (wipeE env3 vs1)).bind (c2A vs vs1 b t fi1 b1 t1 f ds) else .stuck := (rfl)
def c2T (vs vs1 : List Nat) (b : Bd) (t : EvB) (fi1 : Tw.Env → Rs (List D)) (b1 : Bd) (t1 : EvB) (f : Ev) (ds acc : List D) : Bool → Tw.Env → Rs (List D) := fun k env2 => if k = true then (fi1 env2).ne.bind (c2I vs vs1 b t fi1 b1 t1 f ds acc) else comp2Go vs vs1 b t fi1 b1 t1 f ds acc (wipeE env2 vs)
theorem e_c2T (vs vs1 : List Nat) (b : Bd) (t : EvB) (fi1 : Tw.Env → Rs (List D)) (b1 : Bd) (t1 : EvB) (f : Ev) (ds acc : List D) (k : Bool) (env2 : Tw.Env) : c2T vs vs1 b t fi1 b1 t1 f ds acc k env2 = if k = true then (fi1 env2).ne.bind (c2I vs vs1 b t fi1 b1 t1 f ds acc) else comp2Go vs vs1 b t fi1 b1 t1 f ds acc (wipeE env2 vs) := (rfl)
def c2R (vs vs1 : List Nat) (b : Bd) (t : EvB) (fi1 : Tw.Env → Rs (List D)) (b1 : Bd) (t1 : EvB) (f : Ev) (ds acc : List D) : Option Tw.Env → Rs (List D)
  | some env1 => (t env1).ne.bind (c2T vs vs1 b t fi1 b1 t1 f ds acc)
  | none => .stuck
theorem e_c2R (vs vs1 : List Nat) (b : Bd) (t : EvB) (fi1 : Tw.Env → Rs (List D)) (b1 : Bd) (t1 : EvB) (f : Ev) (ds acc : List D) (env1 : Tw.Env) : c2R vs vs1 b t fi1 b1 t1 f ds acc (some env1) = (t env1).ne.bind (c2T vs vs1 b t fi1 b1 t1 f ds acc) := (rfl)
theorem e_c20 (vs vs1 : List Nat) (b : Bd) (t : EvB) (fi1 : Tw.Env → Rs (List D)) (b1 : Bd) (t1 : EvB) (f : Ev) (acc : List D) (env : Tw.Env) : comp2Go vs vs1 b t fi1 b1 t1 f [] acc env = .ok acc env := (rfl)
theorem e_c21 (vs vs1 : List Nat) (b : Bd) (t : EvB) (fi1 : Tw.Env → Rs (List D)) (b1 : Bd) (t1 : EvB) (f : Ev) (d : D) (ds acc : List D) (env : Tw.Env) : comp2Go vs vs1 b t fi1 b1 t1 f (d :: ds) acc env = c2R vs vs1 b t fi1 b1 t1 f ds acc (b d env) := by
  show (match b d env with | none => _ | some env1 => _) = _
  cases b d env <;> rfl
theorem lenOk_of {n : Nat} (h : n ≤ 16777216) : lenOk n = true := by
  unfold lenOk
  rw [sizeLine_eq]
  exact decide_eq_true h
/-! reckoning -/
theorem cm_lit (i j : Int) (h : -(2 ^ 64) < j ∧ j < 2 ^ 64) : CMul i j := .inr h
theorem cm_left (i j : Int) (h : -(2 ^ 64) < i ∧ i < 2 ^ 64) : CMul i j := .inl h
theorem cm_fm1 (a j : Int) : CMul (a.fmod 2147483647) j := .inl (by
  have h1 := Int.fmod_nonneg_of_pos a (show (0 : Int) < 2147483647 by decide)
  have h2 := Int.fmod_lt_of_pos a (show (0 : Int) < 2147483647 by decide)
  omega)
theorem cd_lit (i j : Int) (h : j ≠ 0 ∧ j.natAbs < 1073741824) : CDivN i j := h
theorem ints_map (ns : List Int) : D.ints (ns.map .int) = some ns := by
  induction ns with
  | nil => rfl
  | cons n ns ih => rw [List.map_cons, Tw.ints_cons, ih]; rfl
theorem atI_map {ns : List Int} {i : Int} (h0 : 0 ≤ i) (h1 : i < ns.length) : atI (ns.map D.int) i = some (.int (ns.getD i.toNat 0)) := by
  have hl : i.toNat < ns.length := by omega
  unfold atI ixN
  rw [List.length_map, if_pos h0, if_pos h1, Option.bind_some, List.getElem?_map, List.getElem?_eq_getElem hl, List.getD_eq_getElem?_getD, List.getElem?_eq_getElem hl]
  rfl
theorem at5_0 (a b c d e : D) : atI [a, b, c, d, e] 0 = some a := (rfl)
theorem at5_1 (a b c d e : D) : atI [a, b, c, d, e] 1 = some b := (rfl)
theorem at5_2 (a b c d e : D) : atI [a, b, c, d, e] 2 = some c := (rfl)
theorem at5_3 (a b c d e : D) : atI [a, b, c, d, e] 3 = some d := (rfl)
theorem at5_4 (a b c d e : D) : atI [a, b, c, d, e] 4 = some e := (rfl)
theorem ix5_1 : ixN 5 1 = some 1 := (rfl)
theorem ix5_2 : ixN 5 2 = some 2 := (rfl)
theorem ix5_3 : ixN 5 3 = some 3 := (rfl)
theorem ix5_4 : ixN 5 4 = some 4 := (rfl)
end Tw
noncomputable section
namespace Tw
open PySem PySem.Spec PyProof.Rows L2
/-! ### what is compared -/
theorem lay_all : ∀ {ps : List PyData}, (∀ p ∈ ps, p.canLay0 = true) → PyData.canLayAll0 ps = true
  | [], _ => by simp [PyData.canLayAll0]
  | p :: ps, h => by
    rw [PyData.canLayAll0, h p List.mem_cons_self, lay_all fun q hq => h q (List.mem_cons_of_mem _ hq)]
    rfl
theorem depth_all {n : Nat} : ∀ {ps : List PyData}, (∀ p ∈ ps, p.depth ≤ n) → PyData.depthAll ps ≤ n
  | [], _ => by simp [PyData.depthAll]
  | p :: ps, h => by
    rw [PyData.depthAll]
    exact Nat.max_le.mpr ⟨h p List.mem_cons_self, depth_all fun q hq => h q (List.mem_cons_of_mem _ hq)⟩
/-- data of depth n at most, all its leaves whole numbers -/
def Num : Nat → D → Prop
  | 0, d => ∃ i, d = .int i
  | n + 1, d => (∃ i, d = .int i) ∨ (∃ xs, d = .tup xs ∧ ∀ x ∈ xs, Num n x) ∨ ∃ m xs, d = .lst m xs ∧ ∀ x ∈ xs, Num n x
theorem num_py : ∀ {n : Nat} {d : D}, Num n d → ∃ p, D.py d = some p ∧ p.canLay0 = true ∧ p.depth ≤ n + 1
  | 0, d, h => by obtain ⟨i, rfl⟩ := h; exact ⟨.int i, rfl, rfl, by simp [PyData.depth]⟩
  | n + 1, d, h => by
    have key : ∀ xs : List D, (∀ x ∈ xs, Num n x) → ∃ ps, D.pys xs = some ps ∧ (∀ p ∈ ps, p.canLay0 = true) ∧ ∀ p ∈ ps, p.depth ≤ n + 1 := by
      intro xs
      induction xs with
      | nil => intro _; exact ⟨[], rfl, by simp, by simp⟩
      | cons x xs ih =>
        intro hx
        obtain ⟨p, e, c, dp⟩ := num_py (hx x List.mem_cons_self)
        obtain ⟨ps, e2, c2, d2⟩ := ih fun y hy => hx y (List.mem_cons_of_mem _ hy)
        refine ⟨p :: ps, by rw [D.pys, e, e2]; rfl, fun q hq => ?_, fun q hq => ?_⟩
        · rcases List.mem_cons.mp hq with rfl | hq
          · exact c
          · exact c2 q hq
        · rcases List.mem_cons.mp hq with rfl | hq
          · exact dp
          · exact d2 q hq
    rcases h with ⟨i, rfl⟩ | ⟨xs, rfl, hx⟩ | ⟨m, xs, rfl, hx⟩
    · exact ⟨.int i, rfl, rfl, by simp [PyData.depth]⟩
    · obtain ⟨ps, e, c, dp⟩ := key xs hx
      refine ⟨.tuple ps, by rw [D.py, e]; rfl, by rw [PyData.canLay0]; exact lay_all c, ?_⟩
      rw [PyData.depth]
      have := depth_all dp
      omega
    · obtain ⟨ps, e, c, dp⟩ := key xs hx
      refine ⟨.list ps, by rw [D.py, e]; rfl, by rw [PyData.canLay0]; exact lay_all c, ?_⟩
      rw [PyData.depth]
      have := depth_all dp
      omega
theorem num_int (n : Nat) (i : Int) : Num n (.int i) := by
  cases n
  · exact ⟨i, rfl⟩
  · exact .inl ⟨i, rfl⟩
theorem num_tup {n : Nat} {xs : List D} (h : ∀ x ∈ xs, Num n x) : Num (n + 1) (.tup xs) := .inr (.inl ⟨xs, rfl, h⟩)
theorem num_ints {n : Nat} (ns : List Int) : ∀ x ∈ ns.map D.int, Num n x := fun x hx => by obtain ⟨i, _, rfl⟩ := List.mem_map.mp hx; exact num_int n i
/-- rows of whole numbers -/
def rows (ls : List (List Int)) : List D := ls.map fun ns => .tup (ns.map .int)
theorem rows_len (ls : List (List Int)) : (rows ls).length = ls.length := List.length_map _
theorem oks_rows (ls : List (List Int)) : D.oks (rows ls) = true := oks_tI ls
theorem frzs_rows (ls : List (List Int)) : D.frzs (rows ls) = rows ls := D.frzs_ok (oks_rows ls)
theorem rows_app (a b : List (List Int)) : rows (a ++ b) = rows a ++ rows b := List.map_append
theorem add_tup (xs ys : List D) : gAdd [.tup xs, .tup ys] = if D.oks xs && D.oks ys && lenOk (xs.length + ys.length) then some (.tup (xs ++ ys)) else none := (rfl)
theorem add_lst (m m' : Bool) (xs ys : List D) : gAdd [.lst m xs, .lst m' ys] = if D.oks xs && D.oks ys && lenOk (xs.length + ys.length) then some (.lst true (xs ++ ys)) else none := (rfl)
theorem rngOf_1 {j : Int} (h : -(2 ^ 62) ≤ j ∧ j < 2 ^ 62) : rngOf [j] = some (0, j.toNat) := if_pos (rngOk_iff.mpr h)
theorem rngD_0 (n : Nat) : rngD 0 n = (List.range n).map fun i : Nat => .int (i : Int) := by
  unfold rngD
  exact List.map_congr_left fun i _ => by rw [Int.zero_add]
theorem bools_mapP {α : Type} (p : α → Bool) : ∀ xs : List α, D.bools (xs.map fun x => .bl (p x)) = some (xs.map p)
  | [] => rfl
  | x :: xs => by rw [List.map_cons, D.bools, bools_mapP p xs]; rfl
end Tw
noncomputable section
namespace Tw
open PySem PySem.Spec PyProof.Rows L2
/-! ### a comprehension over a list that stays the def's own -/
section
variable {cl : Cl} {W : WX}
def fCompB (vs : List Nat) (i : Nat) (b : Bd) (t : EvB) (f : Ev) : Ev := fun env => match ownAt env i with
  | some items => if D.oks items && lenOk items.length then (compGo vs b t f items [] (wipeE (env.set i none) vs)).bind fun ds env2 => .ok (.lst true ds) (env2.set i (some (.lst true items))) else .stuck
  | none => .stuck
variable {X : Cx}
end
def k_cpB (i : Nat) (items : List D) : List D → Tw.Env → Rs D := fun ds env2 => .ok (.lst true ds) (env2.set i (some (.lst true items)))
theorem e_kcpB (i : Nat) (items ds : List D) (env2 : Tw.Env) : k_cpB i items ds env2 = .ok (.lst true ds) (env2.set i (some (.lst true items))) := (rfl)
def cpB (vs : List Nat) (i : Nat) (b : Bd) (t : EvB) (f : Ev) (env : Tw.Env) : Option (List D) → Rs D
  | some items => if D.oks items && lenOk items.length then (compGo vs b t f items [] (wipeE (env.set i none) vs)).bind (k_cpB i items) else .stuck
  | none => .stuck
theorem e_cpB (vs : List Nat) (i : Nat) (b : Bd) (t : EvB) (f : Ev) (env : Tw.Env) (items : List D) : cpB vs i b t f env (some items) = if D.oks items && lenOk items.length then (compGo vs b t f items [] (wipeE (env.set i none) vs)).bind (k_cpB i items) else .stuck := (rfl)
theorem e_compB (vs : List Nat) (i : Nat) (b : Bd) (t : EvB) (f : Ev) (env : Tw.Env) : fCompB vs i b t f env = cpB vs i b t f env (ownAt env i) := by
  unfold fCompB cpB
  cases ownAt env i <;> rfl
end Tw
noncomputable section
namespace Tw
open PySem PySem.Spec PyProof.Rows L2
/-! ### list(range(n)), tuple(range(n)), sorted of whole numbers, min and max of two -/
section
variable {X : Cx} {cl : Cl} {W : WX} {a : Expr} {pos p p2 q2 : Pos} {fa : Ev}
def rgN (d : D) : Option (List Int) := (D.asI d).bind fun n => if rngOk n && lenOk n.toNat then some ((List.range n.toNat).map fun i : Nat => (i : Int)) else none
def fLRg (tp : Bool) (f : Ev) : Ev := fun env => (f env).bind fun d env1 => match rgN d with
  | some ns => .ok (if tp then .tup (ns.map .int) else .lst true (ns.map .int)) env1
  | none => .stuck
theorem rgV_0 (n : Int) : rgV 0 n = ((List.range n.toNat).map fun i : Nat => (i : Int)).map V.int := by
  unfold rgV
  rw [Int.sub_zero, List.map_map]
  exact List.map_congr_left fun i _ => by show V.int (0 + (i : Int)) = V.int i; rw [Int.zero_add]
theorem rg_rel {K : PySem.W.Frag} {H : Hp} {d : D} {v : V} {κ : Tw.Env} {τ : S} {q : Addr} (ns : List Int) (r : Rel K cl H (some d :: κ) (some v :: τ)) (hq : H q = none) :
    Rel K cl (upd H q (.lst (ns.map V.int))) (some (.lst true (ns.map .int)) :: κ) (some (.ref q) :: τ) ∧ ∀ its, Rel K cl (upd H q (tupH its (ns.map V.int))) (some (.tup (ns.map .int)) :: κ) (some (.ref q) :: τ) := by
  obtain ⟨f, g, n, hh, hr⟩ := Rel.split (as := [d]) (vs := [v]) r rfl
  constructor
  · have z := newL n hh hr hq (ints_dats ns)
    exact (Rel.swap3 (A := [some (.lst true (ns.map .int))]) (X := [some (.ref q)]) (B := [some d]) (Y := [some v]) z rfl rfl).pop
  · intro its
    have z := newT (its := its) n hh hr hq (ints_dats ns)
    exact (Rel.swap3 (A := [some (.tup (ns.map .int))]) (X := [some (.ref q)]) (B := [some d]) (Y := [some v]) z rfl rfl).pop
theorem rgN_ok {d : D} {ns : List Int} {K : PySem.W.Frag} {H : Hp} {v : V} {κ : Tw.Env} {τ : S} (e : rgN d = some ns) (r : Rel K cl H (some d :: κ) (some v :: τ)) : ∃ n : Int, v = .int n ∧ RgOk 0 n ∧ rgV 0 n = ns.map V.int := by
  unfold rgN at e
  obtain ⟨n, e1, e2⟩ := Option.bind_eq_some_iff.mp e
  split at e2
  · rename_i c
    rw [Bool.and_eq_true] at c
    cases e2
    obtain ⟨M, f, hd⟩ := r.head
    have b := rngOk_iff.mp c.1
    have l := of_decide_eq_true c.2
    rw [sizeLine_eq] at l
    exact ⟨n, dat_asI hd e1, ⟨by omega, by omega, b.1, b.2, by rw [Int.sub_zero]; omega⟩, rgV_0 n⟩
  · cases e2
theorem j_listRg (hc : X.calm = true) (hm : X.mg "list" = none) (hm2 : X.mg "range" = none) (ha : PE X a (tE X.K cl W fa)) (hg : Gl X "list" := by rfl) (hg2 : Gl X "range" := by rfl) (na : starEach [a] X.env = (false, eval a X.env) :: starEach [] X.env := by rfl)
    (nb : starEach [.Call (.Name "range" p2) [a] [] q2] X.env = (false, eval (.Call (.Name "range" p2) [a] [] q2) X.env) :: starEach [] X.env := by rfl) : PE X (.Call (.Name "list" p) [.Call (.Name "range" p2) [a] [] q2] [] pos) (tE X.K cl W (fLRg false fa)) :=
  PE.imp (pe_listRg hc hg hm (prg_1 hg2 hm2 ha na) nb) fun σ H Q ⟨τ, κ, env, r, l, q⟩ => tE_bind r l q fun d env1 v H1 h1 r1 => by
    cases e : rgN d with
    | none => rw [e] at h1; exact h1.elim
    | some ns =>
      rw [e] at h1
      obtain ⟨n, ev, ok, es⟩ := rgN_ok e r1
      exact ⟨n, ev, ok, fun q hq => by rw [es]; exact h1 _ _ (rg_rel ns r1 hq).1⟩
def tTupRgF (te : S → Hp → (Int → Int → Hp → Prop) → Prop) : TE := fun σ H Q => te σ H fun a b H1 => RgOk a b ∧ ∀ q its, H1 q = none → Q (.ref q) (upd H1 q (tupH its (rgV a b)))
def lrR (tp : Bool) (env : Tw.Env) : Option (List Int) → Rs D
  | some ns => .ok (if tp then .tup (ns.map .int) else .lst true (ns.map .int)) env
  | none => .stuck
theorem e_lrR (tp : Bool) (env : Tw.Env) (ns : List Int) : lrR tp env (some ns) = .ok (if tp then .tup (ns.map .int) else .lst true (ns.map .int)) env := (rfl)
def k_lrg (tp : Bool) : D → Tw.Env → Rs D := fun d env1 => lrR tp env1 (rgN d)
theorem e_klrg (tp : Bool) (d : D) (env1 : Tw.Env) : k_lrg tp d env1 = lrR tp env1 (rgN d) := (rfl)
theorem e_lrg (tp : Bool) (f : Ev) (env : Tw.Env) : fLRg tp f env = (f env).bind (k_lrg tp) := by
  unfold fLRg
  refine congrArg _ (funext fun d => funext fun env1 => ?_)
  show _ = lrR tp env1 (rgN d)
  cases rgN d <;> rfl
/-! sorted -/
def gSorted : List D → Option D
  | [.lst _ xs] => (D.ints xs).map fun ns => .lst true ((ns.mergeSort fun a b => decide (a ≤ b)).map .int)
  | _ => none
theorem ints_of : ∀ {xs : List D} {ns : List Int}, D.ints xs = some ns → xs = ns.map .int
  | [], ns, e => by cases e; rfl
  | d :: ds, ns, e => by
    rw [Tw.ints_cons] at e
    obtain ⟨i, e1, e2⟩ := Option.bind_eq_some_iff.mp e
    obtain ⟨is, e3, rfl⟩ := Option.map_eq_some_iff.mp e2
    cases d with
    | int j => cases e1; rw [ints_of e3]; rfl
    | _ => cases e1
theorem sort_eq {ns ns' : List Int} (p : ns'.Perm ns) (s : ns'.Pairwise (· ≤ ·)) : ns' = ns.mergeSort fun a b => decide (a ≤ b) := by
  have h1 := List.mergeSort_perm ns fun a b => decide (a ≤ b)
  have h2 := List.pairwise_mergeSort (le := fun a b : Int => decide (a ≤ b)) (fun a b c h h' => by simp at h h' ⊢; omega) (fun a b => by simp; omega) ns
  refine List.Perm.eq_of_pairwise (le := (· ≤ ·)) (fun a b _ _ h h' => by omega) s (h2.imp fun h => of_decide_eq_true h) (p.trans h1.symm)
theorem sorted_lst (m : Bool) (xs : List D) : gSorted [.lst m xs] = (D.ints xs).map fun ns => .lst true ((ns.mergeSort fun a b => decide (a ≤ b)).map .int) := (rfl)
/-! min, max -/
def gMin2 : List D → Option D := gInt2 fun i j => some (.int (if j < i then j else i))
def gMax2 : List D → Option D := gInt2 fun i j => some (.int (if j > i then j else i))
theorem s_min2 {K : PySem.W.Frag} : OpS K cl (fun xs H Q => ∃ i j, xs = [.int i, .int j] ∧ Q (.int (if j < i then j else i)) H) gMin2 := fun as d vs H κ τ Q h l r q => by
  have z := (s_int20 (K := K) (cl := cl) (g := fun i j => V.int (if j < i then j else i)) fun _ _ _ _ => dint) as d vs H κ τ Q h l r q
  match vs, z with
  | [x, y], ⟨i, j, e1, e2, z⟩ => exact ⟨i, j, by rw [e1, e2], z⟩
theorem min_int (i j : Int) : gMin2 [.int i, .int j] = some (.int (if j < i then j else i)) := (rfl)
theorem max_int (i j : Int) : gMax2 [.int i, .int j] = some (.int (if j > i then j else i)) := (rfl)
end
end Tw
noncomputable section
namespace Tw
open PySem PySem.Spec PySem.Calls PyProof.Rows L2
/-! ### enumerate of a tuple -/
theorem meets_enumT {v : Value} {o : Obj} {H : Heap → Prop} (B : Begins v o H) :
    Meets (Builtin.«enumerate.__new__» ⟨[.type "enumerate", v], []⟩) (fun _ R s => H s.heap ∧
      R (.ok (.ret (.ref (s.heap.push o).objs.size))) { s with heap := (s.heap.push o).push { cls := .type "enumerate", data := .fields #[.none, .bool false, .ref s.heap.objs.size, rawInt 0, .none, .none] } }) :=
  .of_wp fun prog w A R s h => by
    obtain ⟨hp, g, d, tk, os⟩ := s; obtain ⟨h1, h⟩ := h
    have hsub := sub_enumerate
    have q1 : ∀ {A' : Around} {E : Value → Shared → Prop} {Q : Value → Shared → Prop}, Q (.ref hp.objs.size) ⟨hp.push o, g, d, tk, os⟩ → wpAny (model prog w) A' (pyIter v) Q E ⟨hp, g, d, tk, os⟩ :=
      fun q => B.iter prog w _ _ ⟨hp, g, d, tk, os⟩ _ h1 q
    wp_walk using q1
    refine wpAny_stack_any fun st => wpAny_pure ?_
    split
    · rename_i c _ _ _ _ _
      cases (c == Value.type "enumerate")
      · wp_walk using q1
        exact ⟨_, rfl, h⟩
      · wp_walk using q1
        exact ⟨_, rfl, h⟩
    · wp_walk using q1
      exact ⟨_, rfl, h⟩
theorem enum_beginsT {prog : Program} {w : World} {A : Around} {E : Value → Shared → Prop} {s : Shared} {v : Value} {o : Obj} {H : Heap → Prop} {Q : Value → Shared → Prop} (B : Begins v o H) (h1 : H s.heap)
    (h : ∀ h', IsEnum h' (s.heap.objs.size + 1) s.heap.objs.size 0 .none → h'.get? s.heap.objs.size = some o → h'.objs.size = s.heap.objs.size + 2 →
      (∀ b o, s.heap.get? b = some o → h'.get? b = some o) → Q (.ref (s.heap.objs.size + 1)) { s with heap := h' }) :
    wpAny (model prog w) A (call (.type "enumerate") [v]) Q E s := by
  refine callType_new F.called_enumerate (by decide) (F.typeCall_enumerate_1 _) (F.newCall_enumerate_1 _) (fun obj => F.args_object_init_2 obj _) F.entry_enumerate_new
    (meets_enumT B) ⟨h1, ?_⟩
  have hz : (s.heap.push o).objs.size = s.heap.objs.size + 1 := Heap.size_push ..
  show _ ∧ _
  rw [hz]
  have he : IsEnum ((s.heap.push o).push { cls := .type "enumerate", data := .fields #[.none, .bool false, .ref s.heap.objs.size, rawInt 0, .none, .none] }) (s.heap.objs.size + 1) s.heap.objs.size 0 .none := by
    have := Heap.get?_push_size (s.heap.push o) (o := { cls := .type "enumerate", data := .fields #[.none, .bool false, .ref s.heap.objs.size, rawInt 0, .none, .none] }) rfl
    rw [hz] at this; exact this
  refine ⟨⟨_, he, rfl⟩, h _ he (Heap.get?_push_of_some _ (Heap.get?_push_size _ B.free)) (by rw [Heap.size_push, hz]) fun b o x => Heap.get?_push_of_some _ (Heap.get?_push_of_some _ x)⟩
theorem wpAny_pyNext_enum_endT {prog : Program} {w : World} {A : Around} {E : Value → Shared → Prop} {s : Shared} {e it l : Addr} {i : Nat} {items : Array Value} {old : Value} {Q : Option Value → Shared → Prop} (hh : A.handled = none)
    (he : IsEnum s.heap e it i old) (hit : s.heap.IsTupleIter it l i) (hl : s.heap.IsTuple l items) (hx : items[i]? = none)
    (hQ : ∀ h', Heap.ExtBut it s.heap h' → Q none { s with heap := h' }) : wpAny (model prog w) A (pyNext (.ref e)) Q E s := by
  have hT : s.TypeIs (.ref e) "enumerate" := ⟨_, he, rfl⟩
  unfold pyNext
  refine wpAny_bind (wpAny_attempt (wpAny_callSpecial?_slot (name := Str.ofString "__next__") hT F.slot_enumerate_next
    (wpAny_call_entry F.slot_enumerate_next hT F.entry_enumerate_next ?_ (F.args_enumerate_next_1 _))))
  show wpAny _ _ (field (.ref e) 2 >>= _) _ _ _
  refine wpAny_bind (wpAny_field he rfl (x := .ref it) rfl ?_)
  refine wpAny_bind (wpAny_nextOf_tuple_end hh hit hl hx fun h' x he' hx' => ?_)
  obtain ⟨o, ho, hc⟩ := hx'
  refine wpAny_bind (wpAny_isInstance (T := "StopIteration") (b := true) ⟨o, ho, hc⟩ isSubtype_stop ?_)
  exact wpAny_pure (hQ _ he')
def IteT (K : PySem.W.Frag) (a : Addr) : It :=
  ⟨fun i H => ∃ (xs : List V) (x : V), SqT K H a xs ∧ xs[i]? = some x, fun i H v H' => ∃ T x, v = .ref T ∧ H T = none ∧ H' = upd H T (.tup [.int (i : Nat), x]) ∧ ∀ xs, SqT K H a xs → xs[i]? = some x, fun i H => ∃ xs : List V, SqT K H a xs ∧ xs.length ≤ i⟩
theorem turn_enumT {P : Program} {w : World} {K : PySem.W.Frag} {elts : List Expr} {kk : Nat} {tpos : Pos} (a e it : Addr) :
    Turn P w K (.Tuple elts kk tpos) (IteT K a) [e, it] e (fun i h => (∃ old, IsEnum h e it ((i : Nat) : Int) old) ∧ h.IsTupleIter it a i ∧ e ≠ it ∧ a ≠ it ∧ a ≠ e) where
  mem := by simp
  obj := fun i h st b hb => by
    obtain ⟨⟨old, he⟩, ⟨o, ho, hc, hd⟩, _⟩ := st
    have e' : b = e ∨ b = it := by simpa using hb
    rcases e' with z | z
    · rw [z]; exact ⟨_, he, fun v q => nomatch q⟩
    · rw [z]; exact ⟨o, ho, fun v q => by rw [hd] at q; cases q⟩
  keep := fun i h h' st k => let ⟨⟨old, he⟩, hi, hne⟩ := st; ⟨⟨old, k e (by simp) _ he⟩, hi.at fun o q => k it (by simp) o q, hne⟩
  item := by
    intro X hP hw hK hc i pins s σ H E I hf st hg
    subst hP hw hK
    obtain ⟨⟨old, he⟩, hit, hne, nai, nae⟩ := st
    obtain ⟨xs, x, hq, hx⟩ := hg
    obtain ⟨its, rv, p, hz⟩ := I.tuple hq
    obtain ⟨u, hu, ru⟩ := rv.get hx
    have hel : e < s.heap.objs.size := Heap.lt_size he
    have hil : it < s.heap.objs.size := by obtain ⟨_, q, _⟩ := hit; exact Heap.lt_size q
    have D := Draws.tuple (prog := X.prog) (w := X.w) (A := X.A.in1) (I.ok.hd hc) it a nai its.toArray
    have hlt : i < its.toArray.size := by
      have := (List.getElem?_eq_some_iff.mp hu).1
      simpa using this
    refine wpAny_pyNext_enum_itemD D he ⟨hit, p⟩ hlt hne (by simp; exact ⟨hne, fun z => nae z.symm⟩) fun x' h' tk px ho st' hT hsz hk => ?_
    have ex : x' = u := by
      have e2 : its.toArray[i]? = some x' := px
      rw [show its.toArray[i]? = some u by simpa using hu] at e2
      exact (Option.some.inj e2).symm
    subst ex
    obtain ⟨hit', _⟩ := st'
    refine ⟨_, rfl, wpAny_letOwnedTupleGo_enum (s := { s with heap := h', toks := tk + 1 }) ho fun h'' he' sb => ?_⟩
    have hT2 : h''.get? s.heap.objs.size = some { cls := .type "tuple", data := .seq #[.int i tk, x'] } := (sb.2 _ (Nat.ne_of_gt hel)).trans hT
    have new : ObjOk X.prog X.w (upd H s.heap.objs.size (.tup [.int (i : Nat), x])) h'' s.heap.objs.size (.tup [.int (i : Nat), x]) :=
      ⟨by show 2 ≤ sizeLine; decide, [.int i tk, x'], .cons ⟨_, rfl⟩ (.cons ru .nil), ⟨_, hT2, rfl, _, rfl⟩⟩
    have I1 : Inv X pins σ (upd H s.heap.objs.size (.tup [.int (i : Nat), x])) { s with heap := h'', toks := tk + 1 } :=
      I.turnedNew (ch := [e, it]) (fun b ob hb q => (sb.2 b (fun z => hb (by simp [z]))).trans (hk b ob (fun z => hb (by simp [z])) (fun z => hb (by simp [z])) q)) hf (Nat.le_refl _) new
    refine ⟨.ref s.heap.objs.size, _, I1, rfl, ⟨_, x, rfl, I.hok.fresh (Nat.le_refl _), rfl, fun ys hy => by rw [I.tuple_inj hy hq]; exact hx⟩, ⟨⟨x', ?_⟩, hit'.at fun o q => (sb.2 it (Ne.symm hne)).trans q, hne, nai, nae⟩, fun b hb => ?_⟩
    · have e1 : ((i + 1 : Nat) : Int) = (i : Int) + 1 := by omega
      rw [e1]; exact he'
    · have hb' : b < s.heap.objs.size := by
        have e' : b = e ∨ b = it := by simpa using hb
        rcases e' with z | z
        · rw [z]; exact hel
        · rw [z]; exact hil
      rw [upd_ne (Nat.ne_of_lt hb')]
      exact (hf b hb).1
  done := by
    intro X hP hw hK hc i pins s σ H E I hf st hg
    subst hP hw hK
    obtain ⟨⟨old, he⟩, hit, hne, nai, nae⟩ := st
    obtain ⟨xs, hq, hx⟩ := hg
    obtain ⟨its, rv, p, hz⟩ := I.tuple hq
    obtain ⟨f0, f1, f2, f3, f4, f5⟩ := hf it (by simp)
    have hl := rv.length
    exact wpAny_pyNext_enum_endT (I.ok.hd hc) he hit p (by simp; omega) fun h' eb => ⟨rfl, I.turned (t' := s.toks) (fun b o hb q => eb b o hb q) f0 f1 f3 f4 f5⟩
  self := fun A i s Q E st h => let ⟨⟨_, he⟩, _⟩ := st; wpAny_pyIter_enum he h
theorem pi_enumT {X : Cx} {e : Expr} {ta : TA} {p pos tpos : Pos} {elts : List Expr} {kk : Nat} (hg : Gl X "enumerate") (hm : X.mg "enumerate" = none) (ha : PA X [e] ta) (hs : starEach [e] X.env = [(false, eval e X.env)] := by rfl) :
    PI X (.Tuple elts kk tpos) (.Call (.Name "enumerate" p) [e] [] pos) (fun σ H R => ta σ H fun vs H1 => ∃ a xs, vs = [.ref a] ∧ SqT X.K H1 a xs ∧ R (IteT X.K a) H1) := by
  refine ⟨fun pins s σ H R I h => ?_⟩
  refine Call_ (ld_blt I hg hm boot_enumerate (PyProof.Rows.callWith_type1 (thn (ha.run pos pins s σ H _ I h) fun us s1 ⟨vs, H1, I1, r1, q1⟩ => ?_) hs rfl))
  obtain ⟨a, xs, ex, hq, q⟩ := q1
  subst ex
  cases r1 with
  | cons r rr =>
    cases rr
    cases r
    obtain ⟨its, rv, p', hz⟩ := I1.tuple hq
    have al : a < s1.heap.objs.size := by obtain ⟨o, ho, _⟩ := id p'; exact Heap.lt_size ho
    refine enum_beginsT (begins_tuple a its.toArray) p' fun h' he hit hsz hk => wpAny_pyIter_enum he ?_
    have I2 : Inv X pins σ H1 { s1 with heap := h' } := I1.kept (t' := s1.toks) hk
    refine ⟨s1.heap.objs.size + 1, [s1.heap.objs.size + 1, s1.heap.objs.size], _, _, H1, rfl, I2, turn_enumT a (s1.heap.objs.size + 1) s1.heap.objs.size, ⟨⟨.none, he⟩, ⟨_, hit, rfl, rfl⟩, Nat.succ_ne_self _, Nat.ne_of_lt al, Nat.ne_of_lt (Nat.lt_succ_of_lt al)⟩, fun b hb => ?_, q⟩
    have e' : b = s1.heap.objs.size + 1 ∨ b = s1.heap.objs.size := by simpa using hb
    have hle : s1.heap.objs.size ≤ b := by
      rcases e' with z | z
      · rw [z]; exact Nat.le_add_right _ _
      · rw [z]; exact Nat.le_refl _
    exact I1.fpOk hle (I1.hok.fresh hle)
/-! ### enumerate in the data layer -/
def enumD (xs : List D) : List D := xs.mapIdx fun i x => .pr [.int (i : Int), x]
def enumOf : List D → Option (Bool × List D)
  | [x] => D.seqK x
  | _ => none
def iEnum (os : List Ev) : Tw.Env → Rs (List D) := fun env => (evs (vals os) env).bind fun ds env1 => match enumOf ds with
  | some q => .ok (enumD q.2) env1
  | none => .stuck
theorem enumD_get {xs : List D} {i : Nat} {d : D} (h : (enumD xs)[i]? = some d) : ∃ x, xs[i]? = some x ∧ d = .pr [.int (i : Int), x] := by
  unfold enumD at h
  rw [List.getElem?_mapIdx] at h
  obtain ⟨x, e, rfl⟩ := Option.map_eq_some_iff.mp h
  exact ⟨x, e, rfl⟩
section
variable {X : Cx} {cl : Cl} {W : WX} {a : Expr} {pos p : Pos}
theorem iter_enum {K : PySem.W.Frag} {A : Addr} {x : D} {k : Bool} {xs : List D} (ex : D.seqK x = some (k, xs)) : IterD K cl (if k = true then IteT K A else Ite K A) (List.map some [x]) (List.map some [.ref A]) (enumD xs) := by
  have key : ∀ (H : Hp) (κ : Tw.Env) (τ : S), Rel K cl H (List.map some [x] ++ κ) (List.map some [.ref A] ++ τ) → ∃ f g us, (f ++ g).Nodup ∧ Dats K cl (· ∈ f ++ g) H [x] [.ref A] f ∧ Slots K cl (· ∈ f ++ g) H κ τ g ∧
      (k = false → H A = some (.lst us)) ∧ (k = true → SqT K H A us) ∧ Dats K cl (· ∈ f ++ g) H xs us [] := fun H κ τ r => by
    obtain ⟨f, g, n, hh, hr⟩ := r.split rfl
    have h1 := dats1 hh
    obtain ⟨a, us, e1, l1, t1, d1⟩ := dat_seqK h1 ex
    cases e1
    exact ⟨f, g, us, n, hh, hr, l1, t1, d1⟩
  refine ⟨fun i d e H κ τ r => ?_, fun i hi H κ τ r => ?_⟩
  · obtain ⟨f, g, us, n, hh, hr, l1, t1, d1⟩ := key H κ τ r
    obtain ⟨x1, e1, rfl⟩ := enumD_get e
    obtain ⟨u, e3, hu⟩ := dats_get d1 e1
    have fin : ∀ T, H T = none → Rel K cl (upd H T (.tup [.int (i : Nat), u])) (some (.pr [.int (i : Int), x1]) :: (List.map some [x] ++ κ)) (some (.ref T) :: (List.map some [.ref A] ++ τ)) := fun T nT => newPr n hh hr nT ⟨.int (i : Int), [u], [], [], rfl, rfl, dint, u, [], [], [], rfl, rfl, hu, rfl, rfl⟩
    cases k with
    | false =>
      rw [if_neg Bool.false_ne_true]
      refine ⟨⟨us, u, .of (l1 rfl), e3⟩, fun v H' yl => ?_⟩
      obtain ⟨T, u', rfl, nT, rfl, q1⟩ := yl
      have z1 := q1 us (.of (l1 rfl))
      rw [e3] at z1
      cases z1
      exact fin T nT
    | true =>
      rw [if_pos rfl]
      refine ⟨⟨us, u, t1 rfl, e3⟩, fun v H' yl => ?_⟩
      obtain ⟨T, u', rfl, nT, rfl, q1⟩ := yl
      have z1 := q1 us (t1 rfl)
      rw [e3] at z1
      cases z1
      exact fin T nT
  · obtain ⟨f, g, us, n, hh, hr, l1, t1, d1⟩ := key H κ τ r
    have q : xs.length ≤ i := by unfold enumD at hi; rwa [List.length_mapIdx] at hi
    rw [← dats_length d1] at q
    cases k with
    | false =>
      rw [if_neg Bool.false_ne_true]
      exact ⟨us, .of (l1 rfl), q⟩
    | true =>
      rw [if_pos rfl]
      exact ⟨us, t1 rfl, q⟩
theorem i_enum {tpos : Pos} {elts : List Expr} {kk : Nat} {f : Ev} (hm : X.mg "enumerate" = none) (ha : PA X [a] (tOs X.K cl W (vals [f]))) (hg : Gl X "enumerate" := by rfl) (hs : starEach [a] X.env = [(false, eval a X.env)] := by rfl) :
    PI X (.Tuple elts kk tpos) (.Call (.Name "enumerate" p) [a] [] pos) (tI X.K cl W (iEnum [f])) := PI.imp (PI.or (pi_enum hg hm ha hs) (pi_enumT hg hm ha hs)) fun σ H R ⟨τ, κ, env, r, l, q⟩ => by
  unfold iEnum at q
  cases e1 : evs (vals [f]) env with
  | ok ds env1 =>
    rw [e1, Rs.bind_ok] at q
    cases e2 : enumOf ds with
    | none => rw [e2] at q; exact q.elim
    | some pr =>
      rw [e2] at q
      obtain ⟨k, xs⟩ := pr
      match ds, e2 with
      | [x], ex =>
        cases k with
        | false =>
          left
          refine tA_os (os := vals [f]) ⟨τ, κ, env, r, l, ?_⟩
          rw [e1]
          intro us vs H' l2 r2 fu
          obtain ⟨rfl, l3⟩ := full_vals fu
          match vs, l2, r2 with
          | [u], l2, r2 =>
            obtain ⟨f', g', n, hh, hr⟩ := r2.split rfl
            obtain ⟨A, us, ea, la, ta, d1⟩ := dat_seqK (dats1 hh) ex
            subst ea
            exact ⟨A, us, rfl, .of (la rfl), q (Ite X.K A) _ _ H' rfl (iter_enum (k := false) ex) r2⟩
        | true =>
          right
          refine tA_os (os := vals [f]) ⟨τ, κ, env, r, l, ?_⟩
          rw [e1]
          intro us vs H' l2 r2 fu
          obtain ⟨rfl, l3⟩ := full_vals fu
          match vs, l2, r2 with
          | [u], l2, r2 =>
            obtain ⟨f', g', n, hh, hr⟩ := r2.split rfl
            obtain ⟨A, us, ea, la, ta, d1⟩ := dat_seqK (dats1 hh) ex
            subst ea
            exact ⟨A, us, rfl, ta rfl, q (IteT X.K A) _ _ H' rfl (iter_enum (k := true) ex) r2⟩
  | exc _ _ _ _ =>
    rw [e1] at q
    left
    refine tA_os (os := vals [f]) ⟨τ, κ, env, r, l, ?_⟩
    rw [e1]
    exact q
  | stuck => rw [e1] at q; exact q.elim
end
def enR (env : Tw.Env) : Option (Bool × List D) → Rs (List D)
  | some q => .ok (enumD q.2) env
  | none => .stuck
theorem e_enR (env : Tw.Env) (q : Bool × List D) : enR env (some q) = .ok (enumD q.2) env := (rfl)
def k_iEnum : List D → Tw.Env → Rs (List D) := fun ds env1 => enR env1 (enumOf ds)
theorem e_kiEnum (ds : List D) (env1 : Tw.Env) : k_iEnum ds env1 = enR env1 (enumOf ds) := (rfl)
theorem e_iEnum (os : List Ev) (env : Tw.Env) : iEnum os env = (evs (vals os) env).bind k_iEnum := by
  unfold iEnum
  refine congrArg _ (funext fun d => funext fun env1 => ?_)
  show _ = enR env1 (enumOf d)
  cases enumOf d <;> rfl
theorem enumOf_1 (x : D) : enumOf [x] = D.seqK x := (rfl)
end Tw
noncomputable section
namespace Tw
open PySem PySem.Spec PyProof.Rows L2
/-! ### sorted of a tuple of whole numbers -/
section
variable {prog : Program} {w : World} {A : Around} {E : Value → Shared → Prop} {s : Shared}
theorem collect_tup {l : Addr} {vs : List Value} {Q : List Value → Shared → Prop} (hl : s.heap.IsTuple l vs.toArray)
    (h : Q vs { s with heap := (s.heap.push (seqObj "list" #[] 0)).update s.heap.objs.size (Obj.mapSeq (· ++ vs.toArray)) }) (hsz : vs.length ≤ sizeLine) :
    wpAny (model prog w) A (collect (.ref l)) Q E s := by
  obtain ⟨o, ho, hc, n, hd⟩ := id hl
  unfold collect
  refine wpAny_bind (wpAny_runValue (codeAny_builtin entry_proto_collect' ?_))
  refine wpAny_bind (wpAny_newList (wpAny_pure ⟨Code.quiet_builtin _ (by decide +kernel), codeAny_builtin entry_list_iadd' ?_⟩))
  show wpAny _ _ (Builtin.List.listExtendWith (.ref s.heap.objs.size) (.ref l) (.ref s.heap.objs.size)) _ _ { s with heap := s.heap.push (seqObj "list" #[] 0) }
  unfold Builtin.List.listExtendWith
  have ho' : (s.heap.push (seqObj "list" #[] 0)).get? l = some o := Heap.get?_push_of_some _ ho
  refine wpAny_bind (wpAny_typeOf (T := "tuple") ⟨o, ho', hc⟩ ?_)
  have ht : (Value.type "tuple" == Value.type "tuple") = true := by rfl
  rw [if_pos (by rw [ht]; simp)]
  refine wpAny_bind (listItems_at ho' hd ?_)
  refine wpAny_bind (listItems_at (xs := #[]) (n := 0) (Heap.get?_push_size _ rfl) rfl ?_)
  rw [if_neg (by simp)]
  refine wpAny_bind (listUpdate_at (xs := #[]) (n := 0) (Heap.get?_push_size _ rfl) rfl ?_ (Nat.zero_le _) (by show (#[] ++ vs.toArray).size ≤ sizeLine + 1; simp only [Array.size_append, List.size_toArray, List.length_nil]; omega))
  refine wpAny_pure ?_
  refine wpAny_bind (wpAny_load (get?_update_seq (Heap.get?_push_size _ rfl) _) ?_)
  have e : ((#[] : Array Value) ++ vs.toArray).toList = vs := by simp
  show wpAny (model prog w) A (pure ((#[] : Array Value) ++ vs.toArray).toList) Q E _
  rw [e]
  exact wpAny_pure h
/-- sorted(t) of a tuple at l -/
theorem sorted_tup {l : Addr} {vs : List Value} {ltv : Value → Value → Bool} {Q : Value → Shared → Prop} (O : SrtO.Swo ltv) (hl : s.heap.IsTuple l vs.toArray) (hz : vs.length ≤ sizeLine)
    (hS : 2 ≤ vs.length → ∀ (g : Heap) (a : Addr), SrtO.SortableO prog w A.in1.in1 { s with heap := g } a vs ltv)
    (h : ∀ out : List Value, SrtO.Srtd ltv out → SrtO.Stb ltv out vs → Q (.ref (s.heap.objs.size + 1)) { s with heap := sortedAll s.heap vs out.toArray }) : wpAny (model prog w) A (call (.builtin "sorted") [.ref l]) Q E s := by
  refine Calls.call_function_entry kind_sorted plain_sorted entry_sorted (args_sorted1 _) ?_
  unfold Builtin.«sorted»
  refine wpAny_bind (m := checkCount "sorted" 1 1 _) (wpAny_pure (wpAny_bind (collect_tup hl (wpAny_bind (wpAny_newList ?_ hz)) hz)))
  obtain ⟨g, hg⟩ : ∃ g, g = ((s.heap.push (seqObj "list" #[] 0)).update s.heap.objs.size (Obj.mapSeq (· ++ vs.toArray))) := ⟨_, rfl⟩
  have gz : g.objs.size = s.heap.objs.size + 1 := by rw [hg, Heap.size_update]; exact Heap.size_push ..
  have gL : (g.push (seqObj "list" vs.toArray 0)).get? (s.heap.objs.size + 1) = some (seqObj "list" vs.toArray 0) := by rw [← gz]; exact Heap.get?_push_size _ rfl
  rw [← hg]
  show wpAny _ _ _ _ _ { s with heap := g.push (seqObj "list" vs.toArray 0) }
  rw [gz]
  refine wpAny_bind (wpAny_holding (wpAny_call_entry slot_list_sort ⟨_, gL, rfl⟩ entry_list_sort (SrtO.list_sort_ord O gL hz (fun h2 => hS h2 _ _) fun out hs hb => ⟨_, rfl, ?_⟩) (args_list_sort _)))
  have z := h out hs hb
  unfold sortedAll at z
  rw [← hg] at z
  exact wpAny_pure ⟨_, rfl, z⟩
end
def rSorted2 (K : PySem.W.Frag) : List V → Hp → VK → Prop := fun vs H Q => ∃ (a : Addr) (ns : List Int), vs = [V.ref a] ∧ (SqL K H a (ns.map V.int) ∨ SqT K H a (ns.map V.int)) ∧
  ∀ (ns' : List Int) (p : Addr), ns'.Perm ns → ns'.Pairwise (· ≤ ·) → H p = none → Q (.ref p) (upd H p (.lst (ns'.map V.int)))
section
variable {X : Cx} {cl : Cl}
theorem cr_sorted2 : CallR X (.builtin "sorted") (rSorted2 X.K) := by
  intro pins s σ H vs us Q I r h
  obtain ⟨a, ns, rfl, hs | hs, q⟩ := h
  · exact cr_sortedI pins s σ H _ us Q I r ⟨a, ns, rfl, hs, q⟩
  · obtain ⟨its, rv, ht, hz⟩ := I.tuple hs
    rw [Vals.ref1 r]
    refine sorted_tup SrtO.swo_int ht (Nat.le_trans (Nat.le_of_eq rv.length.symm) hz) (fun h2 g a' => SrtO.ints_sortable rv.ints h2) fun out h1 h2 => ?_
    obtain ⟨k1, k2, k3⟩ := SrtO.ints_out rv.ints h1 h2
    obtain ⟨ep, he⟩ := sortedAll_at s.heap its out.toArray
    have J : Inv X pins σ (upd H (s.heap.objs.size + 1) (.lst ((out.map SrtO.iv).map V.int))) { s with heap := sortedAll s.heap its out.toArray } :=
      I.laid (t' := s.toks) (fun _ _ => sortedAll_old) (Nat.le_succ _) ⟨by rw [List.length_map] at hz; rw [List.length_map, k2.length_eq]; exact hz, out, ep, vals_of_ints k1, he⟩
    exact ⟨.ref _, _, J, rfl, q _ _ k2 k3 (I.hok.fresh (Nat.le_succ _))⟩
def gSorted2 : List D → Option D
  | [x] => (D.seqK x).bind fun q => (D.ints q.2).map fun ns => .lst true ((ns.mergeSort fun a b => decide (a ≤ b)).map .int)
  | _ => none
theorem sorted_2 (x : D) : gSorted2 [x] = (D.seqK x).bind fun q => (D.ints q.2).map fun ns => .lst true ((ns.mergeSort fun a b => decide (a ≤ b)).map .int) := (rfl)
theorem s_sorted2 {K : PySem.W.Frag} : OpS K cl (rSorted2 K) gSorted2 := by
  intro as d vs H κ τ Q h l r q
  match as, h with
  | [x], h =>
    obtain ⟨v, rfl⟩ := one_of rfl l
    rw [sorted_2] at h
    simp only [Option.bind_eq_some_iff, Option.map_eq_some_iff] at h
    obtain ⟨⟨k, xs⟩, ek, ns, e, rfl⟩ := h
    obtain ⟨f, g, n, hh, hr⟩ := r.split l
    obtain ⟨a, us, e1, la, ta, d1⟩ := dat_seqK (dats1 hh) ek
    subst e1
    simp only at e
    rw [ints_of e] at d1
    rw [dats_ints d1] at la ta
    refine ⟨a, ns, rfl, ?_, fun ns' p hp hs hn => q _ _ (by rw [sort_eq hp hs]; exact newL n hh hr hn (ints_dats _))⟩
    cases k with
    | false => exact .inl (.of (la rfl))
    | true => exact .inr (ta rfl)
end
end Tw
noncomputable section
namespace Tw
open PySem PySem.Spec PyProof.Rows L2
/-! ### a value frozen -/
def fFrz (f : Ev) : Ev := fun env => (f env).bind fun d env1 => .ok (D.frz d) env1
section
variable {X : Cx} {cl : Cl} {W : WX} {a b c e : Expr} {es : List Expr} {pos apos p pf : Pos} {x : Str} {fa fb fc : Ev} {io : List Nat} {o : Expr} {i : Nat} {K : PySem.W.Frag} {M : Addr → Prop} {H : Hp}
/-! ### a thing in an object's field, taken out and put back -/
theorem put_put (f : Str) (d d' : D) : ∀ {ns : List Str} {ds : List D} {d0 : D}, lookD ns ds f = some d0 → putD f d ns (putD f d' ns ds) = putD f d ns ds
  | [], _, _, h => by cases h
  | _ :: _, [], _, h => by cases h
  | n :: ns, e :: ds, d0, h => by
    unfold lookD at h
    show putD f d (n :: ns) (if n = f then d' :: ds else e :: putD f d' ns ds) = if n = f then d :: ds else e :: putD f d ns ds
    by_cases c : n = f
    · rw [if_pos c, if_pos c]
      show (if n = f then d :: ds else _) = _
      rw [if_pos c]
    · rw [if_neg fun z => c z.symm] at h
      rw [if_neg c, if_neg c]
      show (if n = f then _ else e :: putD f d ns (putD f d' ns ds)) = _
      rw [if_neg c, put_put f d d' h]
theorem look_put (f : Str) (d' : D) : ∀ {ns : List Str} {ds : List D} {d : D}, lookD ns ds f = some d → lookD ns (putD f d' ns ds) f = some d'
  | n :: ns, e :: ds, d, h => by
    unfold lookD at h
    by_cases c : f = n
    · have e1 : putD f d' (n :: ns) (e :: ds) = d' :: ds := by
        show (if n = f then d' :: ds else _) = _
        rw [if_pos c.symm]
      rw [e1]
      unfold lookD
      rw [if_pos c]
    · rw [if_neg c] at h
      have e1 : putD f d' (n :: ns) (e :: ds) = e :: putD f d' ns ds := by
        show (if n = f then d' :: ds else e :: putD f d' ns ds) = _
        rw [if_neg fun z => c z.symm]
      rw [e1]
      unfold lookD
      rw [if_neg c]
      exact look_put f d' h
  | [], _, _, h => by cases h
  | _ :: _, [], _, h => by cases h
theorem dats_hole {f : Str} {d : D} : ∀ {ns : List Str} {ds : List D} {vs : List V} {g : List Addr}, Dats K cl M H ds vs g → lookD ns ds f = some d →
    ∃ v k g', (ns.zip vs).lookup f = some v ∧ g.Perm (k ++ g') ∧ Dat K cl M H d v k ∧ ∀ p, v = .ref p → Dats K cl M H (putD f (.at p) ns ds) vs g'
  | n :: ns, e :: ds, vs, g, h, hl => by
    obtain ⟨u, us, f1, f2, rfl, rfl, h1, h2⟩ := h
    unfold lookD at hl
    by_cases c : f = n
    · rw [if_pos c] at hl
      cases hl
      refine ⟨u, f1, f2, by rw [List.zip_cons_cons, c, List.lookup_cons_self], .refl _, h1, fun p ep => ?_⟩
      show Dats K cl M H (if n = f then .at p :: ds else _) _ _
      rw [if_pos c.symm]
      exact ⟨u, us, [], f2, rfl, rfl, ⟨ep, rfl⟩, h2⟩
    · rw [if_neg c] at hl
      obtain ⟨v, k, g', e1, e2, e3, e4⟩ := dats_hole h2 hl
      have c' : (f == n) = false := by simpa using c
      refine ⟨v, k, f1 ++ g', by rw [List.zip_cons_cons, List.lookup_cons, c', e1], ?_, e3, fun p ep => ?_⟩
      · refine (List.Perm.append_left f1 e2).trans ?_
        rw [← List.append_assoc, ← List.append_assoc]
        exact List.Perm.append_right _ List.perm_append_comm
      · show Dats K cl M H (if n = f then _ else e :: putD f (.at p) ns ds) _ _
        rw [if_neg fun z => c z.symm]
        exact ⟨u, us, f1, g', rfl, rfl, h1, e4 p ep⟩
  | [], _, _, _, _, hl => by cases hl
  | _ :: _, [], _, _, _, hl => by cases hl
theorem dats_fill {f : Str} {d : D} {p : Addr} {k : List Addr} (hd : Dat K cl M H d (.ref p) k) : ∀ {ns : List Str} {ds : List D} {vs : List V} {g : List Addr}, Dats K cl M H ds vs g → lookD ns ds f = some (.at p) →
    ∃ g2, g2.Perm (k ++ g) ∧ Dats K cl M H (putD f d ns ds) vs g2
  | n :: ns, e :: ds, vs, g, h, hl => by
    obtain ⟨u, us, f1, f2, rfl, rfl, h1, h2⟩ := h
    unfold lookD at hl
    by_cases c : f = n
    · rw [if_pos c] at hl
      cases hl
      obtain ⟨rfl, rfl⟩ := h1
      refine ⟨k ++ f2, .refl _, ?_⟩
      show Dats K cl M H (if n = f then d :: ds else _) _ _
      rw [if_pos c.symm]
      exact ⟨_, us, k, f2, rfl, rfl, hd, h2⟩
    · rw [if_neg c] at hl
      obtain ⟨g2, e2, e4⟩ := dats_fill hd h2 hl
      refine ⟨f1 ++ g2, ?_, ?_⟩
      · refine (List.Perm.append_left f1 e2).trans ?_
        rw [← List.append_assoc, ← List.append_assoc]
        exact List.Perm.append_right _ List.perm_append_comm
      · show Dats K cl M H (if n = f then _ else e :: putD f d ns ds) _ _
        rw [if_neg fun z => c z.symm]
        exact ⟨u, us, f1, g2, rfl, rfl, h1, e4⟩
  | [], _, _, _, _, hl => by cases hl
  | _ :: _, [], _, _, _, hl => by cases hl
theorem Rel.hole {f : Str} {c : Nat} {ns : List Str} {ds : List D} {d : D} {v : V} {κ : Tw.Env} {τ : S} (r : Rel K cl H (some (.obj true c ns ds) :: κ) (some v :: τ)) (e : lookD ns ds f = some d) (hd : ∀ M v k, Dat K cl M H d v k → ∃ p, v = .ref p) :
    ∃ ad dx vs p, v = .ref ad ∧ H ad = some (.ins (cl c) dx (ns.zip vs)) ∧ (ns.zip vs).lookup f = some (.ref p) ∧ Rel K cl H (some d :: some (.obj true c ns (putD f (.at p) ns ds)) :: κ) (some (.ref p) :: some (.ref ad) :: τ) := by
  obtain ⟨F, n, h⟩ := r
  obtain ⟨v1, xs1, f1, f2, e1, e2, h1, h2⟩ := h
  cases e1
  obtain ⟨ad, dx, vs, g, rfl, t, lv, hds, w⟩ := h1
  obtain ⟨u, k, g', q1, q2, q3, q4⟩ := dats_hole hds e
  obtain ⟨p, rfl⟩ := hd _ _ _ q3
  rcases w with ⟨_, hM, e7⟩ | ⟨z, _⟩
  · refine ⟨ad, dx, vs, p, rfl, t, q1, ?_⟩
    have pm : F.Perm (k ++ ((ad :: g') ++ f2)) := by
      rw [e2, e7]
      rw [← List.append_assoc]
      refine List.Perm.append_right f2 ?_
      exact (q2.cons ad).trans List.perm_middle.symm
    exact Rel.of_perm (f := F) ⟨.ref p, _, k, (ad :: g') ++ f2, rfl, rfl, q3, .ref ad, _, ad :: g', f2, rfl, rfl, ⟨ad, dx, vs, g', rfl, t, lv, q4 p rfl, .inl ⟨rfl, hM, rfl⟩⟩, h2⟩ n pm
  · cases z
theorem Rel.fill {f : Str} {c : Nat} {ns : List Str} {ds : List D} {d : D} {p : Addr} {v : V} {κ : Tw.Env} {τ : S} (r : Rel K cl H (some d :: some (.obj true c ns ds) :: κ) (some (.ref p) :: some v :: τ)) (e : lookD ns ds f = some (.at p)) :
    Rel K cl H (some (.obj true c ns (putD f d ns ds)) :: κ) (some v :: τ) := by
  obtain ⟨F, n, h⟩ := r
  obtain ⟨v1, xs1, k, f2, e1, e2, h1, h2⟩ := h
  cases e1
  obtain ⟨v2, xs2, f3, f4, e3, e4, h3, h4⟩ := h2
  cases e3
  obtain ⟨ad, dx, vs, g, rfl, t, lv, hds, w⟩ := h3
  obtain ⟨g2, q1, q2⟩ := dats_fill h1 hds e
  rcases w with ⟨_, hM, e7⟩ | ⟨z, _⟩
  · have pm : F.Perm ((ad :: g2) ++ f4) := by
      rw [e2, e4, e7, ← List.append_assoc]
      refine List.Perm.append_right f4 ?_
      exact List.perm_middle.trans (q1.symm.cons ad)
    exact Rel.of_perm (f := F) ⟨.ref ad, _, ad :: g2, f4, rfl, rfl, ⟨ad, dx, vs, g2, rfl, t, lv, q2, .inl ⟨rfl, hM, rfl⟩⟩, h4⟩ n pm
  · cases z
/-! ### o.f.m(e): a method of the list in a field -/
def fldO (own : Nat → Bool) (f : Str) : Option (Nat × List Str × List D) → Option ((Nat × List Str × List D) × List D)
  | some q => if own q.1 then ((lookD q.2.1 q.2.2 f).bind D.own).map fun xs => (q, xs) else none
  | none => none
def fMtF1 (i : Nat) (own : Nat → Bool) (f : Str) (gm : List D → D → Option (D × List D)) (fe : Ev) : Ev := fun env => match fldO own f (ownOAt env i) with
  | some z => (fe (env.set i none)).bind fun y env1 => match gm z.2 y with
    | some q => .ok q.1 (env1.set i (some (.obj true z.1.1 z.1.2.1 (putD f (.lst true q.2) z.1.2.1 z.1.2.2))))
    | none => .stuck
  | none => .stuck
def fMtF0 (i : Nat) (own : Nat → Bool) (f : Str) (gm : List D → Option (D × List D)) : Ev := fun env => match fldO own f (ownOAt env i) with
  | some z => match gm z.2 with
    | some q => .ok q.1 (env.set i (some (.obj true z.1.1 z.1.2.1 (putD f (.lst true q.2) z.1.2.1 z.1.2.2))))
    | none => .stuck
  | none => .stuck
theorem fldO_eq {own : Nat → Bool} {f : Str} {env : Tw.Env} {z : (Nat × List Str × List D) × List D} (h : fldO own f (ownOAt env i) = some z) : env[i]? = some (some (.obj true z.1.1 z.1.2.1 z.1.2.2)) ∧ own z.1.1 = true ∧ lookD z.1.2.1 z.1.2.2 f = some (.lst true z.2) := by
  cases e : ownOAt env i with
  | none => rw [e] at h; cases h
  | some q =>
    rw [e] at h
    unfold fldO at h
    simp only at h
    split at h
    · rename_i ow
      obtain ⟨xs, e2, rfl⟩ := Option.map_eq_some_iff.mp h
      obtain ⟨d, e3, e4⟩ := Option.bind_eq_some_iff.mp e2
      exact ⟨ownOAt_eq e, ow, by rw [e3, own_eq e4]⟩
    · cases h
theorem dat_lst_ref {m : Bool} {xs : List D} {v : V} {k : List Addr} (h : Dat K cl M H (.lst m xs) v k) : ∃ p, v = .ref p := by
  obtain ⟨a, _, _, e, _⟩ := h
  exact ⟨a, e⟩
theorem rd_mtF1 {own : Nat → Bool} {f : Str} {r : V → List V → Hp → VK → Prop} {gm : List D → D → Option (D × List D)} (ho : FldOk K cl own f) (hs : Mt1S K cl r gm) {σ : S} {H : Hp} {Q : VK} (h : tE K cl W (fMtF1 i own f gm fa) σ H Q) :
    tBM K "list" r (tFld K (tVar i) f) (tOs K cl W [.val fa]) σ H Q := by
  obtain ⟨τ, κ, env, rl, l, q⟩ := h
  unfold fMtF1 at q
  cases e : fldO own f (ownOAt env i) with
  | none => rw [e] at q; exact q.elim
  | some z =>
    obtain ⟨⟨c, ns, ds⟩, xs⟩ := z
    rw [e] at q
    simp only at q
    obtain ⟨e0, ow, el⟩ := fldO_eq e
    simp only at e0 ow el
    obtain ⟨v, e1, r1⟩ := slot_out (A := []) (Y := []) rl rfl l e0
    obtain ⟨ad, dx, vs, p, rfl, t, lk, r2⟩ := Rel.hole r1 el fun M v k h => dat_lst_ref h
    obtain ⟨p', us, ep, tp, _⟩ := own_head r2
    cases ep
    refine ⟨.ref ad, e1, ad, cl c, dx, _, .ref p, rfl, t, (ho.ok c ow).1.c, (ho.ok c ow).2, lk, .inl ⟨rfl, us, .of tp⟩, ?_⟩
    refine tE_bind1 (A := [some (.lst true xs), some (.obj true c ns (putD f (.at p) ns ds))]) (Y := [some (.ref p), some (.ref ad)]) rfl r2 l q fun y env1 w H1 h1 r3 => ?_
    show r _ _ _ _
    cases e2 : gm xs y with
    | none => rw [e2] at h1; exact h1.elim
    | some z =>
      rw [e2] at h1
      refine hs xs y z p w H1 _ _ Q e2 r3 fun u H2 r4 => h1 u H2 ?_
      have r5 := Rel.swap3 (A := [some z.1]) (X := [some u]) (B := [some (.lst true z.2), some (.obj true c ns (putD f (.at p) ns ds))]) (Y := [some (.ref p), some (.ref ad)]) r4 rfl rfl
      have r6 := Rel.fill (f := f) r5 (look_put f _ el)
      rw [put_put f _ _ el] at r6
      exact slot_in (A := [some z.1]) (Y := [some u]) r6 rfl l e1
theorem jf_append {own : Nat → Bool} {f : Str} (ho : FldOk X.K cl own f) (hv : PE X o (tVar i)) (ha : PA X [e] (tOs X.K cl W [.val fa])) (hb : attributeBase o f X.env (eval o X.env) = eval o X.env := by rfl) (hbase : attributeBase (.Attribute o f pf) "append" X.env (eval (.Attribute o f pf) X.env) = eval (.Attribute o f pf) X.env := by rfl)
    (hfew : ((backTo pos (starEach [e] X.env)).all (fun x => !x.1) && (backToKw pos (keywordEach [] X.env)).all (fun x => x.1.isSome) && decide ([e].length + ([] : List Keyword).length + (if ([] : List Keyword).isEmpty then 0 else 1) < 30)) = true := by rfl)
    (hline : (apos.endLine == pos.line) = true := by rfl) (hs : starEach [e] X.env = (false, eval e X.env) :: starEach [] X.env := by rfl) (hplain : (backTo pos (starEach [] X.env)).any (·.1) = false := by rfl) :
    PE X (.Call (.Attribute (.Attribute o f pf) "append" apos) [e] [] pos) (tE X.K cl W (fMtF1 i own f gAppend fa)) :=
  PE.imp (pe_bm PySem.F.plainAttrs_list PySem.F.slot_list_append PySem.F.type_list_append mt_append (pe_fld hv hb) ha hbase hfew hline hs hplain) fun σ H Q h => rd_mtF1 ho s_append h
end
end Tw
noncomputable section
namespace Tw
open PySem PySem.Spec PyProof.Rows L2
/-! ### o.f op= e -/
def fldV (own : Nat → Bool) (f : Str) : Option (Nat × List Str × List D) → Option (Nat × D)
  | some q => if own q.1 then (lookD q.2.1 q.2.2 f).bind fun d => if D.ok d then some (q.1, d) else none else none
  | none => none
def augF (i : Nat) (c : Nat) (f : Str) (env : Tw.Env) : Option D → Option (Nat × List Str × List D) → Out
  | some z, some q => if decide (q.1 = c) && decide (q.2.1.length = q.2.2.length) && decide (q.2.1.length < 1000) && oldOk f q.2.1 q.2.2 && D.ok z then .next (env.set i (some (.obj true q.1 (putN f q.2.1) (putD f z q.2.1 q.2.2)))) else .stuck
  | _, _ => .stuck
def sFAug (i : Nat) (own : Nat → Bool) (f : Str) (g : List D → Option D) (fe : Ev) : Sv := fun env => match fldV own f (ownOAt env i) with
  | some u => sBind (fe env) fun y env1 => augF i u.1 f env1 (g [u.2, y]) (ownOAt env1 i)
  | none => .stuck
section
variable {X : Cx} {cl : Cl} {W : WX} {a b c e : Expr} {es : List Expr} {pos apos p pf : Pos} {x : Str} {fa fb fc : Ev} {io : List Nat} {o : Expr} {i : Nat} {K : PySem.W.Frag} {M : Addr → Prop} {H : Hp}
/-- a new thing stored in the field of the object in front -/
theorem Rel.store {f : Str} {c : Nat} {ns : List Str} {ds : List D} {z : D} {u v : V} {κ : Tw.Env} {τ : S} (r : Rel K cl H (some z :: some (.obj true c ns ds) :: κ) (some u :: some v :: τ)) (ln : ns.length = ds.length) (ok : oldOk f ns ds = true) :
    ∃ ad dx fs, v = .ref ad ∧ H ad = some (.ins (cl c) dx fs) ∧ fs.length = ns.length ∧ Rel K cl (upd H ad (.ins (cl c) dx (putF f u fs))) (some (.obj true c (putN f ns) (putD f z ns ds)) :: κ) (some v :: τ) := by
  obtain ⟨F, n, h⟩ := r
  obtain ⟨v1, xs1, k, f2, e1, e2, h1, h2⟩ := h
  cases e1
  obtain ⟨v2, xs2, f3, f4, e3, e4, h3, h4⟩ := h2
  cases e3
  obtain ⟨ad, dx, vs, g, rfl, t, lv, hds, w⟩ := h3
  obtain ⟨ws, g2, q1, q2, qp, q3⟩ := put_zip f z u hds ln h1 ok
  rcases w with ⟨_, hM, e7⟩ | ⟨z, _⟩
  · refine ⟨ad, dx, _, rfl, t, by rw [List.length_zip]; omega, ?_⟩
    rw [q1]
    have pm : F.Perm ((ad :: g2) ++ f4) := by
      rw [e2, e4, e7, ← List.append_assoc]
      refine List.Perm.append_right f4 ?_
      exact List.perm_middle.trans (qp.symm.cons ad)
    have n1 := pm.nodup_iff.mp n
    have n2 := List.nodup_append.mp n1
    have np : ad ∉ f4 := fun z => n2.2.2 ad List.mem_cons_self ad z rfl
    have np2 : ad ∉ g2 := (List.nodup_cons.mp n2.1).1
    have tr : ∀ {f0 : List Addr} {ob : HO}, ad ∉ f0 → ∀ a o, H a = some o → (a ∈ F → a ∈ f0) → upd H ad ob a = some o := fun {f0 ob} np a o e hf => by
      rw [upd_ne fun z => np (by rw [← z]; exact hf (by rw [z]; exact hM))]
      exact e
    refine ⟨(ad :: g2) ++ f4, n1, .ref ad, _, ad :: g2, f4, rfl, rfl, ⟨ad, dx, ws, g2, rfl, upd_same, q2, ?_, .inl ⟨rfl, pm.mem_iff.mp hM, rfl⟩⟩, ?_⟩
    · exact dats_tr q3 (fun a z => .inl (pm.mem_iff.mpr z)) (fun a z => List.mem_append_left _ (List.mem_cons_of_mem _ z)) (tr np2)
    · exact slots_tr h4 (fun a z => .inl (pm.mem_iff.mpr z)) (fun a z => List.mem_append_right _ z) (tr np)
  · cases z
theorem s_faug {own : Nat → Bool} {f : Str} {op : Operator} {r : R2} {g : List D → Option D} {px : Pos} (ho : FldOk X.K cl own f) (hop : OpR X (inplaceOp op) r) (hs : OpS X.K cl (rw2 r) g) (hv : PE X o (tVar i)) (he : PE X e (tE X.K cl W fa)) : PS X (.AugAssign (.Attribute o f px) op e pos) (tS X.K cl W io (sFAug i own f g fa)) :=
  PS.imp (ps_fldaug hv he (fun pins s σ H x y u v Q I ru rv h => hop pins s σ H x y u v Q I ru rv h)) fun Z σ H ⟨τ, κ, env, rl, l, q⟩ => by
  unfold sFAug at q
  cases e1 : ownOAt env i with
  | none => rw [e1] at q; exact q.elim
  | some q0 =>
    obtain ⟨c, ns, ds⟩ := q0
    rw [e1] at q
    cases e2 : fldV own f (some (c, ns, ds)) with
    | none => rw [e2] at q; exact q.elim
    | some u0 =>
      rw [e2] at q
      unfold fldV at e2
      simp only at e2
      split at e2
      · rename_i ow
        obtain ⟨d0, e3, e4⟩ := Option.bind_eq_some_iff.mp e2
        split at e4
        · rename_i ok0
          cases e4
          simp only at q
          have e0 := ownOAt_eq e1
          simp only at e0
          obtain ⟨v, ev, r1⟩ := slot_out (A := []) (Y := []) rl rfl l e0
          obtain ⟨F, G, n, hh, hr⟩ := Rel.split (as := [.obj true c ns ds]) (vs := [v]) r1 rfl
          obtain ⟨ad, dx, vs, g1, ea, t, lv, d1, w⟩ := dats1 hh
          subst ea
          obtain ⟨v0, lk, hv0⟩ := lookD_dats d1 e3 ok0
          refine ⟨.ref ad, ev, ad, cl c, dx, _, v0, rfl, t, (ho.ok c ow).1.c, (ho.ok c ow).2, lk, ?_⟩
          have r2 := derive n hh hr hv0
          have r3 := Rel.swap3 (A := [some d0]) (X := [some v0]) (B := [some (.obj true c ns ds)]) (Y := [some (.ref ad)]) r2 rfl rfl
          have r4 := slot_in (A := [some d0]) (Y := [some v0]) r3 rfl l ev
          have es : (env.set i none).set i (some (D.obj true c ns ds)) = env := by
            rw [List.set_set]
            obtain ⟨hi, e⟩ := List.getElem?_eq_some_iff.mp e0
            rw [← e]
            exact List.set_getElem_self hi
          rw [es] at r4
          refine sbind_at (A := [some d0]) (Y := [some v0]) rfl r4 l q fun y env1 w1 H1 h1 r5 => ?_
          have r6 : Rel X.K cl H1 (List.map some [d0, y] ++ (κ ++ env1)) (List.map some [v0, w1] ++ (τ ++ σ)) := Rel.swap3 (A := [some y]) (X := [some w1]) (B := [some d0]) (Y := [some v0]) r5 rfl rfl
          cases eg : g [d0, y] with
          | none => rw [eg] at h1; exact h1.elim
          | some z =>
            rw [eg] at h1
            cases eo : ownOAt env1 i with
            | none => rw [eo] at h1; exact h1.elim
            | some q1 =>
              obtain ⟨c1, ns1, ds1⟩ := q1
              rw [eo] at h1
              simp only [augF] at h1
              split at h1
              · rename_i cond
                simp only [Bool.and_eq_true, decide_eq_true_eq] at cond
                obtain ⟨⟨⟨⟨c2, ln⟩, l1⟩, okf⟩, okz⟩ := cond
                subst c2
                refine hs [d0, y] z [v0, w1] H1 _ _ _ eg rfl r6 fun u H2 r7 => ?_
                have r8 : Rel X.K cl H2 (some z :: (κ ++ env1)) (some u :: (τ ++ σ)) := Rel.drop (A := [some d0, some y]) (X := [some v0, some w1]) (Rel.swap3 (A := [some z]) (X := [some u]) (B := [some d0, some y]) (Y := [some v0, some w1]) r7 rfl rfl) rfl
                obtain ⟨v', ev', r9⟩ := slot_out (A := [some z]) (Y := [some u]) r8 rfl l (ownOAt_eq eo)
                rw [ev] at ev'
                cases ev'
                have r10 := Rel.swap3 (A := [some (.obj true c1 ns1 ds1)]) (X := [some (.ref ad)]) (B := [some z]) (Y := [some u]) r9 rfl rfl
                obtain ⟨ad', dx', fs', ea, t', lf, r11⟩ := Rel.store (f := f) r10 ln okf
                cases ea
                refine ⟨dx', fs', t', by omega, ?_⟩
                have r12 := slot_in (A := []) (Y := []) r11 rfl l ev
                rw [List.set_set] at r12
                exact h1 σ _ .refl r12
              · exact h1.elim
        · cases e4
      · cases e2
/-! ### o.m(e, ..) of an object that stands in a slot -/
def fMeth (i c : Nat) (mn : Str) (io : List Nat) (h : List D → Rf) (os : List Opd) : Ev := fun env => match ownOAt env i with
  | some q => if decide (q.1 = c) && decide (q.2.1.length = q.2.2.length) && decide (mn ∉ q.2.1) then fCall io h (.slot i :: os) env else .stuck
  | none => .stuck
theorem zip_lookup_none {f : Str} : ∀ {ns : List Str} {vs : List V}, f ∉ ns → (ns.zip vs).lookup f = none
  | [], _, _ => rfl
  | _ :: _, [], _ => rfl
  | n :: ns, v :: vs, h => by
    have c : (f == n) = false := by simp only [List.mem_cons, not_or] at h; simpa using h.1
    rw [List.zip_cons_cons, List.lookup_cons, c]
    exact zip_lookup_none fun z => h (List.mem_cons_of_mem _ z)
theorem spD_mono {n : Nat} {io : List Nat} {h : List D → Rf} {vs : List V} {Q : VK} {E E' : XK} (hE : ∀ cls dd H', E cls dd H' → E' cls dd H') (q : spD K cl n io h vs H Q E) : spD K cl n io h vs H Q E' := by
  obtain ⟨l, τ, κ, ds, l1, l2, r, q⟩ := q
  refine ⟨l, τ, κ, ds, l1, l2, r, ?_⟩
  cases e : h ds with
  | ret d ios => rw [e] at q; exact q
  | exc c ns es ios => rw [e] at q; exact fun cls dd H' ws us a1 a2 a3 a4 => hE _ _ _ (q cls dd H' ws us a1 a2 a3 a4)
  | stuck => rw [e] at q; exact q
theorem tOpd_mono {o1 : Opd} {σ : S} {Q Q' : VK} (hQ : ∀ v H2, Q v H2 → Q' v H2) (h : tOpd K cl W o1 σ H Q) : tOpd K cl W o1 σ H Q' := by
  cases o1 with
  | val f =>
    obtain ⟨τ, κ, env, r, l, q⟩ := h
    exact ⟨τ, κ, env, r, l, q.imp (fun d env' z v H' r => hQ _ _ (z v H' r)) fun _ _ _ _ z => z⟩
  | slot j =>
    obtain ⟨v, e, q⟩ := h
    exact ⟨v, e, hQ _ _ q⟩
theorem tOs_mono : ∀ {os : List Opd} {σ : S} {H : Hp} {Q Q' : List V → Hp → Prop}, (∀ vs H2, Q vs H2 → Q' vs H2) → tOs K cl W os σ H Q → tOs K cl W os σ H Q'
  | [], _, _, _, _, hQ, h => hQ _ _ h
  | o :: os, σ, H, Q, Q', hQ, h => tOpd_mono (fun v H1 z => tOs_mono (os := os) (fun vs H2 y => hQ _ _ y) z) h
theorem j_meth {c k m ar : Nat} {mn : Str} {h : List D → Rf} {os : List Opd} (hM : ∃ f, Meth X.K (cl c) mn f ∧ FnM X.prog X.w X.K X.mg X.base cl f k ar io h) (hC : ClsF X.K (cl c)) (tk : Takes X W) (hr : Room m X.A) (hkm : k ≤ m) (hn : os.length + 1 = ar)
    (hW : ∀ cls dd σ σ' H, W cls dd σ H → W cls dd σ' H) (hv : PE X o (tVar i)) (ha : PA X (e :: es) (tOs X.K cl W os)) (hst : starEach (e :: es) X.env = (false, eval e X.env) :: starEach es X.env := by rfl) (hpl : (backTo pos (starEach es X.env)).any (·.1) = false := by rfl) {pl : Sem Bool}
    (ht : eval (.Call (.Attribute o mn apos) (e :: es) [] pos) X.env = (do
      let ov ← eval o X.env
      standAt apos.atName
      let (f, first) ← holding [ov] (getMethod ov mn pl)
      callWith pos f first (backTo pos (starEach (e :: es) X.env)) (backToKw pos (keywordEach [] X.env))) := by rfl) :
    PE X (.Call (.Attribute o mn apos) (e :: es) [] pos) (tE X.K cl W (fMeth i c mn io h os)) := by
  obtain ⟨f, hm, fd, ps, hb, F⟩ := hM
  refine PE.imp (pe_meth (pl := pl) (dvs := []) (E := fun cls dd H' => ∀ σ, W cls dd σ H') hv hC.c hm F (hr.mono hkm) hb .nil (passes_call tk fun cls dd σ H z => z σ) ha hst hpl ht) fun σ H Q q => ?_
  obtain ⟨τ, κ, env, r, l, q⟩ := q
  unfold fMeth at q
  cases e1 : ownOAt env i with
  | none => rw [e1] at q; exact q.elim
  | some q0 =>
    obtain ⟨c', ns, ds⟩ := q0
    rw [e1] at q
    simp only at q
    split at q
    · rename_i cond
      simp only [Bool.and_eq_true, decide_eq_true_eq] at cond
      obtain ⟨⟨c2, ln⟩, nin⟩ := cond
      subst c2
      have e0 := ownOAt_eq e1
      obtain ⟨v, ev, r1⟩ := slot_out (A := []) (Y := []) r rfl l e0
      obtain ⟨F', G, n, hh, hr'⟩ := Rel.split (as := [.obj true c' ns ds]) (vs := [v]) r1 rfl
      obtain ⟨ad, dx, vs, g1, ea, t, lv, d1, w⟩ := dats1 hh
      subst ea
      obtain ⟨v', ev', z⟩ := rd_call (n := ar) (os := .slot i :: os) (by simpa using hn) (⟨τ, κ, env, r, l, q⟩ : tE X.K cl W (fCall io h (.slot i :: os)) σ H Q)
      rw [ev] at ev'
      cases ev'
      refine ⟨.ref ad, ev, ad, dx, _, rfl, t, zip_lookup_none nin, ?_⟩
      refine tOs_mono (fun vs H2 z2 => ?_) z
      exact spD_mono (fun cls dd H' hw σ' => hW _ _ _ _ _ hw) z2
    · exact q.elim
end
end Tw
noncomputable section
namespace Tw
open PySem PySem.Spec PyProof.Rows L2
/-! ### constants that the top has laid -/
mutual
def KD (K : PySem.W.Frag) : D → Value → Prop
  | .non, u => u = .none
  | .bl b, u => u = .bool b
  | .int i, u => ∃ t, u = .int i t
  | .str x, u => ∃ t, u = .str x t
  | .tup ds, u => ∃ (a : Addr) (o : Obj) (its : List Value) (n : Nat), u = .ref a ∧ K.lookup a = some o ∧ o.cls = .type "tuple" ∧ o.dict = none ∧ o.data = .seq its.toArray n ∧ its.length ≤ 1000 ∧ KDs K ds its
  | _, _ => False
def KDs (K : PySem.W.Frag) : List D → List Value → Prop
  | [], us => us = []
  | d :: ds, us => ∃ u us', us = u :: us' ∧ KD K d u ∧ KDs K ds us'
end
section
variable {X : Cx} {cl : Cl} {W : WX} {a b c e : Expr} {es : List Expr} {pos apos p pf : Pos} {x : Str} {fa fb fc : Ev} {io : List Nat} {o : Expr} {i : Nat} {K : PySem.W.Frag} {M : Addr → Prop} {H : Hp}
mutual
theorem kd_dat : ∀ {d : D} {u : Value}, KD K d u → ∃ v, RelV v u ∧ ∀ M H, Dat K cl M H d v []
  | .non, _, h => ⟨.non, h, fun _ _ => ⟨rfl, rfl⟩⟩
  | .bl b, _, h => ⟨.bl b, h, fun _ _ => ⟨rfl, rfl⟩⟩
  | .int i, _, h => ⟨.int i, h, fun _ _ => ⟨rfl, rfl⟩⟩
  | .str x, _, h => ⟨.str x, h, fun _ _ => ⟨rfl, rfl⟩⟩
  | .tup ds, _, h => by
    obtain ⟨a, o, its, n, rfl, h1, h2, h6, h3, h4, h5⟩ := h
    obtain ⟨vs, r, hd⟩ := kds_dats h5
    refine ⟨.ref a, rfl, fun M H => ⟨a, vs, rfl, .inr ⟨o, its.toArray, n, h1, h2, h6, h3, ?_, r⟩, hd M H⟩⟩
    rw [sizeLine_eq, List.size_toArray]; omega
  | .ty _, _, h => h.elim
  | .cl _, _, h => h.elim
  | .scr _, _, h => h.elim
  | .pr _, _, h => h.elim
  | .dtt _ _, _, h => h.elim
  | .at _, _, h => h.elim
  | .lst _ _, _, h => h.elim
  | .obj _ _ _ _, _, h => h.elim
  | .dct _ _ _, _, h => h.elim
  | .dcd _ _ _, _, h => h.elim
  | .ex _ _ _ _ _, _, h => h.elim
  | .wlk _ _ _ _, _, h => h.elim
theorem kds_dats : ∀ {ds : List D} {us : List Value}, KDs K ds us → ∃ vs, Vals vs us ∧ ∀ M H, Dats K cl M H ds vs []
  | [], _, h => by rw [h]; exact ⟨[], .nil, fun _ _ => ⟨rfl, rfl⟩⟩
  | d :: ds, _, h => by
    obtain ⟨u, us', rfl, h1, h2⟩ := h
    obtain ⟨v, r1, d1⟩ := kd_dat h1
    obtain ⟨vs, r2, d2⟩ := kds_dats h2
    exact ⟨v :: vs, .cons r1 r2, fun M H => ⟨v, vs, [], [], rfl, rfl, d1 M H, d2 M H⟩⟩
end
theorem j_gcon {d : D} (hm : ∃ u, X.mg x = some u ∧ KD X.K d u) (hg : Gl X x := by rfl) (hd : (x == ("__debug__" : Str)) = false := by decide) : PE X (.Name x pos) (tE X.K cl W (fK d)) := by
  obtain ⟨u, hm, k⟩ := hm
  obtain ⟨v, r, h⟩ := kd_dat (cl := cl) k
  exact j_c (v := v) (pe_glob hg hm r hd) h
/-! ### max and min of numbers -/
def D.intsOf : D → Option (List Int)
  | .lst _ xs => D.ints xs
  | .tup xs => D.ints xs
  | _ => none
def foldI (k : Bool) (n : Int) (ns : List Int) : Int := if k then ns.foldl max n else ns.foldl min n
def rMm (K : PySem.W.Frag) (k : Bool) : List V → Hp → VK → Prop := fun vs H Q => ∃ a n ns, vs = [.ref a] ∧ (Dp K H (.ref a) (.list ((n :: ns).map .int)) ∨ Dp K H (.ref a) (.tuple ((n :: ns).map .int))) ∧ Q (.int (foldI k n ns)) H
def gMm (k : Bool) : List D → Option D
  | [d] => match D.intsOf d with
    | some (n :: ns) => some (.int (foldI k n ns))
    | _ => none
  | _ => none
/-! max(xs, default=d) of numbers -/
def rMxD (K : PySem.W.Frag) : List V → List V → Hp → VK → Prop := fun vs zs H Q => ∃ a ns d, vs = [.ref a] ∧ zs = [.int d] ∧ (Dp K H (.ref a) (.list (ns.map .int)) ∨ Dp K H (.ref a) (.tuple (ns.map .int))) ∧ Q (.int (match ns with | [] => d | n :: ns => ns.foldl max n)) H
def maxOr (d : Int) : List Int → Int
  | [] => d
  | n :: ns => ns.foldl max n
def fMaxD (d : Int) (f : Ev) : Ev := fun env => (f env).bind fun x env1 => match D.intsOf x with
  | some ns => .ok (.int (maxOr d ns)) env1
  | none => .stuck
end
end Tw
noncomputable section
namespace Tw
open PySem PySem.Spec PyProof.Rows L2
/-! ### reckoning: the words of TwS, TwSa, TwSb -/
def k_frz : D → Tw.Env → Rs D := fun d env1 => .ok (D.frz d) env1
theorem e_kfrz (d : D) (env1 : Tw.Env) : k_frz d env1 = .ok (D.frz d) env1 := (rfl)
theorem e_frz (f : Ev) (env : Tw.Env) : fFrz f env = (f env).bind k_frz := (rfl)
theorem e_fldO (own : Nat → Bool) (f : Str) (c : Nat) (ns : List Str) (ds : List D) : fldO own f (some (c, ns, ds)) = if own c then ((lookD ns ds f).bind D.own).map fun xs => ((c, ns, ds), xs) else none := (rfl)
theorem e_Down (xs : List D) : D.own (.lst true xs) = some xs := (rfl)
def mtF1S (i : Nat) (f : Str) (z : (Nat × List Str × List D) × List D) (env : Tw.Env) : Option (D × List D) → Rs D
  | some q => .ok q.1 (env.set i (some (.obj true z.1.1 z.1.2.1 (putD f (.lst true q.2) z.1.2.1 z.1.2.2))))
  | none => .stuck
theorem e_mtF1S (i : Nat) (f : Str) (z : (Nat × List Str × List D) × List D) (env : Tw.Env) (q : D × List D) : mtF1S i f z env (some q) = .ok q.1 (env.set i (some (.obj true z.1.1 z.1.2.1 (putD f (.lst true q.2) z.1.2.1 z.1.2.2)))) := (rfl)
def k_mtF1 (i : Nat) (f : Str) (gm : List D → D → Option (D × List D)) (z : (Nat × List Str × List D) × List D) : D → Tw.Env → Rs D := fun y env1 => mtF1S i f z env1 (gm z.2 y)
theorem e_kmtF1 (i : Nat) (f : Str) (gm : List D → D → Option (D × List D)) (z : (Nat × List Str × List D) × List D) (y : D) (env1 : Tw.Env) : k_mtF1 i f gm z y env1 = mtF1S i f z env1 (gm z.2 y) := (rfl)
def mtF1R (i : Nat) (f : Str) (gm : List D → D → Option (D × List D)) (fe : Ev) (env : Tw.Env) : Option ((Nat × List Str × List D) × List D) → Rs D
  | some z => (fe (env.set i none)).bind (k_mtF1 i f gm z)
  | none => .stuck
theorem e_mtF1R (i : Nat) (f : Str) (gm : List D → D → Option (D × List D)) (fe : Ev) (env : Tw.Env) (z : (Nat × List Str × List D) × List D) : mtF1R i f gm fe env (some z) = (fe (env.set i none)).bind (k_mtF1 i f gm z) := (rfl)
theorem e_mtF1 (i : Nat) (own : Nat → Bool) (f : Str) (gm : List D → D → Option (D × List D)) (fe : Ev) (env : Tw.Env) : fMtF1 i own f gm fe env = mtF1R i f gm fe env (fldO own f (ownOAt env i)) := by
  unfold fMtF1 mtF1R
  cases fldO own f (ownOAt env i) with
  | none => rfl
  | some z =>
    show Rs.bind _ _ = Rs.bind _ _
    refine congrArg _ (funext fun y => funext fun env1 => ?_)
    show _ = mtF1S i f z env1 (gm z.2 y)
    cases gm z.2 y <;> rfl
def mtF0R (i : Nat) (f : Str) (gm : List D → Option (D × List D)) (env : Tw.Env) : Option ((Nat × List Str × List D) × List D) → Rs D
  | some z => mtF1S i f z env (gm z.2)
  | none => .stuck
theorem e_mtF0R (i : Nat) (f : Str) (gm : List D → Option (D × List D)) (env : Tw.Env) (z : (Nat × List Str × List D) × List D) : mtF0R i f gm env (some z) = mtF1S i f z env (gm z.2) := (rfl)
theorem e_mtF0 (i : Nat) (own : Nat → Bool) (f : Str) (gm : List D → Option (D × List D)) (env : Tw.Env) : fMtF0 i own f gm env = mtF0R i f gm env (fldO own f (ownOAt env i)) := by
  unfold fMtF0 mtF0R
  cases fldO own f (ownOAt env i) with
  | none => rfl
  | some z =>
    show _ = mtF1S i f z env (gm z.2)
    simp only
    cases gm z.2 <;> rfl
theorem e_fldV (own : Nat → Bool) (f : Str) (c : Nat) (ns : List Str) (ds : List D) : fldV own f (some (c, ns, ds)) = if own c then (lookD ns ds f).bind fun d => if D.ok d then some (c, d) else none else none := (rfl)
theorem e_augF (i c : Nat) (f : Str) (env : Tw.Env) (z : D) (q : Nat × List Str × List D) : augF i c f env (some z) (some q) = if decide (q.1 = c) && decide (q.2.1.length = q.2.2.length) && decide (q.2.1.length < 1000) && oldOk f q.2.1 q.2.2 && D.ok z then .next (env.set i (some (.obj true q.1 (putN f q.2.1) (putD f z q.2.1 q.2.2)))) else .stuck := (rfl)
def k_faug (i : Nat) (f : Str) (g : List D → Option D) (u : Nat × D) : D → Tw.Env → Out := fun y env1 => augF i u.1 f env1 (g [u.2, y]) (ownOAt env1 i)
theorem e_kfaug (i : Nat) (f : Str) (g : List D → Option D) (u : Nat × D) (y : D) (env1 : Tw.Env) : k_faug i f g u y env1 = augF i u.1 f env1 (g [u.2, y]) (ownOAt env1 i) := (rfl)
def faugR (i : Nat) (f : Str) (g : List D → Option D) (fe : Ev) (env : Tw.Env) : Option (Nat × D) → Out
  | some u => sBind (fe env) (k_faug i f g u)
  | none => .stuck
theorem e_faugR (i : Nat) (f : Str) (g : List D → Option D) (fe : Ev) (env : Tw.Env) (u : Nat × D) : faugR i f g fe env (some u) = sBind (fe env) (k_faug i f g u) := (rfl)
theorem e_faug (i : Nat) (own : Nat → Bool) (f : Str) (g : List D → Option D) (fe : Ev) (env : Tw.Env) : sFAug i own f g fe env = faugR i f g fe env (fldV own f (ownOAt env i)) := by
  unfold sFAug faugR
  cases fldV own f (ownOAt env i) <;> rfl
def methR (i c : Nat) (mn : Str) (io : List Nat) (h : List D → Rf) (os : List Opd) (env : Tw.Env) : Option (Nat × List Str × List D) → Rs D
  | some q => if decide (q.1 = c) && decide (q.2.1.length = q.2.2.length) && decide (mn ∉ q.2.1) then fCall io h (.slot i :: os) env else .stuck
  | none => .stuck
theorem e_methR (i c : Nat) (mn : Str) (io : List Nat) (h : List D → Rf) (os : List Opd) (env : Tw.Env) (q : Nat × List Str × List D) : methR i c mn io h os env (some q) = if decide (q.1 = c) && decide (q.2.1.length = q.2.2.length) && decide (mn ∉ q.2.1) then fCall io h (.slot i :: os) env else .stuck := (rfl)
theorem e_meth (i c : Nat) (mn : Str) (io : List Nat) (h : List D → Rf) (os : List Opd) (env : Tw.Env) : fMeth i c mn io h os env = methR i c mn io h os env (ownOAt env i) := by
  unfold fMeth methR
  cases ownOAt env i <;> rfl
def mxR (env : Tw.Env) (d : Int) : Option (List Int) → Rs D
  | some ns => .ok (.int (maxOr d ns)) env
  | none => .stuck
theorem e_mxR (env : Tw.Env) (d : Int) (ns : List Int) : mxR env d (some ns) = .ok (.int (maxOr d ns)) env := (rfl)
def k_maxD (d : Int) : D → Tw.Env → Rs D := fun x env1 => mxR env1 d (D.intsOf x)
theorem e_kmaxD (d : Int) (x : D) (env1 : Tw.Env) : k_maxD d x env1 = mxR env1 d (D.intsOf x) := (rfl)
theorem e_maxD (d : Int) (f : Ev) (env : Tw.Env) : fMaxD d f env = (f env).bind (k_maxD d) := by
  unfold fMaxD
  refine congrArg _ (funext fun x => funext fun env1 => ?_)
  show _ = mxR env1 d (D.intsOf x)
  cases D.intsOf x <;> rfl
theorem intsOf_lst (m : Bool) (xs : List D) : D.intsOf (.lst m xs) = D.ints xs := (rfl)
theorem intsOf_tup (xs : List D) : D.intsOf (.tup xs) = D.ints xs := (rfl)
def mmR (k : Bool) : Option (List Int) → Option D
  | some (n :: ns) => some (.int (foldI k n ns))
  | _ => none
theorem e_mmR (k : Bool) (n : Int) (ns : List Int) : mmR k (some (n :: ns)) = some (.int (foldI k n ns)) := (rfl)
theorem e_mm (k : Bool) (d : D) : gMm k [d] = mmR k (D.intsOf d) := by
  show (match D.intsOf d with | some (n :: ns) => some (D.int (foldI k n ns)) | _ => none) = _
  cases D.intsOf d with
  | none => rfl
  | some ns => cases ns <;> rfl
theorem mul_tup (xs : List D) (k : Int) : gMul [.tup xs, .int k] = if D.oks xs && decide (-(2 ^ 62) ≤ k ∧ k ≤ 1000000 ∧ xs.length * k.toNat ≤ 1000000) then some (.tup (List.replicate k.toNat xs).flatten) else none := (rfl)
theorem mul_lst (m : Bool) (xs : List D) (k : Int) : gMul [.lst m xs, .int k] = if D.oks xs && decide (-(2 ^ 62) ≤ k ∧ k ≤ 1000000 ∧ xs.length * k.toNat ≤ 1000000) then some (.lst true (List.replicate k.toNat xs).flatten) else none := (rfl)
theorem frz_str (x : Str) : D.frz (.str x) = .str x := (rfl)
theorem ok_str (x : Str) : D.ok (.str x) = true := (rfl)
theorem shaped_str {a : Str} (h : PyData.strOk a = true) : SeqAt.shaped (.str a) = true := by
  unfold SeqAt.shaped
  rw [PyData.canLay0, h]
  rfl
theorem eqv_str (a b : Str) : PyData.eqv (.str a) (.str b) = decide (a = b) := by
  rw [PyData.eqv]
  by_cases c : a = b
  · subst c; simp
  · simp [c]
theorem eq_str (a b : Str) (ha : PyData.strOk a = true) (hb : PyData.strOk b = true) : gEq [.str a, .str b] = some (.bl (decide (a = b))) := by
  rw [Tw.eq_2]
  show (if (SeqAt.shaped (.str a) && SeqAt.shaped (.str b)) = true then some (D.bl (PyData.eqv (.str a) (.str b))) else none) = _
  rw [shaped_str ha, shaped_str hb, Bool.and_self, if_pos rfl, eqv_str]
theorem ne_str (a b : Str) (ha : PyData.strOk a = true) (hb : PyData.strOk b = true) : gNe [.str a, .str b] = some (.bl (!decide (a = b))) := by
  rw [Tw.ne_2]
  show (if (SeqAt.shaped (.str a) && SeqAt.shaped (.str b)) = true then some (D.bl (!PyData.eqv (.str a) (.str b))) else none) = _
  rw [shaped_str ha, shaped_str hb, Bool.and_self, if_pos rfl, eqv_str]
theorem eq_bool (a b : Bool) : gEq [.bl a, .bl b] = some (.bl (decide (a = b))) := by cases a <;> cases b <;> rfl
/-! ### loops whose turns are told by their bodies -/
theorem for_body {α : Type} {bd : Bd} {body : Sv} {g : α → D} (I : Nat → Tw.Env → Prop) : ∀ (xs : List α) (n : Nat) (env : Tw.Env), I n env →
    (∀ i x env, xs[i]? = some x → I (n + i) env → ∃ env1 env2, bd (g x) env = some env1 ∧ (body env1 = .next env2 ∨ body env1 = .cont env2) ∧ I (n + i + 1) env2) → ∃ env', I (n + xs.length) env' ∧ forGo bd body (xs.map g) env = .next env' := by
  intro xs n env h0 h
  refine for_ind I xs n env h0 fun i x env hi hI => ?_
  obtain ⟨env1, env2, e1, e2, h2⟩ := h i x env hi hI
  refine ⟨env2, h2, fun ds => ?_⟩
  rw [Tw.e_for1, e1, Tw.e_fgR]
  rcases e2 with e2 | e2 <;> rw [e2]
  · rw [Tw.e_fgN]
  · rw [Tw.e_fgC]
/-- a comprehension whose elements change what the slots hold -/
theorem comp_st {α β : Type} {vs : List Nat} {b : Bd} {f : Ev} {g : α → D} (E : β → Tw.Env) (P : β → Prop) (R : α → D → Prop) (xs : List α) (acc : List D) (s : β) (h0 : P s) (hw : ∀ s, wipeE (E s) vs = E s)
    (h : ∀ x ∈ xs, ∀ s, P s → ∃ env1 env2 s2 d, b (g x) (E s) = some env1 ∧ f env1 = .ok d env2 ∧ wipeE env2 vs = E s2 ∧ P s2 ∧ R x d) :
    ∃ (ds : List D) (s2 : β), P s2 ∧ ds.length = xs.length ∧ (∀ (i : Nat) (d : D), ds[i]? = some d → ∃ x, xs[i]? = some x ∧ R x d) ∧ compGo vs b bTrue f (xs.map g) acc (E s) = .ok (acc ++ ds) (E s2) := by
  induction xs generalizing acc s with
  | nil => exact ⟨[], s, h0, rfl, fun i d e => by simp at e, by rw [List.append_nil]; rfl⟩
  | cons x xs ih =>
    obtain ⟨env1, env2, s1, d, e1, e2, e3, h1, hr⟩ := h x List.mem_cons_self s h0
    obtain ⟨ds, s2, h2, l, hd, e4⟩ := ih (acc ++ [d]) s1 h1 fun z hz => h z (List.mem_cons_of_mem _ hz)
    refine ⟨d :: ds, s2, h2, by rw [List.length_cons, List.length_cons, l], fun i d' e => ?_, ?_⟩
    · cases i with
      | zero => cases e; exact ⟨x, rfl, hr⟩
      | succ i => obtain ⟨z, e5, e6⟩ := hd i d' e; exact ⟨z, e5, e6⟩
    · rw [List.map_cons, Tw.e_cg1, e1, Tw.e_cgR, Tw.e_bTrue, Tw.e_neo, Tw.e_bok, Tw.e_cgT, if_pos rfl, e2, Tw.e_neo, Tw.e_bok, Tw.e_cgF, e3, e4, List.append_assoc]
      rfl
end Tw
noncomputable section
namespace Tw
open PySem PySem.Spec PyProof.Rows L2
theorem take_fold {α β : Type} (step : β → α → β) {xs : List α} {i : Nat} {x : α} (e : xs[i]? = some x) (b : β) : (xs.take (i + 1)).foldl step b = step ((xs.take i).foldl step b) x := by
  have hi := (List.getElem?_eq_some_iff.mp e).1
  rw [List.take_add_one, e, List.foldl_append]
  rfl
/-- a loop by a step on states; the state ahead of turn i is the fold of the first i things -/
theorem for_fx {α β γ : Type} {bd : Bd} {body : Sv} {g : α → D} (E : β → γ → Tw.Env) (step : β → α → β) (xs : List α) (b : β) (y : γ)
    (h : ∀ i x y, xs[i]? = some x → ∃ env1 y2, bd (g x) (E ((xs.take i).foldl step b) y) = some env1 ∧ (body env1 = .next (E (step ((xs.take i).foldl step b) x) y2) ∨ body env1 = .cont (E (step ((xs.take i).foldl step b) x) y2))) :
    ∃ y', forGo bd body (xs.map g) (E b y) = .next (E (xs.foldl step b) y') := by
  obtain ⟨env', ⟨y', rfl⟩, e⟩ := for_body (bd := bd) (body := body) (g := g) (fun n env => ∃ y, env = E ((xs.take n).foldl step b) y) xs 0 (E b y) ⟨y, rfl⟩ fun i x env hi ⟨y, hy⟩ => by
    rw [Nat.zero_add] at hy ⊢
    subst hy
    obtain ⟨env1, y2, e1, e2⟩ := h i x y hi
    rw [← take_fold step hi b] at e2
    exact ⟨env1, _, e1, e2, y2, rfl⟩
  refine ⟨y', ?_⟩
  rw [Nat.zero_add, List.take_length] at e
  exact e
theorem cst_0 : ((0 : Nat) : Int) = 0 := (rfl)
theorem cst_1 : ((1 : Nat) : Int) = 1 := (rfl)
theorem cst_2 : ((2 : Nat) : Int) = 2 := (rfl)
theorem cst_3 : ((3 : Nat) : Int) = 3 := (rfl)
theorem cst_4 : ((4 : Nat) : Int) = 4 := (rfl)
theorem cst_5 : ((5 : Nat) : Int) = 5 := (rfl)
theorem at2_m (a b : D) : atI [a, b] (-1) = some b := rfl
theorem at3_m (a b c : D) : atI [a, b, c] (-1) = some c := rfl
/-- data in a tuple, one by one -/
theorem atI_mapD {α : Type} {f : α → D} {xs : List α} {i : Int} {x : α} (h0 : 0 ≤ i) (h : xs[i.toNat]? = some x) : atI (xs.map f) i = some (f x) := by
  have hl := (List.getElem?_eq_some_iff.mp h).1
  unfold atI ixN
  rw [List.length_map, if_pos h0, if_pos (by omega), Option.bind_some, List.getElem?_map, h]
  rfl
theorem oks_mapD {α : Type} {f : α → D} (hf : ∀ x, D.ok (f x) = true) (xs : List α) : D.oks (xs.map f) = true := by
  rw [D.oks_iff]; intro d h; obtain ⟨x, _, rfl⟩ := List.mem_map.mp h; exact hf x
theorem frzs_mapD {α : Type} {f : α → D} (hf : ∀ x, D.ok (f x) = true) (xs : List α) : D.frzs (xs.map f) = xs.map f := D.frzs_ok (oks_mapD hf xs)
theorem enum_mapD {α : Type} (f : α → D) (xs : List α) : enumD (xs.map f) = xs.zipIdx.map fun p => .pr [.int (p.2 : Int), f p.1] := by
  unfold enumD
  rw [List.mapIdx_eq_zipIdx_map, List.zipIdx_map, List.map_map]
  rfl
theorem mem_zipIdx' {α : Type} {xs : List α} {p : α × Nat} (h : p ∈ xs.zipIdx) : p.1 ∈ xs := by
  obtain ⟨_, _, e⟩ := List.mem_zipIdx h
  rw [e]; exact List.getElem_mem _
/-- data that is compared: depth n at most, leaves numbers, texts, truths, None -/
def Dpt : Nat → D → Prop
  | 0, d => (∃ i, d = .int i) ∨ (∃ x, d = .str x ∧ PyData.strOk x = true) ∨ (∃ b, d = .bl b) ∨ d = .non
  | n + 1, d => ((∃ i, d = .int i) ∨ (∃ x, d = .str x ∧ PyData.strOk x = true) ∨ (∃ b, d = .bl b) ∨ d = .non) ∨ (∃ xs, d = .tup xs ∧ ∀ x ∈ xs, Dpt n x) ∨ ∃ m xs, d = .lst m xs ∧ ∀ x ∈ xs, Dpt n x
theorem dpt_py0 {d : D} (h : (∃ i, d = .int i) ∨ (∃ x, d = .str x ∧ PyData.strOk x = true) ∨ (∃ b, d = .bl b) ∨ d = .non) : ∃ p, D.py d = some p ∧ p.canLay0 = true ∧ p.depth ≤ 1 := by
  rcases h with ⟨i, rfl⟩ | ⟨x, rfl, hx⟩ | ⟨b, rfl⟩ | rfl
  · exact ⟨.int i, rfl, rfl, by simp [PyData.depth]⟩
  · exact ⟨.str x, rfl, by rw [PyData.canLay0, hx], by simp [PyData.depth]⟩
  · exact ⟨.bool b, rfl, rfl, by simp [PyData.depth]⟩
  · exact ⟨.none, rfl, rfl, by simp [PyData.depth]⟩
theorem dpt_py : ∀ {n : Nat} {d : D}, Dpt n d → ∃ p, D.py d = some p ∧ p.canLay0 = true ∧ p.depth ≤ n + 1
  | 0, d, h => dpt_py0 h
  | n + 1, d, h => by
    have key : ∀ xs : List D, (∀ x ∈ xs, Dpt n x) → ∃ ps, D.pys xs = some ps ∧ (∀ p ∈ ps, p.canLay0 = true) ∧ ∀ p ∈ ps, p.depth ≤ n + 1 := by
      intro xs
      induction xs with
      | nil => intro _; exact ⟨[], rfl, by simp, by simp⟩
      | cons x xs ih =>
        intro hx
        obtain ⟨p, e, c, dp⟩ := dpt_py (hx x List.mem_cons_self)
        obtain ⟨ps, e2, c2, d2⟩ := ih fun y hy => hx y (List.mem_cons_of_mem _ hy)
        refine ⟨p :: ps, by rw [D.pys, e, e2]; rfl, fun q hq => ?_, fun q hq => ?_⟩
        · rcases List.mem_cons.mp hq with rfl | hq
          · exact c
          · exact c2 q hq
        · rcases List.mem_cons.mp hq with rfl | hq
          · exact dp
          · exact d2 q hq
    rcases h with h | ⟨xs, rfl, hx⟩ | ⟨m, xs, rfl, hx⟩
    · obtain ⟨p, e, c, dp⟩ := dpt_py0 h
      exact ⟨p, e, c, by omega⟩
    · obtain ⟨ps, e, c, dp⟩ := key xs hx
      refine ⟨.tuple ps, by rw [D.py, e]; rfl, by rw [PyData.canLay0]; exact lay_all c, ?_⟩
      rw [PyData.depth]
      have := depth_all dp
      omega
    · obtain ⟨ps, e, c, dp⟩ := key xs hx
      refine ⟨.list ps, by rw [D.py, e]; rfl, by rw [PyData.canLay0]; exact lay_all c, ?_⟩
      rw [PyData.depth]
      have := depth_all dp
      omega
theorem eq_sameD {n : Nat} {a b : D} (h : Dpt n a) (hn : n ≤ 60) (e : D.py b = D.py a) : gEq [a, b] = some (.bl true) ∧ gNe [a, b] = some (.bl false) := by
  obtain ⟨p, e1, c, dp⟩ := dpt_py h
  have sh : SeqAt.shaped p = true := by
    unfold SeqAt.shaped
    rw [c, Bool.true_and]
    exact decide_eq_true (by omega)
  have r := SeqAt.eqv_refl p c
  constructor
  · rw [Tw.eq_2, e, e1, Option.bind_some, Option.bind_some, sh, Bool.and_self, if_pos rfl, r]
  · rw [Tw.ne_2, e, e1, Option.bind_some, Option.bind_some, sh, Bool.and_self, if_pos rfl, r]; rfl
theorem dpt_int (n : Nat) (i : Int) : Dpt n (.int i) := by cases n <;> first | exact .inl ⟨i, rfl⟩ | exact .inl (.inl ⟨i, rfl⟩)
theorem dpt_str (n : Nat) {x : Str} (h : PyData.strOk x = true) : Dpt n (.str x) := by cases n <;> first | exact .inr (.inl ⟨x, rfl, h⟩) | exact .inl (.inr (.inl ⟨x, rfl, h⟩))
theorem dpt_bl (n : Nat) (b : Bool) : Dpt n (.bl b) := by cases n <;> first | exact .inr (.inr (.inl ⟨b, rfl⟩)) | exact .inl (.inr (.inr (.inl ⟨b, rfl⟩)))
theorem dpt_tup {n : Nat} {xs : List D} (h : ∀ x ∈ xs, Dpt n x) : Dpt (n + 1) (.tup xs) := .inr (.inl ⟨xs, rfl, h⟩)
theorem dpt_lst {n : Nat} {m : Bool} {xs : List D} (h : ∀ x ∈ xs, Dpt n x) : Dpt (n + 1) (.lst m xs) := .inr (.inr ⟨m, xs, rfl, h⟩)
theorem dpt_map {α : Type} {n : Nat} {f : α → D} {xs : List α} (h : ∀ x ∈ xs, Dpt n (f x)) : ∀ d ∈ xs.map f, Dpt n d := fun d hd => by obtain ⟨x, hx, rfl⟩ := List.mem_map.mp hd; exact h x hx
theorem dpt_ints (n : Nat) (ns : List Int) : Dpt (n + 1) (.tup (ns.map .int)) := dpt_tup (dpt_map fun i _ => dpt_int n i)
theorem dpt_nil {n : Nat} : ∀ x ∈ ([] : List D), Dpt n x := fun _ h => by cases h
theorem dpt_cons {n : Nat} {d : D} {ds : List D} (h : Dpt n d) (h2 : ∀ x ∈ ds, Dpt n x) : ∀ x ∈ d :: ds, Dpt n x := fun x hx => (List.mem_cons.mp hx).elim (fun e => e ▸ h) (h2 x)
end Tw
noncomputable section
namespace Tw
open PySem PySem.Spec PyProof.Rows L2
/-! ### t.index(x), l.index(x) -/
section
variable {X : Cx} {cl : Cl} {W : WX} {a b c e : Expr} {es : List Expr} {pos apos p pf : Pos} {x : Str} {fa fb fc : Ev} {K : PySem.W.Frag} {M : Addr → Prop} {H : Hp}
def rTIndexD (K : PySem.W.Frag) : V → List V → Hp → VK → Prop := fun x xs H Q => ∃ (a : Addr) (y : V) (d : PyData) (ds : List PyData) (j : Nat) (z : PyData), x = V.ref a ∧ xs = [y] ∧ Dp K H (V.ref a) (.tuple ds) ∧ Dp K H y d ∧
  SeqAt.shaped (.tuple ds) = true ∧ (SeqAt.shaped d = true ∧ d.depth ≤ 60) ∧ ds[j]? = some z ∧ PyData.eqv z d = true ∧ (∀ (m : Nat) (z' : PyData), m < j → ds[m]? = some z' → PyData.eqv z' d = false) ∧ Q (.int (j : Nat)) H
def rLIndexD (K : PySem.W.Frag) : V → List V → Hp → VK → Prop := fun x xs H Q => ∃ (a : Addr) (y : V) (d : PyData) (ds : List PyData) (j : Nat) (z : PyData), x = V.ref a ∧ xs = [y] ∧ Dp K H (V.ref a) (.list ds) ∧ Dp K H y d ∧
  SeqAt.shaped (.list ds) = true ∧ (SeqAt.shaped d = true ∧ d.depth ≤ 60) ∧ ds[j]? = some z ∧ PyData.eqv z d = true ∧ (∀ (m : Nat) (z' : PyData), m < j → ds[m]? = some z' → PyData.eqv z' d = false) ∧ Q (.int (j : Nat)) H
def tyTup (K : PySem.W.Frag) (x : V) (H : Hp) : Prop := ∃ a xs M, x = .ref a ∧ FzT K M H a xs
/-- the place of the first one alike -/
def idxOf : List PyData → PyData → Option Nat
  | [], _ => none
  | z :: zs, d => if PyData.eqv z d then some 0 else (idxOf zs d).map (· + 1)
def gIndex (xs : List D) (y : D) : Option Nat := (D.pys xs).bind fun zs => (D.py y).bind fun d => if SeqAt.shaped (.tuple zs) && (SeqAt.shaped d && decide (d.depth ≤ 60)) then idxOf zs d else none
def fIndex (fa fy : Ev) : Ev := fun env => (fa env).bind fun d env1 => match D.seqK d with
  | some q => (fy env1).bind fun y env2 => match gIndex q.2 y with
    | some j => .ok (.int (j : Int)) env2
    | none => .stuck
  | none => .stuck
theorem e_index (fa fy : Ev) (env : Tw.Env) : fIndex fa fy env = (fa env).bind fun d env1 => match D.seqK d with
  | some q => (fy env1).bind fun y env2 => match gIndex q.2 y with
    | some j => .ok (.int (j : Int)) env2
    | none => .stuck
  | none => .stuck := (rfl)
end
end Tw
noncomputable section
namespace Tw
open PySem PySem.Spec PyProof.Rows L2
/-! ### dicts whose keys are whole numbers and texts -/
def D.key : D → Option Key
  | .int i => some (.inl i)
  | .str x => some (.inr x)
  | _ => none
/-- what stands at a key -/
def lookK {α : Type} : List Key → List α → Key → Option α
  | k :: ks, d :: ds, x => if k = x then some d else lookK ks ds x
  | _, _, _ => none
def inK (ks : List Key) (x : Key) : Bool := ks.any fun k => decide (k = x)
def putKs (ks : List Key) (x : Key) : List Key := if inK ks x = true then ks else ks ++ [x]
def putAt {α : Type} : List Key → List α → Key → α → List α
  | k :: ks, d :: ds, x, y => (if k = x then y else d) :: putAt ks ds x y
  | _, _, _, _ => []
def putDs {α : Type} (ks : List Key) (ds : List α) (x : Key) (y : α) : List α := if inK ks x = true then putAt ks ds x y else ds ++ [y]
def gIxD : List D → Option D
  | [.dct _ ks ds, k] => (D.key k).bind fun x => if D.oks ds then lookK ks ds x else none
  | _ => none
def fDNew : Ev := fun env => .ok (.dct true [] []) env
def D.ownD : D → Option (List Key × List D)
  | .dct true ks xs => some (ks, xs)
  | _ => none
def ownDAt (env : Tw.Env) (i : Nat) : Option (List Key × List D) := (env[i]?.join).bind D.ownD
def sDStore (i : Nat) (fi f : Ev) : Sv := fun env => sBind (f env) fun d env1 => match ownDAt env1 i with
  | none => .stuck
  | some _ => sBind (fi env1) fun k env2 => match (D.key k).bind fun x => (ownDAt env2 i).bind fun q => if D.oks q.2 && D.ok d && lenOk (q.1.length + 1) then some (putKs q.1 x, putDs q.1 q.2 x d) else none with
    | some es => .next (env2.set i (some (.dct true es.1 es.2)))
    | none => .stuck
section
variable {X : Cx} {cl : Cl} {W : WX} {a b c o e : Expr} {es : List Expr} {pos apos p pf : Pos} {x : Str} {fa fb fc : Ev} {io : List Nat} {i : Nat} {K : PySem.W.Frag} {M : Addr → Prop} {H : Hp}
def rIxDk : R2 := fun x y H Q => ∃ a k v, x = .ref a ∧ y = kV k ∧ (∃ kvs, Rd H a (.dK kvs) ∧ valV kvs k = some v) ∧ Q v H
/-! evaluation -/
theorem e_dnew (env : Tw.Env) : fDNew env = .ok (.dct true [] []) env := (rfl)
theorem ixD_1 (m : Bool) (ks : List Key) (ds : List D) (k : D) : gIxD [.dct m ks ds, k] = (D.key k).bind fun x => if D.oks ds then lookK ks ds x else none := (rfl)
theorem key_int (i : Int) : D.key (.int i) = some (.inl i) := (rfl)
theorem key_str (x : Str) : D.key (.str x) = some (.inr x) := (rfl)
theorem e_dstore (i : Nat) (fi f : Ev) (env : Tw.Env) : sDStore i fi f env = sBind (f env) fun d env1 => match ownDAt env1 i with
  | none => .stuck
  | some _ => sBind (fi env1) fun k env2 => match (D.key k).bind fun x => (ownDAt env2 i).bind fun q => if D.oks q.2 && D.ok d && lenOk (q.1.length + 1) then some (putKs q.1 x, putDs q.1 q.2 x d) else none with
    | some es => .next (env2.set i (some (.dct true es.1 es.2)))
    | none => .stuck := (rfl)
theorem ownDAt_eq' (env : Tw.Env) (i : Nat) : ownDAt env i = (env[i]?.join).bind D.ownD := (rfl)
theorem ownD_1 (ks : List Key) (ds : List D) : D.ownD (.dct true ks ds) = some (ks, ds) := (rfl)
end
end Tw
noncomputable section
namespace Tw
open PySem PySem.Spec PyProof.Rows L2
/-! ### dicts whose keys are tuples of whole numbers, read only -/
def lookT {α : Type} : List (List Int) → List α → List Int → Option α
  | k :: ks, d :: ds, x => if k = x then some d else lookT ks ds x
  | _, _, _ => none
def gIxT : List D → Option D
  | [.dtt ks ds, .tup kd] => (D.ints kd).bind fun k => if D.oks ds then lookT ks ds k else none
  | _ => none
section
variable {X : Cx} {cl : Cl} {W : WX} {a b c o e : Expr} {es : List Expr} {pos apos p pf : Pos} {x : Str} {fa fb fc : Ev} {io : List Nat} {i : Nat} {K : PySem.W.Frag} {M : Addr → Prop} {H : Hp}
def upT (x : List Int × Addr × Value) : List Key × Addr × Value := (x.1.map Sum.inl, x.2.1, x.2.2)
def rIxDt (K : PySem.W.Frag) : R2 := fun x y H Q => ∃ a b k xs vs v, x = .ref a ∧ y = .ref b ∧ H a = some (DtO a xs) ∧ (∀ x ∈ xs, SqT K H x.2.1 (x.1.map V.int)) ∧ Vals vs (xs.map (·.2.2)) ∧ SqT K H b (k.map V.int) ∧ lookT (xs.map (·.1)) vs k = some v ∧ Q v H
/-! a display of constants -/
def tKeyC (k : List Int) : TE := fun _ H Q => ∀ p its, H p = none → Q (.ref p) (upd H p (tupH its (k.map V.int)))
def tFlat (v : V) : TE := tC v
def dispTrs (kvs : List (List Int × V)) : List (TE × TE) := kvs.map fun kv => (tKeyC kv.1, tC kv.2)
def tDispT (K : PySem.W.Frag) (trs : List (TE × TE)) : TE := fun σ H Q => ∀ p, H p = none → tPairs trs σ (upd H p (.dT [])) fun ps H2 => H2 p = some (.dT []) ∧ ∃ kbs : List (List Int × Addr × V), ps = kbs.map (fun z => (.ref z.2.1, z.2.2)) ∧ (∀ z ∈ kbs, SqT K H2 z.2.1 (z.1.map V.int)) ∧ (kbs.map (·.1)).Nodup ∧
  ∀ xs : List (List Int × Addr × Value), Paired (fun (z : List Int × Addr × V) x => z.1 = x.1 ∧ z.2.1 = x.2.1 ∧ RelV z.2.2 x.2.2) kbs xs → Q (.ref p) (upd H2 p (DtO p xs))
/-- the values of a display of constants -/
def FlatD : D → V → Prop
  | .int i, v => v = .int i
  | .str x, v => v = .str x
  | _, _ => False
theorem ixT_1 (ks : List (List Int)) (ds kd : List D) : gIxT [.dtt ks ds, .tup kd] = (D.ints kd).bind fun k => if D.oks ds then lookT ks ds k else none := (rfl)
theorem frz_dtt (ks : List (List Int)) (ds : List D) : D.frz (.dtt ks ds) = .dtt ks (D.frzs ds) := (rfl)
theorem ok_dtt (ks : List (List Int)) (ds : List D) : D.ok (.dtt ks ds) = D.oks ds := (rfl)
/-! sum of a list, or a tuple, of whole numbers -/
def gSum : List D → Option D
  | [.lst _ xs] => (D.ints xs).map fun ns => .int ns.sum
  | [.tup xs] => (D.ints xs).map fun ns => .int ns.sum
  | _ => none
def rSumT (K : PySem.W.Frag) : List V → Hp → VK → Prop := fun vs H Q => ∃ (a : Addr) (ns : List Int), vs = [V.ref a] ∧ SqT K H a (ns.map V.int) ∧ Q (.int ns.sum) H
def rSum2 (K : PySem.W.Frag) : List V → Hp → VK → Prop := fun vs H Q => rSum K vs H Q ∨ rSumT K vs H Q
theorem sum_tup (xs : List D) : gSum [.tup xs] = (D.ints xs).map fun ns => .int ns.sum := (rfl)
theorem sum_lst (m : Bool) (xs : List D) : gSum [.lst m xs] = (D.ints xs).map fun ns => .int ns.sum := (rfl)
end
end Tw
noncomputable section
namespace Tw
open PySem PySem.Spec PyProof.Rows L2
/-! ### list(zip(xs, t)): the zip's own tuple goes out once, then new ones -/
abbrev IsZipB (h : Heap) (z TI TO : Addr) (f0 : Value) (b : Bool) : Prop :=
  h.get? z = some { cls := .type "zip", dict := none, data := .fields #[f0, .bool b, .bool false, .ref TI, .ref TO], slots := #[] }
section
variable {prog : Program} {w : World} {A : Around} {E : Value → Shared → Prop} {s : Shared} {z TI TO i1 i2 T0 : Addr} {fp1 fp2 : List Addr} {n1 n2 i : Nat} {P1 P2 : Nat → Value → Prop} {St1 St2 : Nat → Heap → Prop} {a1 a2 : Value}
/-- how the zip stands behind i items -/
def ZAt (z TI TO i1 i2 : Addr) (St1 St2 : Nat → Heap → Prop) (i : Nat) (h : Heap) : Prop :=
  ((i = 0 ∧ IsZip h z TI TO .none ∧ ∃ x y, IsTupOf2 h TO x y) ∨ ∃ (b : Bool) (T0 : Addr) (o0 : Obj), IsZipB h z TI TO (rawInt T0) b ∧ h.get? T0 = some o0 ∧ T0 ≠ z ∧ T0 ≠ i1 ∧ T0 ≠ i2) ∧ IsTupOf2 h TI (.ref i1) (.ref i2) ∧ St1 i h ∧ St2 i h
/-- the items so far -/
def ZAcc (lo : Nat) (P1 P2 : Nat → Value → Prop) (acc : Array Value) (i : Nat) (h : Heap) : Prop := ∃ Ts : List Addr, acc.toList = Ts.map Value.ref ∧ Ts.length = i ∧ Ts.Pairwise (fun a b : Addr => a < b) ∧ ∀ (j : Nat) (T : Addr), Ts[j]? = some T → ∃ x1 x2, lo ≤ T ∧ P1 j x1 ∧ P2 j x2 ∧ IsTupOf2 h T x1 x2
theorem ZAcc.size {lo i : Nat} {acc : Array Value} {h : Heap} (a : ZAcc lo P1 P2 acc i h) : acc.size = i := by
  obtain ⟨Ts, e, l, _⟩ := a
  rw [← Array.length_toList, e, List.length_map, l]
end
section
variable {prog : Program} {w : World} {A : Around} {R : Result → Shared → Prop} {z TI TO i1 i2 : Addr} {fp1 fp2 : List Addr} {n1 n2 : Nat} {P1 P2 : Nat → Value → Prop} {St1 St2 : Nat → Heap → Prop}
theorem ZAt.over {L i : Nat} {h h' : Heap} (D1 : Draws prog w A i1 fp1 n1 P1 St1) (D2 : Draws prog w A i2 fp2 n2 P2 St2) (za : ZAt z TI TO i1 i2 St1 St2 i h) (hL : L ≠ z ∧ L ≠ TI ∧ L ≠ TO ∧ L ∉ fp1 ∧ L ∉ fp2) (hk : ∀ c o, c ≠ L → h.get? c = some o → h'.get? c = some o) (he : ∃ o, h'.get? L = some o) : ZAt z TI TO i1 i2 St1 St2 i h' := by
  obtain ⟨zs, hTI, st1, st2⟩ := za
  refine ⟨?_, hk _ _ hL.2.1.symm hTI, D1.frame _ _ _ st1 fun b hb o e => hk b o (fun q => hL.2.2.2.1 (q ▸ hb)) e, D2.frame _ _ _ st2 fun b hb o e => hk b o (fun q => hL.2.2.2.2 (q ▸ hb)) e⟩
  rcases zs with ⟨e, hz, x, y, hTO⟩ | ⟨b, T0, o0, hz, hT0, m1, m2, m3⟩
  · exact .inl ⟨e, hk _ _ hL.1.symm hz, x, y, hk _ _ hL.2.2.1.symm hTO⟩
  · by_cases c : T0 = L
    · subst c
      obtain ⟨o, he⟩ := he
      exact .inr ⟨b, T0, o, hk _ _ hL.1.symm hz, he, m1, m2, m3⟩
    · exact .inr ⟨b, T0, o0, hk _ _ hL.1.symm hz, hk _ _ c hT0, m1, m2, m3⟩
theorem ZAcc.over {lo i : Nat} {acc : Array Value} {h h' : Heap} (a : ZAcc lo P1 P2 acc i h) (hk : ∀ c o, lo ≤ c → h.get? c = some o → h'.get? c = some o) : ZAcc lo P1 P2 acc i h' := by
  obtain ⟨Ts, e, l, pw, q⟩ := a
  exact ⟨Ts, e, l, pw, fun j T ej => let ⟨x1, x2, e2, p1, p2, t⟩ := q j T ej; ⟨x1, x2, e2, p1, p2, hk _ _ e2 t⟩⟩
theorem ZAcc.push {lo i : Nat} {T : Addr} {acc : Array Value} {h h0 : Heap} {x1 x2 : Value} (a0 : ZAcc lo P1 P2 acc i h0) (hk : ∀ c o, lo ≤ c → h0.get? c = some o → h.get? c = some o) (eT : T = h0.objs.size) (hT : lo ≤ T) (p1 : P1 i x1) (p2 : P2 i x2) (t : IsTupOf2 h T x1 x2) : ZAcc lo P1 P2 (acc.push (.ref T)) (i + 1) h := by
  obtain ⟨Ts, e, l, pw, q⟩ := a0
  refine ⟨Ts ++ [T], by rw [Array.toList_push, e, List.map_append]; rfl, by rw [List.length_append, l]; rfl, ?_, fun j T' ej => ?_⟩
  · rw [List.pairwise_append]
    refine ⟨pw, List.pairwise_singleton _ _, fun c hc d hd => ?_⟩
    rw [List.mem_singleton.mp hd, eT]
    obtain ⟨j, hj⟩ := List.mem_iff_getElem?.mp hc
    obtain ⟨_, _, _, _, _, t'⟩ := q j c hj
    exact Heap.lt_size t'
  · by_cases c : j < Ts.length
    · rw [List.getElem?_append_left c] at ej
      obtain ⟨y1, y2, e2, r1, r2, t'⟩ := q j T' ej
      exact ⟨y1, y2, e2, r1, r2, hk _ _ e2 t'⟩
    · rw [List.getElem?_append_right (by omega)] at ej
      have ej0 : j - Ts.length = 0 := by
        have := (List.getElem?_eq_some_iff.mp ej).1
        rw [List.length_singleton] at this
        omega
      rw [ej0] at ej
      cases ej
      have : j = i := by omega
      subst this
      exact ⟨x1, x2, hT, p1, p2, t⟩
end
section
variable {prog : Program} {w : World} {A : Around} {R : Result → Shared → Prop} {z TI TO i1 i2 : Addr} {fp1 fp2 : List Addr} {n1 n2 : Nat} {P1 P2 : Nat → Value → Prop} {St1 St2 : Nat → Heap → Prop}
end
section
variable {prog : Program} {w : World} {A : Around} {E : Value → Shared → Prop} {z TI TO i1 i2 : Addr} {fp1 fp2 : List Addr} {n1 n2 : Nat} {P1 P2 : Nat → Value → Prop} {St1 St2 : Nat → Heap → Prop}
end
section
variable {X : Cx} {e e2 : Expr} {ta : TA} {p pos p2 q2 : Pos}
/-- list(zip(xs, t)): new pairs in a new list -/
def tLZ (K : PySem.W.Frag) (ta : TA) : TE := fun σ H Q => ta σ H fun vs H1 => ∃ a b xs ys, vs = [.ref a, .ref b] ∧ SqL K H1 a xs ∧ SqT K H1 b ys ∧
  ∀ (H2 : Hp) (p : Addr) (Ts : List Addr), (∀ b o, H1 b = some o → H2 b = some o) → H1 p = none → Paired (fun (z : V × V) T => H1 T = none ∧ T ≠ p ∧ H2 T = some (.tup [z.1, z.2])) (xs.zip ys) Ts → H2 p = some (.lst (Ts.map V.ref)) → Q (.ref p) H2
end
end Tw
noncomputable section
namespace Tw
open PySem PySem.Spec PyProof.Rows L2
/-! ### list(zip(xs, t)) and dict of such pairs, in the data layer -/
def lzOf : List D → Option (List D)
  | [x, y] => (D.seqK x).bind fun p => (D.seqK y).bind fun q => match p.1, q.1 with
    | false, true => some (zipD p.2 q.2)
    | _, _ => none
  | _ => none
def D.pr2 : D → Option (D × D)
  | .pr [k, v] => some (k, v)
  | _ => none
def D.tupI : D → Option (List Int)
  | .tup kd => D.ints kd
  | _ => none
def kvsT : List D → Option (List (List Int) × List D)
  | [] => some ([], [])
  | d :: ds => (D.pr2 d).bind fun z => (D.tupI z.1).bind fun k => if D.ok z.2 then (kvsT ds).map fun q => (k :: q.1, z.2 :: q.2) else none
def gDictT : List D → Option D
  | [.lst _ items] => (kvsT items).bind fun q => if q.1.Nodup then some (.dtt q.1 q.2) else none
  | _ => none
def fLZip (fa fb : Ev) : Ev := fun env => (evs (vals [fa, fb]) env).bind fun ds env1 => match lzOf ds with
  | some q => .ok (.lst true q) env1
  | none => .stuck
section
variable {X : Cx} {cl : Cl} {W : WX} {a b c o e : Expr} {es : List Expr} {pos apos p pf p2 q2 : Pos} {x : Str} {fa fb fc : Ev} {io : List Nat} {i : Nat} {K : PySem.W.Frag} {M : Addr → Prop} {H H2 : Hp}
def SameZ (z : List Int × Addr × V) (x : List Int × Addr × Value) : Prop := z.1 = x.1 ∧ z.2.1 = x.2.1 ∧ RelV z.2.2 x.2.2
def rDictT (K : PySem.W.Frag) : List V → Hp → VK → Prop := fun xs H Q => ∃ (a : Addr) (ps : List Addr) (kbv : List (List Int × Addr × V)), xs = [.ref a] ∧ SqL K H a (ps.map V.ref) ∧
  Paired (fun p (z : List Int × Addr × V) => SqT K H p [.ref z.2.1, z.2.2] ∧ SqT K H z.2.1 (z.1.map V.int)) ps kbv ∧ (kbv.map (·.1)).Nodup ∧ ∀ p xs', H p = none → Paired SameZ kbv xs' → Q (.ref p) (upd H p (DtO p xs'))
theorem e_lz (fa fb : Ev) (env : Tw.Env) : fLZip fa fb env = (evs (vals [fa, fb]) env).bind fun ds env1 => match lzOf ds with
  | some q => .ok (.lst true q) env1
  | none => .stuck := (rfl)
theorem dictT_1 (m : Bool) (items : List D) : gDictT [.lst m items] = (kvsT items).bind fun q => if q.1.Nodup then some (.dtt q.1 q.2) else none := (rfl)
end
end Tw
noncomputable section
namespace Tw
open PySem PySem.Spec PyProof.Rows L2
/-! ### pairs and triples stored one by one, whatever the names are read by; t.count(x) -/
section
variable {X : Cx} {cl : Cl} {W : WX} {a b c o e : Expr} {es : List Expr} {pos apos p pf : Pos} {x y z : Str} {fa fb fc : Ev} {io : List Nat} {i j m : Nat} {K : PySem.W.Frag} {M : Addr → Prop} {H H2 : Hp}
/-- a, b, c = e1, e2, e3 -/
def sPar3 (i j m : Nat) (f g h : Ev) : Sv := fun env => sBind (f env) fun x env1 => sBind (g env1) fun y env2 => sBind (h env2) fun z env3 => if i < env3.length ∧ j < env3.length ∧ m < env3.length then .next (((env3.set i (some x)).set j (some y)).set m (some z)) else .stuck
/-! t.count(x) -/
def rTCountD (K : PySem.W.Frag) : V → List V → Hp → VK → Prop := fun x xs H Q => ∃ (a : Addr) (y : V) (d : PyData) (ds : List PyData), x = V.ref a ∧ xs = [y] ∧ Dp K H (V.ref a) (.tuple ds) ∧ Dp K H y d ∧
  SeqAt.shaped (.tuple ds) = true ∧ (SeqAt.shaped d = true ∧ d.depth ≤ 60) ∧ Q (.int ((ds.countP fun z => PyData.eqv z d : Nat) : Int)) H
def gCount (xs : List D) (y : D) : Option Nat := (D.pys xs).bind fun zs => (D.py y).bind fun d => if SeqAt.shaped (.tuple zs) && (SeqAt.shaped d && decide (d.depth ≤ 60)) then some (zs.countP fun z => PyData.eqv z d) else none
def fCount (fa fy : Ev) : Ev := fun env => (fa env).bind fun d env1 => match d with
  | .tup xs => if D.oks xs then (fy env1).bind fun y env2 => match gCount xs y with
    | some j => .ok (.int (j : Int)) env2
    | none => .stuck
    else .stuck
  | _ => .stuck
/-! `is True`, `is not False`, where a truth stands -/
def gIsB : List D → Option D
  | [.bl a, .bl b] => some (.bl (decide (a = b)))
  | _ => none
def gNotB : List D → Option D
  | [.bl a, .bl b] => some (.bl (!decide (a = b)))
  | _ => none
end
theorem isB_2 (a b : Bool) : gIsB [.bl a, .bl b] = some (.bl (decide (a = b))) := (rfl)
theorem notB_2 (a b : Bool) : gNotB [.bl a, .bl b] = some (.bl (!decide (a = b))) := (rfl)
theorem tag_dct (m : Bool) (ks : List Key) (xs : List D) : D.tag (.dct m ks xs) = some (.ty "dict") := (rfl)
theorem frz_dct (m : Bool) (ks : List Key) (xs : List D) : D.frz (.dct m ks xs) = .dct false ks (D.frzs xs) := (rfl)
theorem ok_dct (m : Bool) (ks : List Key) (xs : List D) : D.ok (.dct m ks xs) = (!m && D.oks xs) := (rfl)
/-! ### what these come to -/
def k_sPar33 (i j m : Nat) (x y : D) : D → Tw.Env → Out := fun z env3 => if i < env3.length ∧ j < env3.length ∧ m < env3.length then .next (((env3.set i (some x)).set j (some y)).set m (some z)) else .stuck
theorem e_ksPar33 (i j m : Nat) (x y z : D) (env3 : Tw.Env) : k_sPar33 i j m x y z env3 = if i < env3.length ∧ j < env3.length ∧ m < env3.length then .next (((env3.set i (some x)).set j (some y)).set m (some z)) else .stuck := (rfl)
def k_sPar32 (i j m : Nat) (h : Ev) (x : D) : D → Tw.Env → Out := fun y env2 => sBind (h env2) (k_sPar33 i j m x y)
theorem e_ksPar32 (i j m : Nat) (h : Ev) (x y : D) (env2 : Tw.Env) : k_sPar32 i j m h x y env2 = sBind (h env2) (k_sPar33 i j m x y) := (rfl)
def k_sPar31 (i j m : Nat) (g h : Ev) : D → Tw.Env → Out := fun x env1 => sBind (g env1) (k_sPar32 i j m h x)
theorem e_ksPar31 (i j m : Nat) (g h : Ev) (x : D) (env1 : Tw.Env) : k_sPar31 i j m g h x env1 = sBind (g env1) (k_sPar32 i j m h x) := (rfl)
theorem e_sPar3 (i j m : Nat) (f g h : Ev) (env : Tw.Env) : sPar3 i j m f g h env = sBind (f env) (k_sPar31 i j m g h) := (rfl)
def k_cnt2 (xs : List D) : D → Tw.Env → Rs D := fun y env2 => match gCount xs y with
  | some j => .ok (.int (j : Int)) env2
  | none => .stuck
def cntR (env2 : Tw.Env) : Option Nat → Rs D
  | some j => .ok (.int (j : Int)) env2
  | none => .stuck
theorem e_cntR (env2 : Tw.Env) (j : Nat) : cntR env2 (some j) = .ok (.int (j : Int)) env2 := (rfl)
theorem e_kcnt2 (xs : List D) (y : D) (env2 : Tw.Env) : k_cnt2 xs y env2 = cntR env2 (gCount xs y) := by
  unfold k_cnt2
  cases gCount xs y <;> rfl
def k_cnt (fy : Ev) : D → Tw.Env → Rs D := fun d env1 => match d with
  | .tup xs => if D.oks xs then (fy env1).bind (k_cnt2 xs) else .stuck
  | _ => .stuck
theorem e_kcnt (fy : Ev) (xs : List D) (env1 : Tw.Env) : k_cnt fy (.tup xs) env1 = if D.oks xs then (fy env1).bind (k_cnt2 xs) else .stuck := (rfl)
theorem e_count (fa fy : Ev) (env : Tw.Env) : fCount fa fy env = (fa env).bind (k_cnt fy) := by
  unfold fCount
  refine congrArg _ (funext fun d => funext fun env1 => ?_)
  cases d <;> rfl
end Tw
noncomputable section
namespace Tw
open PySem PySem.Spec PyProof.Rows L2
/-! ### tuples of whole numbers: <, in, sorted -/
def ltI : List Int → List Int → Bool
  | [], [] => false
  | [], _ :: _ => true
  | _ :: _, [] => false
  | x :: xs, y :: ys => if x = y then ltI xs ys else decide (x < y)
section
variable {X : Cx} {cl : Cl} {K : PySem.W.Frag}
def rLtT (K : PySem.W.Frag) : R2 := fun x y H Q => ∃ (a b : Addr) (ns ms : List Int), x = .ref a ∧ y = .ref b ∧ SqT K H a (ns.map V.int) ∧ SqT K H b (ms.map V.int) ∧ Q (.bl (ltI ns ms)) H
def gLtT : List D → Option D
  | [.tup xs, .tup ys] => (D.ints xs).bind fun ns => (D.ints ys).map fun ms => .bl (ltI ns ms)
  | _ => none
/-! x in xs, by == -/
def rInX (K : PySem.W.Frag) : R2 := fun x y H Q => ∃ d ds, Dp K H x d ∧ (Dp K H y (.list ds) ∨ Dp K H y (.tuple ds)) ∧ SeqAt.shaped d = true ∧ SeqAt.shaped (.list ds) = true ∧ Q (.bl (ds.any fun z => PyData.eqv z d)) H
/-- an expression that is not come to -/
def fNever : Ev := fun _ => .stuck
def gInX : List D → Option D
  | [a, b] => (D.py a).bind fun d => (D.seqK b).bind fun q => (D.pys q.2).bind fun ds => if SeqAt.shaped d && SeqAt.shaped (.list ds) then some (.bl (ds.any fun z => PyData.eqv z d)) else none
  | _ => none
end
/-! sorted(xs), xs a list of tuples of whole numbers, none empty -/
def IsInts (h : Heap) (v : Value) (ns : List Int) : Prop := ∃ a o vs n, v = .ref a ∧ h.get? a = some o ∧ o.cls = .type "tuple" ∧ o.data = .seq vs n ∧ IntsAre vs.toList ns
theorem IsInts.keeps {h h' : Heap} {v : Value} {ns : List Int} (p : IsInts h v ns) (k : ∀ b o, h.get? b = some o → o.cls = .type "tuple" → h'.get? b = some o) : IsInts h' v ns := by
  obtain ⟨a, o, vs, n, e, ho, hc, hd⟩ := p
  exact ⟨a, o, vs, n, e, k _ _ ho hc, hc, hd⟩
section
variable {prog : Program} {w : World} {A : Around} {E : Value → Shared → Prop} {s : Shared}
end
/-- what whole numbers stand in a tuple of the heap -/
def kInts (h : Heap) : Value → List Int
  | .ref a => match h.get? a with
    | some o => match o.data with
      | .seq its _ => its.toList.map SrtO.iv
      | _ => []
    | none => []
  | _ => []
def rSortTI (K : PySem.W.Frag) : List V → Hp → VK → Prop := fun vs H Q => ∃ (a : Addr) (ps : List (V × List Int)), vs = [V.ref a] ∧ SqL K H a (ps.map (·.1)) ∧ (∀ p ∈ ps, (∃ t, p.1 = V.ref t ∧ SqT K H t (p.2.map V.int)) ∧ p.2 ≠ []) ∧
  ∀ (qs : List (V × List Int)) (p : Addr), qs.Perm ps → qs.Pairwise (fun x y => ltI y.2 x.2 = false) → H p = none → Q (.ref p) (upd H p (.lst (qs.map (·.1))))
section
variable {X : Cx} {cl : Cl} {K : PySem.W.Frag}
def sortT (ls : List (List Int)) : List (List Int) := ls.mergeSort fun a b => !ltI b a
/-- the rows of a list of data, if each is a tuple of whole numbers, none empty -/
def D.rowsI : List D → Option (List (List Int))
  | [] => some []
  | .tup (k :: ks) :: ds => (D.ints (k :: ks)).bind fun n => (D.rowsI ds).map fun r => n :: r
  | _ => none
def gSortT : List D → Option D
  | [.lst _ xs] => (D.rowsI xs).map fun ls => .lst true (rows (sortT ls))
  | _ => none
theorem sortT_1 (m : Bool) (xs : List D) : gSortT [.lst m xs] = (D.rowsI xs).map fun ls => .lst true (rows (sortT ls)) := (rfl)
theorem ltT_2 (xs ys : List D) : gLtT [.tup xs, .tup ys] = (D.ints xs).bind fun ns => (D.ints ys).map fun ms => .bl (ltI ns ms) := (rfl)
theorem lt_intsT (a b : List Int) : gLtT [.tup (a.map .int), .tup (b.map .int)] = some (.bl (ltI a b)) := by
  rw [ltT_2, Tw.ints_map, Tw.ints_map]; rfl
end
end Tw
noncomputable section
namespace Tw
open PySem PySem.Spec PyProof.Rows L2
/-! ### dicts with whole numbers and texts as keys: in, not in, a display of one entry, list(d) -/
def gInDk (neg : Bool) : List D → Option D
  | [k, .dct _ ks _] => (D.key k).map fun x => .bl (if neg then !inK ks x else inK ks x)
  | _ => none
def keyD : Key → D
  | .inl i => .int i
  | .inr x => .str x
def gListK : List D → Option D
  | [.dct _ ks _] => some (.lst true (ks.map keyD))
  | _ => none
def fDct1 (k : Int) (d : D) : Ev := fun env => .ok (.dct true [.inl k] [d]) env
section
variable {X : Cx} {cl : Cl} {W : WX} {a b c o e : Expr} {es : List Expr} {pos apos p pf : Pos} {x : Str} {fa fb fc : Ev} {io : List Nat} {i : Nat} {K : PySem.W.Frag} {M : Addr → Prop} {H : Hp}
def rInDk (neg : Bool) : R2 := fun x y H Q => ∃ k a kvs, x = kV k ∧ y = .ref a ∧ Rd H a (.dK kvs) ∧ Q (.bl (if neg then !(valV kvs k).isSome else (valV kvs k).isSome)) H
def rListK : List V → Hp → VK → Prop := fun xs H Q => ∃ (a : Addr) (kvs : List (Key × V)), xs = [.ref a] ∧ Rd H a (.dK kvs) ∧ ∀ p, H p = none → Q (.ref p) (upd H p (.lst (kvs.map fun kv => kV kv.1)))
/-! ### a dict that is walked stands still -/
/-! ### a comprehension over a dict that the def owns -/
def fCompK (vs : List Nat) (i : Nat) (b : Bd) (t : EvB) (f : Ev) : Ev := fun env => match ownDAt env i with
  | some q => if lenOk q.1.length then (compGo vs b t f (q.1.map keyD) [] (wipeE (env.set i none) vs)).bind fun ds env2 => .ok (.lst true ds) (env2.set i (some (.dct true q.1 q.2))) else .stuck
  | none => .stuck
/-! ### while -/
end
end Tw
noncomputable section
/-! ### set(l) of a list of whole numbers -/
namespace Tw
open PySem PySem.Spec PyProof.Rows L2
/-- the empty set as it is made -/
abbrev noSet (w : World) : Obj := { cls := .type "set", dict := none, data := .set #[] 0 (.fresh 0 0 (!w.params.followText "set-order")) }
section
variable {P : Program} {w : World} {A : Around} {E : Value → Shared → Prop} {s : Shared}
end
def rSetLI (K : PySem.W.Frag) (w : World) : List V → Hp → VK → Prop := fun vs H Q => ∃ (l : Addr) (ns : List Int), vs = [.ref l] ∧ SqL K H l (ns.map V.int) ∧ ns.length < 64 ∧
  ∀ p n, H p = none → n ≤ ns.length → Q (.ref p) (upd H p (SetO w p (fun j => decide (j ∈ ns)) n))
def fSortSet (f : Ev) : Ev := fun env => (f env).bind fun d env1 => match d with
  | .lst _ xs => match D.ints xs with
    | some ns => if ns.length < 64 then .ok (.lst true (((nub ns).mergeSort fun a b => decide (a ≤ b)).map .int)) env1 else .stuck
    | none => .stuck
  | _ => .stuck
section
variable {X : Cx} {cl : Cl} {W : WX} {a b c o e : Expr} {es : List Expr} {pos apos p pf : Pos} {x : Str} {fa fb fc : Ev} {io : List Nat} {i : Nat} {K : PySem.W.Frag} {M : Addr → Prop} {H : Hp}
end
end Tw
noncomputable section
namespace Tw
open PySem PySem.Spec PyProof.Rows L2
/-! ### a dict of the top with texts as keys, read only -/
def lookS : List (Str × D) → Str → Option D
  | p :: ps, x => if p.1 = x then some p.2 else lookS ps x
  | [], _ => none
def gLet (tbl : List (Str × D)) : List D → Option D
  | [.str x] => lookS tbl x
  | _ => none
/-- such a dict stands at a name -/
def TblK (K : PySem.W.Frag) (w : World) (u : Option Value) (tbl : List (Str × D)) : Prop := ∃ a es n, u = some (.ref a) ∧ KDict K w a es n ∧ ∀ p ∈ tbl, ∃ u0, PySem.W.nsIn K a p.1 = some (some u0) ∧ KD K p.2 u0
section
variable {X : Cx} {cl : Cl} {W : WX} {a b c o e : Expr} {es : List Expr} {pos apos p pf : Pos} {x : Str} {fa fb fc : Ev} {io : List Nat} {i : Nat} {K : PySem.W.Frag} {M : Addr → Prop} {H : Hp} {o2 : Opd}
def rKd (K : PySem.W.Frag) (d : Addr) : R2 := fun x y H Q => ∃ (z : Str) (u0 : Value) (v0 : V), x = .ref d ∧ y = .str z ∧ PySem.W.nsIn K d z = some (some u0) ∧ RelV v0 u0 ∧ Q v0 H
/-! ### a display whose keys are tuples of the top, its values whole numbers -/
def evI : List Ev → Tw.Env → Rs (List Int)
  | [], env => .ok [] env
  | f :: fs, env => (f env).bind fun d env1 => match D.asI d with
    | some i => (evI fs env1).bind fun is env2 => .ok (i :: is) env2
    | none => .stuck
def fDispI (ks : List (List Int)) (fs : List Ev) : Ev := fun env => if ks.length = fs.length ∧ ks.Nodup then (evI fs env).bind fun is env1 => .ok (.dtt ks (is.map .int)) env1 else .stuck
def tKG (K : PySem.W.Frag) (k : List Int) : TE := fun _ H Q => ∀ b, KTup K b (k.map V.int) → Q (.ref b) H
def dispG (K : PySem.W.Frag) (cl : Cl) (W : WX) : List (List Int) → List Ev → List (TE × TE)
  | k :: ks, f :: fs => (tKG K k, tE K cl W f) :: dispG K cl W ks fs
  | _, _ => []
/-- a new thing that nobody else sees -/
theorem Rel.pin {κ : Tw.Env} {τ : S} {p : Addr} {o : HO} (r : Rel K cl H κ τ) (hp : H p = none) (ho : HOpl o) : Rel K cl (upd H p o) (some (.wlk true (fun _ => o) [] []) :: κ) (some (.ref p) :: τ) := by
  obtain ⟨F, n, h⟩ := r
  have np : p ∉ F := fun z => by
    obtain ⟨_, o, e⟩ := slots_in h p z
    rw [hp] at e; cases e
  refine ⟨p :: F, List.nodup_cons.mpr ⟨np, n⟩, .ref p, _, [p], F, rfl, rfl, ⟨p, [], [], rfl, upd_same, ⟨rfl, fun _ us l _ => List.eq_nil_of_length_eq_zero l.symm, ho⟩, ⟨rfl, rfl⟩, .inl ⟨rfl, List.mem_cons_self, rfl⟩⟩, ?_⟩
  refine slots_tr h (fun a z => ?_) (fun a z => List.mem_cons_of_mem _ z) fun a o e _ => same_upd hp a o e
  rcases List.mem_cons.mp z with rfl | z
  · exact .inr hp
  · exact .inl z
end
end Tw
noncomputable section
/-! ### dict comprehensions with two clauses -/
namespace DcT
open PySem PySem.Spec PyProof.Rows L2
/-- {kx: vx for t0 in i0 if .. for t1 in i1 if ..} -/
abbrev dc2 (kx vx t0 i0 t1 i1 : Expr) (c0 c1 : List Expr) (sc : Scope) (pos : Pos) : Expr := .DictComp kx vx [⟨t0, i0, c0, 0⟩, ⟨t1, i1, c1, 0⟩] sc pos
section
variable {prog : Program} {w : World} {A : Around} {R : Result → Shared → Prop} {s : Shared} {kx vx t0 i0 t1 i1 : Expr} {c0 c1 : List Expr} {sc : Scope} {pos : Pos} {it acc : Value} {env : Env} {D : Addr}
/-- what a raise in a block owes -/
abbrev Nt (prog : Program) (w : World) (A : Around) (env : Env) (R : Result → Shared → Prop) : Value → Shared → Prop := notedBy (model prog w) A env fun e s' => R (.error e) s'
abbrev goods (cs : List Expr) (env : Env) : Sem Bool := forIn cs true fun c r => if r = true then do let good ← PySem.isTrue c env (eval c env); pure (ForInStep.yield good) else pure (ForInStep.yield r)
end
/-- as tDc of HandS, with a second clause -/
def tDc2 (wi : TI) (g : TG) (tt : TT) (wi1 : TI) (g1 : TG) (tt1 : TT) (tk tv : TE) (vs vs1 : List Nat) : TE := fun σ H Q => wi σ H fun J H1 => ∀ D, H1 D = none → ∃ W : Nat → Nat → Hp → Prop, (∃ m, W 0 m (upd H1 D (.dK []))) ∧ ∀ i m H, W i m H →
  (J.stop i H ∧ Q (.ref D) H) ∨ (J.go i H ∧ ∃ Nx : Hp → Prop, (∀ H', Nx H' → ∃ m', m' < m ∧ W (i + 1) m' H') ∧ ∀ x H', J.yld i H x H' → g x (wipe σ vs) H' fun σ2 H2 => wipe σ2 vs = wipe σ vs ∧ tt σ2 H2 fun b H3 =>
    if b = true then wi1 σ2 H3 fun J1 H4 => ∃ W1 : Nat → Nat → Hp → Prop, (∃ m, W1 0 m H4) ∧ ∀ j k H, W1 j k H →
      (J1.stop j H ∧ Nx H) ∨ (J1.go j H ∧ ∃ Nx1 : Hp → Prop, (∀ H', Nx1 H' → ∃ k', k' < k ∧ W1 (j + 1) k' H') ∧ ∀ x H', J1.yld j H x H' → g1 x (wipe σ2 vs1) H' fun σ3 H5 => wipe σ3 vs1 = wipe σ2 vs1 ∧ tt1 σ3 H5 fun b H6 =>
        if b = true then tk σ3 H6 fun y H7 => tv σ3 H7 fun z H8 => ∃ kvs k, y = kV k ∧ H8 D = some (.dK kvs) ∧ kvs.length < sizeLine ∧ Nx1 (upd H8 D (.dK (putK kvs k z))) else Nx1 H6)
    else Nx H3)
section
variable {X : Cx}
/-- from any def's block: the stretch of text behind the source -/
abbrev Blk (X : Cx) (sc : Scope) (T : Cx → Prop) : Prop := ∀ (s : Shared) (H : Hp) (C : Addr) (cls : List (Str × Addr)) (fp : List Addr), T (X.blk s H sc (compEnvC sc cls C X.env) fp)
end
end DcT
noncomputable section
namespace Tw
open PySem PySem.Spec PyProof.Rows L2 DcT
/-! ### {k: v for a in d for b in ..}, d a dict that the def owns -/
def dcGo1 (vs1 : List Nat) (b1 : Bd) (t1 : EvB) (fk fv : Ev) : List D → List Key × List D → Tw.Env → Rs (List Key × List D)
  | [], acc, env => .ok acc env
  | d :: ds, acc, env => match b1 d env with
    | none => .stuck
    | some env1 => (t1 env1).ne.bind fun k env2 => if k = true then (fk env2).ne.bind fun kd env3 => (fv env3).ne.bind fun y env4 => match D.key kd with
        | some x => if D.oks acc.2 && D.ok y && lenOk (acc.1.length + 1) then dcGo1 vs1 b1 t1 fk fv ds (putKs acc.1 x, putDs acc.1 acc.2 x y) (wipeE env4 vs1) else .stuck
        | none => .stuck
      else dcGo1 vs1 b1 t1 fk fv ds acc (wipeE env2 vs1)
def dcGo (vs vs1 : List Nat) (b : Bd) (t : EvB) (fi1 : Tw.Env → Rs (List D)) (b1 : Bd) (t1 : EvB) (fk fv : Ev) : List D → List Key × List D → Tw.Env → Rs (List Key × List D)
  | [], acc, env => .ok acc env
  | d :: ds, acc, env => match b d env with
    | none => .stuck
    | some env1 => (t env1).ne.bind fun k env2 => if k = true then (fi1 env2).ne.bind fun items1 env3 =>
        (dcGo1 vs1 b1 t1 fk fv items1 acc (wipeE env3 vs1)).bind fun acc2 env4 => dcGo vs vs1 b t fi1 b1 t1 fk fv ds acc2 (wipeE env4 vs)
      else dcGo vs vs1 b t fi1 b1 t1 fk fv ds acc (wipeE env2 vs)
def fDc2 (vs vs1 : List Nat) (i : Nat) (b : Bd) (t : EvB) (fi1 : Tw.Env → Rs (List D)) (b1 : Bd) (t1 : EvB) (fk fv : Ev) : Ev := fun env => match ownDAt env i with
  | some q => (dcGo vs vs1 b t fi1 b1 t1 fk fv (q.1.map keyD) ([], []) (wipeE (env.set i none) vs)).bind fun acc env2 => .ok (.dct true acc.1 acc.2) (env2.set i (some (.dct true q.1 q.2)))
  | none => .stuck
section
variable {X : Cx} {cl : Cl} {W : WX} {pos : Pos} {K : PySem.W.Frag} {H : Hp} {io : List Nat}
end
end Tw
noncomputable section
namespace Tw
open PySem PySem.Spec PyProof.Rows L2
/-! ### zip of a tuple with a list -/
def ItzW (K : PySem.W.Frag) (a b : Addr) (n1 n2 : Nat) : It :=
  ⟨fun i H => ∃ (xs ys : List V) (x y : V), SqT K H a xs ∧ SqL K H b ys ∧ (xs.length = n1 ∧ ys.length = n2) ∧ xs[i]? = some x ∧ ys[i]? = some y,
    fun i H v H' => ∃ T x y, v = .ref T ∧ H T = none ∧ H' = upd H T (.tup [x, y]) ∧ (∀ xs, SqT K H a xs → xs[i]? = some x) ∧ ∀ ys, SqL K H b ys → ys[i]? = some y,
    fun i H => ∃ xs ys : List V, SqT K H a xs ∧ SqL K H b ys ∧ (xs.length = n1 ∧ ys.length = n2) ∧ (xs.length ≤ i ∨ ys.length ≤ i)⟩
def zipOfW : List D → Option (List D × List D)
  | [x, y] => (D.seqK x).bind fun p => (D.seqK y).bind fun q => match p.1, q.1 with
    | true, false => some (p.2, q.2)
    | _, _ => none
  | _ => none
def iZipW (os : List Ev) : Tw.Env → Rs (List D) := fun env => (evs (vals os) env).bind fun ds env1 => match zipOfW ds with
  | some q => .ok (zipD q.1 q.2) env1
  | none => .stuck
section
variable {X : Cx} {cl : Cl} {W : WX} {a b c o e : Expr} {es : List Expr} {pos apos cpos p pf : Pos} {x : Str} {fa fb fc : Ev} {io : List Nat} {i : Nat} {M : Addr → Prop} {H : Hp}
/-! ### d.get(k) -/
def D.anyD : D → Option (List Key × List D)
  | .dct _ ks xs => some (ks, xs)
  | _ => none
def dctAt (env : Tw.Env) (i : Nat) : Option (List Key × List D) := (env[i]?.join).bind D.anyD
def fDGet (i : Nat) (f : Ev) : Ev := fun env => match dctAt env i with
  | some _ => (f env).bind fun k env1 => match (dctAt env1 i).bind fun q => (D.key k).bind fun x => if D.oks q.2 then some ((lookK q.1 q.2 x).getD .non) else none with
    | some d => .ok d env1
    | none => .stuck
  | none => .stuck
/-! ### sorted(d), whole numbers as keys, any length -/
def intsK : List Key → Option (List Int)
  | [] => some []
  | .inl i :: ks => (intsK ks).map (i :: ·)
  | .inr _ :: _ => none
def gSortDk : List D → Option D
  | [.dct _ ks _] => (intsK ks).map fun ns => .lst true ((ns.mergeSort fun a b => decide (a ≤ b)).map .int)
  | _ => none
def rSortDk : List V → Hp → VK → Prop := fun xs H Q => ∃ (a : Addr) (kvs : List (Key × V)) (ks : List Int), xs = [.ref a] ∧ Rd H a (.dK kvs) ∧ kvs.map (·.1) = ks.map Sum.inl ∧
    ∀ (ys : List Int) (p : Addr), ys.Perm ks → ys.Pairwise (· ≤ ·) → H p = none → Q (.ref p) (upd H p (.lst (ys.map V.int)))
end
end Tw
noncomputable section
namespace Tw
open PySem PySem.Spec PyProof.Rows L2 DcT
/-! ### x.bit_length() -/
def bitsI (i : Int) : Int := (Builtin.Int.intBits i : Nat)
def gBits : Ev → Ev := fun f env => (f env).bind fun d env1 => match d with
  | .int i => .ok (.int (bitsI i)) env1
  | _ => .stuck
section
variable {X : Cx} {cl : Cl} {W : WX} {a b c e : Expr} {es : List Expr} {pos apos p pf : Pos} {x : Str} {fa fb fc : Ev} {io : List Nat} {o : Expr} {i : Nat} {K : PySem.W.Frag} {M : Addr → Prop} {H : Hp}
/-! ### a dict in a field of an object that the def owns -/
def fldD (own : Nat → Bool) (f : Str) : Option (Nat × List Str × List D) → Option ((Nat × List Str × List D) × (List Key × List D))
  | some q => if own q.1 then ((lookD q.2.1 q.2.2 f).bind D.ownD).map fun xs => (q, xs) else none
  | none => none
/-- a op o.f -/
def fNvf (g : List D → Option D) (fa : Ev) (i : Nat) (own : Nat → Bool) (f : Str) : Ev := fun env => (fa env).bind fun a env1 => match fldD own f (ownOAt env1 i) with
  | some z => match g [a, .dct true z.2.1 z.2.2] with
    | some d => .ok d env1
    | none => .stuck
  | none => .stuck
/-- o.f op b -/
def fNfv (g : List D → Option D) (i : Nat) (own : Nat → Bool) (f : Str) (fb : Ev) : Ev := fun env => match fldD own f (ownOAt env i) with
  | some z => (fb (env.set i none)).bind fun b env1 => match g [.dct true z.2.1 z.2.2, b] with
    | some d => .ok d (env1.set i (some (.obj true z.1.1 z.1.2.1 z.1.2.2)))
    | none => .stuck
  | none => .stuck
/-! ### o.f[k] = e -/
def sFDStore (i : Nat) (own : Nat → Bool) (f : Str) (fk fv : Ev) : Sv := fun env => sBind (fv env) fun d env1 => match fldD own f (ownOAt env1 i) with
  | some z => sBind (fk (env1.set i none)) fun k env2 => match (D.key k).bind fun x => if D.oks z.2.2 && D.ok d && lenOk (z.2.1.length + 1) then some (putKs z.2.1 x, putDs z.2.1 z.2.2 x d) else none with
    | some es => .next (env2.set i (some (.obj true z.1.1 z.1.2.1 (putD f (.dct true es.1 es.2) z.1.2.1 z.1.2.2))))
    | none => .stuck
  | none => .stuck
/-! ### o.m() of an own class -/
def D.anyO : D → Option (Nat × List Str × List D)
  | .obj _ c ns ds => some (c, ns, ds)
  | _ => none
def anyOAt (env : Tw.Env) (i : Nat) : Option (Nat × List Str × List D) := (env[i]?.join).bind D.anyO
def fMeth0 (i c : Nat) (mn : Str) (io : List Nat) (h : List D → Rf) : Ev := fun env => match anyOAt env i with
  | some q => if decide (q.1 = c) && decide (q.2.1.length = q.2.2.length) && decide (mn ∉ q.2.1) then fCall io h [.slot i] env else .stuck
  | none => .stuck
end
end Tw
noncomputable section
namespace Tw
open PySem PySem.Spec PyProof.Rows L2 DcT
/-! ### {k: v for a in xs} -/
def fDc1 (vs : List Nat) (fi : Tw.Env → Rs (List D)) (b : Bd) (t : EvB) (fk fv : Ev) : Ev := fun env => (fi env).bind fun items env1 => (dcGo1 vs b t fk fv items ([], []) (wipeE env1 vs)).bind fun acc env2 => .ok (.dct true acc.1 acc.2) env2
section
variable {X : Cx} {cl : Cl} {W : WX} {pos : Pos} {K : PySem.W.Frag} {H : Hp} {io : List Nat}
end
section
variable {X : Cx} {cl : Cl} {W : WX} {pos p : Pos} {io : List Nat}
end
theorem e_dc1 (vs : List Nat) (fi : Tw.Env → Rs (List D)) (b : Bd) (t : EvB) (fk fv : Ev) (env : Tw.Env) : fDc1 vs fi b t fk fv env = (fi env).bind fun items env1 => (dcGo1 vs b t fk fv items ([], []) (wipeE env1 vs)).bind fun acc env2 => .ok (.dct true acc.1 acc.2) env2 := (rfl)
/-- one turn of a for -/
theorem for_next {bd : Bd} {body : Sv} {d : D} {ds : List D} {env env1 env2 : Tw.Env} (h1 : bd d env = some env1) (h2 : body env1 = .next env2 ∨ body env1 = .cont env2) : forGo bd body (d :: ds) env = forGo bd body ds env2 := by
  rw [forGo, h1]
  rcases h2 with h2 | h2 <;> simp only [h2]
/-! ### sorted(set(t)), t a tuple of whole numbers -/
def rSetTI (K : PySem.W.Frag) (w : World) : List V → Hp → VK → Prop := fun vs H Q => ∃ (l : Addr) (ns : List Int), vs = [.ref l] ∧ SqT K H l (ns.map V.int) ∧ ns.length < 64 ∧
  ∀ p n, H p = none → n ≤ ns.length → Q (.ref p) (upd H p (SetO w p (fun j => decide (j ∈ ns)) n))
def fSortSetT (f : Ev) : Ev := fun env => (f env).bind fun d env1 => match D.seqK d with
  | some (true, xs) => (match D.ints xs with
    | some ns => if ns.length < 64 then .ok (.lst true (((nub ns).mergeSort fun a b => decide (a ≤ b)).map .int)) env1 else .stuck
    | none => .stuck)
  | _ => .stuck
section
variable {X : Cx} {cl : Cl} {W : WX} {a : Expr} {pos p : Pos} {fa : Ev}
end
def k_sortSetT : D → Tw.Env → Rs D := fun d env1 => match D.seqK d with
  | some (true, xs) => (match D.ints xs with
    | some ns => if ns.length < 64 then .ok (.lst true (((nub ns).mergeSort fun a b => decide (a ≤ b)).map .int)) env1 else .stuck
    | none => .stuck)
  | _ => .stuck
theorem e_sortSetT (f : Ev) (env : Tw.Env) : fSortSetT f env = (f env).bind k_sortSetT := (rfl)
/-! ### evaluation -/
def k_bits : D → Tw.Env → Rs D := fun d env1 => match d with
  | .int i => .ok (.int (bitsI i)) env1
  | _ => .stuck
theorem e_bits (f : Ev) (env : Tw.Env) : gBits f env = (f env).bind k_bits := (rfl)
theorem e_kbits (i : Int) (env : Tw.Env) : k_bits (.int i) env = .ok (.int (bitsI i)) env := (rfl)
theorem fldD_1 (own : Nat → Bool) (f : Str) (q : Nat × List Str × List D) : fldD own f (some q) = if own q.1 then ((lookD q.2.1 q.2.2 f).bind D.ownD).map fun xs => (q, xs) else none := (rfl)
def nvfR (g : List D → Option D) (a : D) (env1 : Tw.Env) : Option ((Nat × List Str × List D) × (List Key × List D)) → Rs D
  | some z => gR env1 (g [a, .dct true z.2.1 z.2.2])
  | none => .stuck
def k_nvf (g : List D → Option D) (i : Nat) (own : Nat → Bool) (f : Str) : D → Tw.Env → Rs D := fun a env1 => nvfR g a env1 (fldD own f (ownOAt env1 i))
theorem e_nvf (g : List D → Option D) (fa : Ev) (i : Nat) (own : Nat → Bool) (f : Str) (env : Tw.Env) : fNvf g fa i own f env = (fa env).bind (k_nvf g i own f) := by
  unfold fNvf k_nvf
  congr 1
theorem e_knvf (g : List D → Option D) (i : Nat) (own : Nat → Bool) (f : Str) (a : D) (env1 : Tw.Env) : k_nvf g i own f a env1 = nvfR g a env1 (fldD own f (ownOAt env1 i)) := (rfl)
theorem nvfR_1 (g : List D → Option D) (a : D) (env1 : Tw.Env) (z : (Nat × List Str × List D) × (List Key × List D)) : nvfR g a env1 (some z) = gR env1 (g [a, .dct true z.2.1 z.2.2]) := (rfl)
def k_nfv (g : List D → Option D) (i : Nat) (z : (Nat × List Str × List D) × (List Key × List D)) : D → Tw.Env → Rs D := fun b env1 => gR (env1.set i (some (.obj true z.1.1 z.1.2.1 z.1.2.2))) (g [.dct true z.2.1 z.2.2, b])
def nfvR (g : List D → Option D) (i : Nat) (fb : Ev) (env : Tw.Env) : Option ((Nat × List Str × List D) × (List Key × List D)) → Rs D
  | some z => (fb (env.set i none)).bind (k_nfv g i z)
  | none => .stuck
theorem e_nfv (g : List D → Option D) (i : Nat) (own : Nat → Bool) (f : Str) (fb : Ev) (env : Tw.Env) : fNfv g i own f fb env = nfvR g i fb env (fldD own f (ownOAt env i)) := by
  unfold fNfv
  cases fldD own f (ownOAt env i) with
  | none => rfl
  | some z =>
    show _ = (fb (env.set i none)).bind (k_nfv g i z)
    simp only
    congr 1
theorem nfvR_1 (g : List D → Option D) (i : Nat) (fb : Ev) (env : Tw.Env) (z : (Nat × List Str × List D) × (List Key × List D)) : nfvR g i fb env (some z) = (fb (env.set i none)).bind (k_nfv g i z) := (rfl)
theorem e_knfv (g : List D → Option D) (i : Nat) (z : (Nat × List Str × List D) × (List Key × List D)) (b : D) (env1 : Tw.Env) : k_nfv g i z b env1 = gR (env1.set i (some (.obj true z.1.1 z.1.2.1 z.1.2.2))) (g [.dct true z.2.1 z.2.2, b]) := (rfl)
def fds2R (i : Nat) (f : Str) (q : Nat × List Str × List D) (env2 : Tw.Env) : Option (List Key × List D) → Out
  | some es => .next (env2.set i (some (.obj true q.1 q.2.1 (putD f (.dct true es.1 es.2) q.2.1 q.2.2))))
  | none => .stuck
def k_fds2 (i : Nat) (f : Str) (d : D) (z : (Nat × List Str × List D) × (List Key × List D)) : D → Tw.Env → Out := fun k env2 => fds2R i f z.1 env2 ((D.key k).bind fun x => if D.oks z.2.2 && D.ok d && lenOk (z.2.1.length + 1) then some (putKs z.2.1 x, putDs z.2.1 z.2.2 x d) else none)
def fdsR (i : Nat) (f : Str) (fk : Ev) (d : D) (env1 : Tw.Env) : Option ((Nat × List Str × List D) × (List Key × List D)) → Out
  | some z => sBind (fk (env1.set i none)) (k_fds2 i f d z)
  | none => .stuck
def k_fds1 (i : Nat) (own : Nat → Bool) (f : Str) (fk : Ev) : D → Tw.Env → Out := fun d env1 => fdsR i f fk d env1 (fldD own f (ownOAt env1 i))
theorem e_fds (i : Nat) (own : Nat → Bool) (f : Str) (fk fv : Ev) (env : Tw.Env) : sFDStore i own f fk fv env = sBind (fv env) (k_fds1 i own f fk) := by
  unfold sFDStore
  congr 1
theorem e_kfds1 (i : Nat) (own : Nat → Bool) (f : Str) (fk : Ev) (d : D) (env1 : Tw.Env) : k_fds1 i own f fk d env1 = fdsR i f fk d env1 (fldD own f (ownOAt env1 i)) := (rfl)
theorem fdsR_1 (i : Nat) (f : Str) (fk : Ev) (d : D) (env1 : Tw.Env) (z : (Nat × List Str × List D) × (List Key × List D)) : fdsR i f fk d env1 (some z) = sBind (fk (env1.set i none)) (k_fds2 i f d z) := (rfl)
theorem e_kfds2 (i : Nat) (f : Str) (d : D) (z : (Nat × List Str × List D) × (List Key × List D)) (k : D) (env2 : Tw.Env) : k_fds2 i f d z k env2 = fds2R i f z.1 env2 ((D.key k).bind fun x => if D.oks z.2.2 && D.ok d && lenOk (z.2.1.length + 1) then some (putKs z.2.1 x, putDs z.2.1 z.2.2 x d) else none) := (rfl)
theorem fds2R_1 (i : Nat) (f : Str) (q : Nat × List Str × List D) (env2 : Tw.Env) (es : List Key × List D) : fds2R i f q env2 (some es) = .next (env2.set i (some (.obj true q.1 q.2.1 (putD f (.dct true es.1 es.2) q.2.1 q.2.2)))) := (rfl)
def anyR : Option (Option D) → Option (Nat × List Str × List D)
  | some (some (.obj _ c ns ds)) => some (c, ns, ds)
  | _ => none
theorem e_any (env : Tw.Env) (i : Nat) : anyOAt env i = anyR env[i]? := by
  unfold anyOAt
  cases env[i]? with
  | none => rfl
  | some x => cases x with
    | none => rfl
    | some d => cases d <;> rfl
theorem anyR_1 (m : Bool) (c : Nat) (ns : List Str) (ds : List D) : anyR (some (some (.obj m c ns ds))) = some (c, ns, ds) := (rfl)
def meth0R (i c : Nat) (mn : Str) (io : List Nat) (h : List D → Rf) (env : Tw.Env) : Option (Nat × List Str × List D) → Rs D
  | some q => if decide (q.1 = c) && decide (q.2.1.length = q.2.2.length) && decide (mn ∉ q.2.1) then fCall io h [.slot i] env else .stuck
  | none => .stuck
theorem e_meth0 (i c : Nat) (mn : Str) (io : List Nat) (h : List D → Rf) (env : Tw.Env) : fMeth0 i c mn io h env = meth0R i c mn io h env (anyOAt env i) := by
  unfold fMeth0
  cases anyOAt env i <;> rfl
theorem meth0R_1 (i c : Nat) (mn : Str) (io : List Nat) (h : List D → Rf) (env : Tw.Env) (q : Nat × List Str × List D) : meth0R i c mn io h env (some q) = if decide (q.1 = c) && decide (q.2.1.length = q.2.2.length) && decide (mn ∉ q.2.1) then fCall io h [.slot i] env else .stuck := (rfl)
/-- a dict comprehension whose turns are known -/
def putE (a : List Key × List D) (k : Key) (d : D) : List Key × List D := (putKs a.1 k, putDs a.1 a.2 k d)
end Tw
noncomputable section
namespace Tw
open PySem PySem.Spec PyProof.Rows L2
/-! ### dicts whose keys are tuples (D.dcd) -/
def lookN {α : Type} : List D → List α → NestedKey → Option α
  | k :: ks, d :: ds, x => if D.keyN k = some x then some d else lookN ks ds x
  | _, _, _ => none
def inN (ks : List D) (x : NestedKey) : Bool := ks.any fun k => decide (D.keyN k = some x)
def putNs (ks : List D) (kd : D) (x : NestedKey) : List D := if inN ks x = true then ks else ks ++ [kd]
def putNAt {α : Type} : List D → List α → NestedKey → α → List α
  | k :: ks, d :: ds, x, y => (if D.keyN k = some x then y else d) :: putNAt ks ds x y
  | _, _, _, _ => []
def putND {α : Type} (ks : List D) (ds : List α) (x : NestedKey) (y : α) : List α := if inN ks x = true then putNAt ks ds x y else ds ++ [y]
def gIxN : List D → Option D
  | [.dcd _ ks ds, k] => (D.keyN k).bind fun x => if D.oks ds then lookN ks ds x else none
  | _ => none
def gInN (neg : Bool) : List D → Option D
  | [k, .dcd _ ks _] => (D.keyN k).map fun x => .bl (if neg then !inN ks x else inN ks x)
  | _ => none
def gLenN : List D → Option D
  | [.dcd _ ks _] => some (.int ks.length)
  | _ => none
def fNNew : Ev := fun env => .ok (.dcd true [] []) env
def D.ownN : D → Option (List D × List D)
  | .dcd true ks xs => some (ks, xs)
  | _ => none
def ownNAt (env : Tw.Env) (i : Nat) : Option (List D × List D) := (env[i]?.join).bind D.ownN
def putN2 (q : List D × List D) (k d : D) : Option (List D × List D) := (D.keyN k).bind fun x => if D.oks q.2 && D.ok d && lenOk (q.1.length + 1) then some (putNs q.1 k x, putND q.1 q.2 x d) else none
def nst2 (i : Nat) (k d : D) (env2 : Tw.Env) : Out := match (ownNAt env2 i).bind fun q => putN2 q k d with
  | some es => .next (env2.set i (some (.dcd true es.1 es.2)))
  | none => .stuck
def sNStore (i : Nat) (fi f : Ev) : Sv := fun env => sBind (f env) fun d env1 => match ownNAt env1 i with
  | none => .stuck
  | some _ => sBind (fi env1) fun k env2 => nst2 i k d env2
section
variable {X : Cx} {cl : Cl} {W : WX} {a b c o e : Expr} {es : List Expr} {pos apos cpos p pf : Pos} {x : Str} {fa fb fc : Ev} {io : List Nat} {i : Nat} {K : PySem.W.Frag} {M : Addr → Prop} {H : Hp}
mutual
theorem nest_at {pins : List (Addr × Obj)} {σ : S} {s : Shared} (I : Inv X pins σ H s) : ∀ {d : D} {k : NestedKey} {v : V} {u : Value} {f : List Addr}, Dat X.K cl M H d v f → D.kN d = some k → RelV v u → NestedIs s.heap k u
  | .non, _, _, _, _, h, e, r => by
    cases e
    rw [h.1] at r
    cases r
    exact .none
  | .int i, _, _, _, _, h, e, r => by
    cases e
    rw [h.1] at r
    obtain ⟨t, rfl⟩ := r
    exact .int _ _
  | .tup ds, _, _, _, _, h, e, r => by
    simp only [D.kN, Option.map_eq_some_iff] at e
    obtain ⟨ks, e, rfl⟩ := e
    obtain ⟨a, vs, rfl, t, hd⟩ := h
    obtain rfl : _ = Value.ref a := r
    obtain ⟨its, r2, ⟨o, h1, h2, n, h3⟩, hz⟩ := I.tuple t.sq
    exact .tup h1 h2 h3 (by simpa using nests_at I hd e r2)
  | .bl _, _, _, _, _, _, e, _ | .str _, _, _, _, _, _, e, _ | .ty _, _, _, _, _, _, e, _ | .cl _, _, _, _, _, _, e, _ | .scr _, _, _, _, _, _, e, _ | .at _, _, _, _, _, _, e, _ | .pr _, _, _, _, _, _, e, _ | .dtt _ _, _, _, _, _, _, e, _ | .lst _ _, _, _, _, _, _, e, _ | .obj _ _ _ _, _, _, _, _, _, e, _ | .dct _ _ _, _, _, _, _, _, e, _ | .dcd _ _ _, _, _, _, _, _, e, _ | .wlk _ _ _ _, _, _, _, _, _, e, _ | .ex _ _ _ _ _, _, _, _, _, _, e, _ => by simp [D.kN] at e
theorem nests_at {pins : List (Addr × Obj)} {σ : S} {s : Shared} (I : Inv X pins σ H s) : ∀ {ds : List D} {ks : List NestedKey} {vs : List V} {us : List Value} {f : List Addr}, Dats X.K cl M H ds vs f → D.kNs ds = some ks → Vals vs us → NestedAll s.heap ks us
  | [], _, _, _, _, h, e, r => by
    cases e
    rw [h.1] at r
    cases r
    exact .nil
  | d :: ds, _, _, _, _, h, e, r => by
    simp only [D.kNs, Option.bind_eq_some_iff, Option.map_eq_some_iff] at e
    obtain ⟨k, e1, ks, e2, rfl⟩ := e
    obtain ⟨v, vs', f1, f2, rfl, _, h1, h2⟩ := h
    cases r with
    | cons r1 r2 => exact .cons (nest_at I h1 e1 r1) (nests_at I h2 e2 r2)
end
def KeyAt (K : PySem.W.Frag) (cl : Cl) (H : Hp) (k : NestedKey) (b : Addr) : Prop := ∃ (d : D) (M : Addr → Prop) (f : List Addr), Dat K cl M H d (.ref b) f ∧ D.keyN d = some k
theorem KeyAt.is {pins : List (Addr × Obj)} {σ : S} {s : Shared} {k : NestedKey} {b : Addr} (I : Inv X pins σ H s) (h : KeyAt X.K cl H k b) : (nestedKind X.prog X.w).is s.heap k b := by
  obtain ⟨d, M, f, h1, h2⟩ := h
  exact ⟨nest_at I h1 (D.keyN_kN h2).1 rfl, (D.keyN_kN h2).2⟩
theorem KeyAt.hash {k : NestedKey} {b : Addr} (w : World) (h : KeyAt K cl H k b) : k.hash w = hashN k := by
  obtain ⟨d, M, f, _, h2⟩ := h
  exact hashN_eq w (D.keyN_kN h2).1
def DcAt (K : PySem.W.Frag) (cl : Cl) (H : Hp) (a : Addr) (es : List (NestedKey × Addr × Value)) : Prop := (∃ o, H a = some (DnO a (o, es))) ∧ ∀ e ∈ es, KeyAt K cl H e.1 e.2.1
theorem ents_eq (P : Program) (w : World) {es : List (NestedKey × Addr × Value)} (h : ∀ e ∈ es, e.1.hash w = hashN e.1) : es.map (entryOfKey (nestedKind P w)) = es.map entN :=
  List.map_congr_left fun e he => by
    show (⟨NestedKey.hash w e.1, _, _⟩ : DictEntry) = ⟨hashN e.1, _, _⟩
    rw [h e he]
theorem DcAt.dict {pins : List (Addr × Obj)} {σ : S} {s : Shared} {d : Addr} {es : List (NestedKey × Addr × Value)} (I : Inv X pins σ H s) (h : DcAt X.K cl H d es) : (d == sysModules) = false ∧ es.length ≤ sizeLine ∧ s.heap.DictOfH (nestedKind X.prog X.w) d es := by
  obtain ⟨⟨o, h1⟩, hk⟩ := h
  obtain ⟨⟨z1, z2, h1, es', ep, h2, h3, h4, h5⟩, _⟩ := (I.hok d _ h1 : ObjOk X.prog X.w H s.heap d (.ext (RawN d (o, es))))
  have h : DcAt X.K cl H d es := ⟨⟨o, by assumption⟩, hk⟩
  exact ⟨z1, z2, o, es', ep, h1, h2, h3, by rw [h4, ents_eq _ _ fun e he => (h.2 e he).hash _], fun e he => (h.2 e he).is I, h5⟩
/-! d[k], k in d, len(d) -/
def rIxN (K : PySem.W.Frag) (cl : Cl) : R2 := fun x y H Q => ∃ a b k es p v, x = .ref a ∧ y = .ref b ∧ DcAt K cl H a es ∧ KeyAt K cl H k b ∧ atKey es k = some p ∧ RelV v p.2 ∧ Q v H
def rInN (neg : Bool) (K : PySem.W.Frag) (cl : Cl) : R2 := fun x y H Q => ∃ b k a es, x = .ref b ∧ y = .ref a ∧ DcAt K cl H a es ∧ KeyAt K cl H k b ∧ Q (.bl (if neg then !(atKey es k).isSome else (atKey es k).isSome)) H
def rLenN (K : PySem.W.Frag) (cl : Cl) : List V → Hp → VK → Prop := fun xs H Q => ∃ (p : Addr) (es : List (NestedKey × Addr × Value)), xs = [.ref p] ∧ DcAt K cl H p es ∧ Q (.int ((es.length : Nat) : Int)) H
/-! {} -/
def tNNew : TE := fun _ H Q => ∀ p o, H p = none → Q (.ref p) (upd H p (DnO p (o, [])))
/-! d[k] = v -/
def sNPut (K : PySem.W.Frag) (cl : Cl) (td ty tv : TE) : TS := fun D σ H => tv σ H fun v H1 => td σ H1 fun x H2 => ty σ H2 fun y H3 => ∃ a b k es, x = .ref a ∧ y = .ref b ∧ DcAt K cl H3 a es ∧ KeyAt K cl H3 k b ∧ es.length < sizeLine ∧
  ∀ v' o, RelV v v' → D.nx σ (upd H3 a (DnO a (o, storedH es k b v')))
/-! evaluation -/
theorem e_nnew (env : Tw.Env) : fNNew env = .ok (.dcd true [] []) env := (rfl)
theorem ixN_1 (m : Bool) (ks : List D) (ds : List D) (k : D) : gIxN [.dcd m ks ds, k] = (D.keyN k).bind fun x => if D.oks ds then lookN ks ds x else none := (rfl)
theorem inN_2 (neg : Bool) (k : D) (m : Bool) (ks : List D) (ds : List D) : gInN neg [k, .dcd m ks ds] = (D.keyN k).map fun x => .bl (if neg then !inN ks x else inN ks x) := (rfl)
theorem lenN_1 (m : Bool) (ks ds : List D) : gLenN [.dcd m ks ds] = some (.int ks.length) := (rfl)
def k_nst (i : Nat) (fi : Ev) : D → Tw.Env → Out := fun d env1 => match ownNAt env1 i with
  | none => .stuck
  | some _ => sBind (fi env1) fun k env2 => nst2 i k d env2
theorem e_nstore (i : Nat) (fi f : Ev) (env : Tw.Env) : sNStore i fi f env = sBind (f env) (k_nst i fi) := (rfl)
def nst1 (fi : Ev) (i : Nat) (d : D) (env1 : Tw.Env) : Option (List D × List D) → Out
  | none => .stuck
  | some _ => sBind (fi env1) fun k env2 => nst2 i k d env2
theorem e_knst (i : Nat) (fi : Ev) (d : D) (env1 : Tw.Env) : k_nst i fi d env1 = nst1 fi i d env1 (ownNAt env1 i) := by
  unfold k_nst nst1
  cases ownNAt env1 i <;> rfl
def k_nst2 (i : Nat) (d : D) : D → Tw.Env → Out := fun k env2 => nst2 i k d env2
theorem nst1_1 (fi : Ev) (i : Nat) (d : D) (env1 : Tw.Env) (q : List D × List D) : nst1 fi i d env1 (some q) = sBind (fi env1) (k_nst2 i d) := (rfl)
def nst3 (i : Nat) (env2 : Tw.Env) : Option (List D × List D) → Out
  | some es => .next (env2.set i (some (.dcd true es.1 es.2)))
  | none => .stuck
theorem e_knst2 (i : Nat) (k d : D) (env2 : Tw.Env) : k_nst2 i d k env2 = nst3 i env2 ((ownNAt env2 i).bind fun q => putN2 q k d) := by
  unfold k_nst2 nst2 nst3
  cases (ownNAt env2 i).bind fun q => putN2 q k d <;> rfl
theorem nst3_1 (i : Nat) (env2 : Tw.Env) (es : List D × List D) : nst3 i env2 (some es) = .next (env2.set i (some (.dcd true es.1 es.2))) := (rfl)
theorem ownNAt_eq' (env : Tw.Env) (i : Nat) : ownNAt env i = (env[i]?.join).bind D.ownN := (rfl)
theorem ownN_1 (ks : List D) (ds : List D) : D.ownN (.dcd true ks ds) = some (ks, ds) := (rfl)
theorem putN2_1 (ks ds : List D) (k d : D) : putN2 (ks, ds) k d = (D.keyN k).bind fun x => if D.oks ds && D.ok d && lenOk (ks.length + 1) then some (putNs ks k x, putND ks ds x d) else none := (rfl)
theorem frz_dcd (m : Bool) (ks xs : List D) : D.frz (.dcd m ks xs) = .dcd false ks (D.frzs xs) := (rfl)
theorem ok_dcd (m : Bool) (ks xs : List D) : D.ok (.dcd m ks xs) = (!m && D.oks xs) := (rfl)
end
end Tw
noncomputable section
namespace Tw
open PySem PySem.Spec PyProof.Rows L2
/-! ### sorted(xs), xs a list of pairs (whole number, tuple of whole numbers); the key of such a pair: the number ahead of the numbers -/
def IsIL (h : Heap) (v : Value) (ks : List Int) : Prop := ∃ a o n t b m ns, ks = n :: ns ∧ v = .ref a ∧ h.get? a = some o ∧ o.cls = .type "tuple" ∧ o.data = .seq #[.int n t, .ref b] m ∧ IsInts h (.ref b) ns
theorem IsIL.keeps {h h' : Heap} {v : Value} {ks : List Int} (p : IsIL h v ks) (k : ∀ b o, h.get? b = some o → o.cls = .type "tuple" → h'.get? b = some o) : IsIL h' v ks := by
  obtain ⟨a, o, n, t, b, m, ns, ek, e, ho, hc, hd, hi⟩ := p
  exact ⟨a, o, n, t, b, m, ns, ek, e, k _ _ ho hc, hc, hd, hi.keeps k⟩
theorem IsInts.tup {h : Heap} {b : Addr} {ns : List Int} (p : IsInts h (.ref b) ns) : ∃ its : List Value, IsTup h b its.toArray ∧ IntsAre its ns := by
  obtain ⟨a, o, vs, n, e, ho, hc, hd, hi⟩ := p
  cases e
  exact ⟨vs.toList, ⟨o, ho, hc, n, by simpa using hd⟩, hi⟩
section
variable {prog : Program} {w : World} {A : Around} {E : Value → Shared → Prop} {s : Shared}
end
def kIL (h : Heap) : Value → List Int
  | .ref a => match h.get? a with
    | some o => match o.data with
      | .seq its _ => match its.toList with
        | [x, y] => SrtO.iv x :: kInts h y
        | _ => []
      | _ => []
    | none => []
  | _ => []
def rSortIL (K : PySem.W.Frag) : List V → Hp → VK → Prop := fun vs H Q => ∃ (a : Addr) (ps : List (V × List Int)), vs = [V.ref a] ∧ SqL K H a (ps.map (·.1)) ∧ (∀ p ∈ ps, ∃ t b n ns, p.1 = V.ref t ∧ p.2 = n :: ns ∧ SqT K H t [V.int n, V.ref b] ∧ SqT K H b (ns.map V.int)) ∧
  ∀ (qs : List (V × List Int)) (p : Addr), qs.Perm ps → qs.Pairwise (fun x y => ltI y.2 x.2 = false) → H p = none → Q (.ref p) (upd H p (.lst (qs.map (·.1))))
section
variable {X : Cx} {cl : Cl} {K : PySem.W.Frag}
def ilD : List Int → D
  | n :: ns => .tup [.int n, .tup (ns.map .int)]
  | [] => .non
def D.ilI : D → Option (List Int)
  | .tup [.int n, .tup ds] => (D.ints ds).map (n :: ·)
  | _ => none
def D.ilsI : List D → Option (List (List Int))
  | [] => some []
  | d :: ds => (D.ilI d).bind fun k => (D.ilsI ds).map (k :: ·)
def gSortIL : List D → Option D
  | [.lst _ xs] => (D.ilsI xs).map fun ls => .lst true ((sortT ls).map ilD)
  | _ => none
theorem sortIL_1 (m : Bool) (xs : List D) : gSortIL [.lst m xs] = (D.ilsI xs).map fun ls => .lst true ((sortT ls).map ilD) := (rfl)
/-! x not in xs, by == -/
def D.negD : D → D
  | .bl b => .bl !b
  | d => d
def gNInX (as : List D) : Option D := (gInX as).map D.negD
def rNInX (K : PySem.W.Frag) : R2 := fun x y H Q => ∃ d ds, Dp K H x d ∧ (Dp K H y (.list ds) ∨ Dp K H y (.tuple ds)) ∧ SeqAt.shaped d = true ∧ SeqAt.shaped (.list ds) = true ∧ Q (.bl (!ds.any fun z => PyData.eqv z d)) H
end
end Tw
noncomputable section
namespace Tw
open PySem PySem.Spec PyProof.Rows L2
/-! ### d.get(k, x), d with tuples as keys -/
def tNGet2 (K : PySem.W.Frag) (cl : Cl) (td ty tx : TE) : TE := fun σ H Q => td σ H fun x H1 => ∃ a es0, x = .ref a ∧ DcAt K cl H1 a es0 ∧ ty σ H1 fun y H2 => tx σ H2 fun z H3 => ∃ b k es, y = .ref b ∧ DcAt K cl H3 a es ∧ KeyAt K cl H3 k b ∧
  ((∃ p v, atKey es k = some p ∧ RelV v p.2 ∧ Q v H3) ∨ (atKey es k = none ∧ Q z H3))
section
variable {X : Cx} {cl : Cl} {W : WX} {a b c o e f : Expr} {es : List Expr} {pos apos cpos p pf : Pos} {x : Str} {fa fb fc : Ev} {io : List Nat} {i : Nat} {K : PySem.W.Frag} {M : Addr → Prop} {H : Hp}
def D.anyN : D → Option (List D × List D)
  | .dcd _ ks xs => some (ks, xs)
  | _ => none
def anyNAt (env : Tw.Env) (i : Nat) : Option (List D × List D) := (env[i]?.join).bind D.anyN
def nget3 (q : List D × List D) (k x : D) : Option D := (D.keyN k).bind fun n => if D.oks q.2 then some ((lookN q.1 q.2 n).getD x) else none
def nget2 (i : Nat) (k x : D) (env : Tw.Env) : Rs D := match (anyNAt env i).bind fun q => nget3 q k x with
  | some d => .ok d env
  | none => .stuck
def fNGet (i : Nat) (fk fx : Ev) : Ev := fun env => match anyNAt env i with
  | some _ => (fk env).bind fun k env1 => (fx env1).bind fun x env2 => nget2 i k x env2
  | none => .stuck
/-! evaluation -/
def k_ng2 (i : Nat) (k : D) : D → Tw.Env → Rs D := fun x env2 => nget2 i k x env2
def k_ng1 (i : Nat) (fx : Ev) : D → Tw.Env → Rs D := fun k env1 => (fx env1).bind (k_ng2 i k)
theorem e_kng1 (i : Nat) (fx : Ev) (k : D) (env1 : Tw.Env) : k_ng1 i fx k env1 = (fx env1).bind (k_ng2 i k) := (rfl)
def ngR (i : Nat) (fk fx : Ev) (env : Tw.Env) : Option (List D × List D) → Rs D
  | some _ => (fk env).bind (k_ng1 i fx)
  | none => .stuck
theorem ngR_1 (i : Nat) (fk fx : Ev) (env : Tw.Env) (q : List D × List D) : ngR i fk fx env (some q) = (fk env).bind (k_ng1 i fx) := (rfl)
theorem e_nget (i : Nat) (fk fx : Ev) (env : Tw.Env) : fNGet i fk fx env = ngR i fk fx env (anyNAt env i) := by
  unfold fNGet ngR
  cases anyNAt env i <;> rfl
def ngR2 (env : Tw.Env) : Option D → Rs D
  | some d => .ok d env
  | none => .stuck
theorem ngR2_1 (env : Tw.Env) (d : D) : ngR2 env (some d) = .ok d env := (rfl)
theorem e_kng2 (i : Nat) (k x : D) (env : Tw.Env) : k_ng2 i k x env = ngR2 env ((anyNAt env i).bind fun q => nget3 q k x) := by
  unfold k_ng2 nget2 ngR2
  cases (anyNAt env i).bind fun q => nget3 q k x <;> rfl
theorem anyNAt_eq' (env : Tw.Env) (i : Nat) : anyNAt env i = (env[i]?.join).bind D.anyN := (rfl)
theorem anyN_1 (m : Bool) (ks ds : List D) : D.anyN (.dcd m ks ds) = some (ks, ds) := (rfl)
theorem nget3_1 (ks ds : List D) (k x : D) : nget3 (ks, ds) k x = (D.keyN k).bind fun n => if D.oks ds then some ((lookN ks ds n).getD x) else none := (rfl)
end
end Tw
noncomputable section
namespace Tw
open PySem PySem.Spec PyProof.Rows L2
/-! ### dicts with tuples as keys: walked, listed, isinstance -/
section
variable {X : Cx} {cl : Cl} {W : WX} {a b c o e : Expr} {es : List Expr} {pos apos p pf : Pos} {x : Str} {fa fb fc : Ev} {io : List Nat} {i : Nat} {K : PySem.W.Frag} {M : Addr → Prop} {H : Hp}
/-! for k in d -/
def ItN (d : Addr) (x : Obj × List (NestedKey × Addr × Value)) : It :=
  ⟨fun i H => H d = some (DnO d x) ∧ i < x.2.length, fun i H v H' => H' = H ∧ ∃ y, x.2[i]? = some y ∧ v = .ref y.2.1, fun i H => H d = some (DnO d x) ∧ x.2.length ≤ i⟩
def iKeysN (td : TE) : TI := fun σ H R => td σ H fun x H1 => ∃ d z, x = .ref d ∧ H1 d = some (DnO d z) ∧ R (ItN d z) H1
def iDct (fa : Ev) : Tw.Env → Rs (List D) := fun env => (fa env).bind fun d env1 => match d with
  | .dcd false ks xs => if D.oks xs then .ok ks env1 else .stuck
  | _ => .stuck
end
end Tw
noncomputable section
namespace Tw
open PySem PySem.Spec PyProof.Rows L2
section
variable {X : Cx} {cl : Cl} {W : WX} {a b c o e : Expr} {es : List Expr} {pos apos p pf : Pos} {x : Str} {fa fb fc : Ev} {io : List Nat} {i : Nat} {K : PySem.W.Frag} {M : Addr → Prop} {H : Hp}
/-! ### list(d) -/
def rListN : List V → Hp → VK → Prop := fun xs H Q => ∃ a z, xs = [.ref a] ∧ H a = some (DnO a z) ∧ ∀ p, H p = none → Q (.ref p) (upd H p (.lst ((z.2.map fun e => e.2.1).map V.ref)))
def gListN : List D → Option D
  | [.dcd _ ks _] => some (.lst true ks)
  | _ => none
def rListT : List V → Hp → VK → Prop := fun xs H Q => ∃ a z, xs = [.ref a] ∧ H a = some (DtO a z) ∧ z.length ≤ sizeLine ∧ ∀ p, H p = none → Q (.ref p) (upd H p (.lst ((z.map fun e => e.2.1).map V.ref)))
def tupI (k : List Int) : D := .tup (k.map .int)
def gListT : List D → Option D
  | [.dtt ks _] => if lenOk ks.length then some (.lst true (ks.map tupI)) else none
  | _ => none
/-! ### isinstance(d, dict) -/
def D.isD : D → Bool
  | .dcd _ _ _ => true
  | .dtt _ _ => true
  | _ => false
def gIsiD (isa : Tg → Tg → Option Bool) : List D → Option D
  | [a, .ty n] => if D.isD a = true then (if n = "dict" then some (.bl true) else none) else gIsi isa [a, .ty n]
  | _ => none
def rIsiD : List V → Hp → VK → Prop := fun xs H Q => ∃ a, xs = [.ref a, .ty "dict"] ∧ ((∃ z, H a = some (DnO a z)) ∨ ∃ z, H a = some (DtO a z)) ∧ Q (.bl true) H
def rIsi2 (K : PySem.W.Frag) : List V → Hp → VK → Prop := fun xs H Q => rIsi K xs H Q ∨ rIsiD xs H Q
/-! ### dict([(k, v), ..]) -/
def D.tup2 : D → Option (D × D)
  | .tup [k, v] => some (k, v)
  | _ => none
def kvsO : List D → Option (List (List Int) × List D)
  | [] => some ([], [])
  | d :: ds => (D.tup2 d).bind fun z => (D.tupI z.1).bind fun k => (kvsO ds).map fun q => (k :: q.1, z.2 :: q.2)
def gDictO : List D → Option D
  | [.lst _ items] => (kvsO items).bind fun q => if q.1.Nodup then some (.dtt q.1 q.2) else none
  | _ => none
def fDictO (fa : Ev) : Ev := fun env => (fa env).bind fun d env1 => match gDictO [d] with
  | some z => .ok z env1
  | none => .stuck
end
end Tw
noncomputable section
namespace Tw
open PySem PySem.Spec PyProof.Rows L2
section
variable {X : Cx} {cl : Cl} {W : WX} {a b c o e : Expr} {es : List Expr} {pos apos p pf pt : Pos} {x : Str} {fa fb fc : Ev} {io : List Nat} {i j : Nat} {K : PySem.W.Frag} {M : Addr → Prop} {H : Hp}
/-! ### d[k].append(v), d a dict that holds lists of its own -/
def appT : List (List Int) → List D → List Int → D → Option (List D)
  | k :: ks, d :: ds, x, y => if k = x then (match d with
      | .lst true xs => if lenOk (xs.length + 1) then some (.lst true (xs ++ [y]) :: ds) else none
      | _ => none) else (appT ks ds x y).map (d :: ·)
  | _, _, _, _ => none
def D.dttOf : D → Option (List (List Int) × List D)
  | .dtt ks ds => some (ks, ds)
  | _ => none
def dttAt (env : Tw.Env) (i : Nat) : Option (List (List Int) × List D) := (env[i]?.join).bind D.dttOf
def dtA3 (k y : D) (q : List (List Int) × List D) : Option (List D) := (D.tupI k).bind fun x => if D.ok y then appT q.1 q.2 x y else none
def dtA (i j : Nat) (k : D) (env : Tw.Env) : Rs D := match (dttAt env i).bind fun q => (env[j]?.join).bind fun y => (dtA3 k y q).map fun ds => (q.1, ds) with
  | some z => .ok .non (env.set i (some (.dtt z.1 z.2)))
  | none => .stuck
def fDtA (i j : Nat) (fk : Ev) : Ev := fun env => match dttAt env i with
  | some _ => (fk env).bind (dtA i j)
  | none => .stuck
theorem join_at {env : Tw.Env} {j : Nat} {y : D} (h : env[j]?.join = some y) : env[j]? = some (some y) := by
  cases e2 : env[j]? with
  | none => rw [e2] at h; cases h
  | some o => rw [e2] at h; cases o with
    | none => cases h
    | some d' => cases h; rfl
end
end Tw
noncomputable section
namespace Tw
open PySem PySem.Spec PyProof.Rows L2
section
variable {X : Cx} {cl : Cl} {W : WX} {a b c o e : Expr} {es : List Expr} {pos apos p pf pt : Pos} {x : Str} {fa fb fc : Ev} {io : List Nat} {i j : Nat} {K : PySem.W.Frag} {M : Addr → Prop} {H : Hp}
/-! ### dict([((at, joint), v), ..]) -/
def SameN (z : NestedKey × Addr × V) (x : NestedKey × Addr × Value) : Prop := z.1 = x.1 ∧ z.2.1 = x.2.1 ∧ RelV z.2.2 x.2.2
def rDictN (K : PySem.W.Frag) (cl : Cl) : List V → Hp → VK → Prop := fun xs H Q => ∃ (a : Addr) (ps : List Addr) (kbv : List (NestedKey × Addr × V)), xs = [.ref a] ∧ SqL K H a (ps.map V.ref) ∧
  Paired (fun p (z : NestedKey × Addr × V) => SqT K H p [.ref z.2.1, z.2.2] ∧ KeyAt K cl H z.1 z.2.1) ps kbv ∧ (kbv.map (·.1)).Nodup ∧ ∀ p o xs', H p = none → Paired SameN kbv xs' → Q (.ref p) (upd H p (DnO p (o, xs')))
def kvsN : List D → Option (List D × List D × List NestedKey)
  | [] => some ([], [], [])
  | d :: ds => (D.tup2 d).bind fun z => (D.keyN z.1).bind fun n => if D.ok z.2 then (kvsN ds).map fun q => (z.1 :: q.1, z.2 :: q.2.1, n :: q.2.2) else none
def gDictN : List D → Option D
  | [.lst _ items] => (kvsN items).bind fun q => if q.2.2.Nodup then some (.dcd true q.1 q.2.1) else none
  | _ => none
/-! ### dict([(number, v), ..]) -/
def kvsI : List D → Option (List Key × List D)
  | [] => some ([], [])
  | d :: ds => (D.tup2 d).bind fun z => (D.key z.1).bind fun n => if D.ok z.2 then (kvsI ds).map fun q => (n :: q.1, z.2 :: q.2) else none
def gDictI : List D → Option D
  | [.lst _ items] => (kvsI items).bind fun q => if q.1.Nodup then some (.dct true q.1 q.2) else none
  | _ => none
def rDictI (K : PySem.W.Frag) : List V → Hp → VK → Prop := fun xs H Q => ∃ (a : Addr) (ps : List Addr) (kvs : List (Key × V)), xs = [.ref a] ∧ SqL K H a (ps.map V.ref) ∧ Paired (fun p kv => SqT K H p [kV kv.1, kv.2]) ps kvs ∧ ∀ p, H p = none → Q (.ref p) (upd H p (.dK (mergeK [] kvs)))
/-! ### evaluation -/
def k_idct : D → Tw.Env → Rs (List D) := fun d env1 => match d with
  | .dcd false ks xs => if D.oks xs then .ok ks env1 else .stuck
  | _ => .stuck
theorem e_idct (fa : Ev) (env : Tw.Env) : iDct fa env = (fa env).bind k_idct := (rfl)
theorem idct_1 (ks xs : List D) (env : Tw.Env) : k_idct (.dcd false ks xs) env = if D.oks xs then .ok ks env else .stuck := (rfl)
theorem listN_1 (m : Bool) (ks xs : List D) : gListN [.dcd m ks xs] = some (.lst true ks) := (rfl)
theorem listT_1 (ks : List (List Int)) (xs : List D) : gListT [.dtt ks xs] = if lenOk ks.length then some (.lst true (ks.map tupI)) else none := (rfl)
theorem isiD_1 (isa : Tg → Tg → Option Bool) (a : D) (n : String) : gIsiD isa [a, .ty n] = if D.isD a = true then (if n = "dict" then some (.bl true) else none) else gIsi isa [a, .ty n] := (rfl)
theorem isD_dcd (m : Bool) (ks xs : List D) : D.isD (.dcd m ks xs) = true := (rfl)
theorem isD_dtt (ks : List (List Int)) (xs : List D) : D.isD (.dtt ks xs) = true := (rfl)
theorem isD_non : D.isD .non = false := (rfl)
theorem isD_int (i : Int) : D.isD (.int i) = false := (rfl)
theorem isD_bl (i : Bool) : D.isD (.bl i) = false := (rfl)
theorem isD_str (i : Str) : D.isD (.str i) = false := (rfl)
theorem isD_tup (xs : List D) : D.isD (.tup xs) = false := (rfl)
theorem isD_lst (m : Bool) (xs : List D) : D.isD (.lst m xs) = false := (rfl)
theorem isD_dct (m : Bool) (ks : List Key) (xs : List D) : D.isD (.dct m ks xs) = false := (rfl)
theorem isD_obj (m : Bool) (c : Nat) (ns : List Str) (xs : List D) : D.isD (.obj m c ns xs) = false := (rfl)
def dcR (env : Tw.Env) : Option D → Rs D
  | some z => .ok z env
  | none => .stuck
theorem dcR_1 (env : Tw.Env) (z : D) : dcR env (some z) = .ok z env := (rfl)
def k_dictO : D → Tw.Env → Rs D := fun d env1 => dcR env1 (gDictO [d])
theorem e_dictO (fa : Ev) (env : Tw.Env) : fDictO fa env = (fa env).bind k_dictO := by
  unfold fDictO
  congr 1
theorem e_kdictO (d : D) (env : Tw.Env) : k_dictO d env = dcR env (gDictO [d]) := (rfl)
def daR (i j : Nat) (fk : Ev) (env : Tw.Env) : Option (List (List Int) × List D) → Rs D
  | some _ => (fk env).bind (dtA i j)
  | none => .stuck
theorem daR_1 (i j : Nat) (fk : Ev) (env : Tw.Env) (q : List (List Int) × List D) : daR i j fk env (some q) = (fk env).bind (dtA i j) := (rfl)
theorem e_dtA (i j : Nat) (fk : Ev) (env : Tw.Env) : fDtA i j fk env = daR i j fk env (dttAt env i) := by
  unfold fDtA daR
  cases dttAt env i <;> rfl
theorem dttAt_1 (env : Tw.Env) (i : Nat) : dttAt env i = (env[i]?.join).bind D.dttOf := (rfl)
theorem dttOf_1 (ks : List (List Int)) (xs : List D) : D.dttOf (.dtt ks xs) = some (ks, xs) := (rfl)
def daR2 (i : Nat) (env : Tw.Env) : Option (List (List Int) × List D) → Rs D
  | some z => .ok .non (env.set i (some (.dtt z.1 z.2)))
  | none => .stuck
theorem daR2_1 (i : Nat) (env : Tw.Env) (z : List (List Int) × List D) : daR2 i env (some z) = .ok .non (env.set i (some (.dtt z.1 z.2))) := (rfl)
theorem e_kdtA (i j : Nat) (k : D) (env : Tw.Env) : dtA i j k env = daR2 i env ((dttAt env i).bind fun q => (env[j]?.join).bind fun y => (dtA3 k y q).map fun ds => (q.1, ds)) := by
  unfold dtA daR2
  cases (dttAt env i).bind fun q => (env[j]?.join).bind fun y => (dtA3 k y q).map fun ds => (q.1, ds) <;> rfl
theorem dtA3_1 (kd : List D) (y : D) (q : List (List Int) × List D) : dtA3 (.tup kd) y q = (D.ints kd).bind fun x => if D.ok y then appT q.1 q.2 x y else none := (rfl)
end
end Tw
noncomputable section
namespace Tw
open PySem PySem.Spec PyProof.Rows L2
/-! ### len(d), d with numbers or texts as keys -/
section
variable {X : Cx} {cl : Cl} {K : PySem.W.Frag}
def gLenK : List D → Option D
  | [.dct _ ks _] => some (.int ks.length)
  | _ => none
def rLenK : List V → Hp → VK → Prop := fun xs H Q => ∃ a kvs, xs = [V.ref a] ∧ H a = some (.dK kvs) ∧ Q (.int kvs.length) H
theorem lenK_1 (m : Bool) (ks : List Key) (ds : List D) : gLenK [.dct m ks ds] = some (.int ks.length) := (rfl)
end
end Tw
noncomputable section
namespace Tw
open PySem PySem.Spec PyProof.Rows L2
/-! ### sorted(set(xs)), xs a list of tuples of whole numbers -/
section
variable {prog : Program} {w : World} {A : Around} {E : Value → Shared → Prop} {s : Shared}
end
def nubT : List (List Int) → List (List Int)
  | [] => []
  | n :: ns => if n ∈ ns then nubT ns else n :: nubT ns
def rSortSetX (K : PySem.W.Frag) (P : Program) (w : World) : List V → Hp → VK → Prop := fun vs H Q => ∃ (a : Addr) (L : List (Addr × List Int)), vs = [V.ref a] ∧ H a = some (SetTO P w a L) ∧ (∀ p ∈ L, SqT K H p.1 (p.2.map V.int) ∧ p.2 ≠ []) ∧
  ∀ (qs : List (V × List Int)) (p : Addr), qs.Perm (L.map fun q => (V.ref q.1, q.2)) → (L.map (·.2)).Nodup → L.length < 64 → qs.Pairwise (fun x y => ltI y.2 x.2 = false) → H p = none → Q (.ref p) (upd H p (.lst (qs.map (·.1))))
def fSortSetR (f : Ev) : Ev := fun env => (f env).bind fun d env1 => match d with
  | .lst _ xs => match D.rowsI xs with
    | some ls => if ls.length < 64 then .ok (.lst true (rows (sortT (nubT ls)))) env1 else .stuck
    | none => .stuck
  | _ => .stuck
section
variable {X : Cx} {cl : Cl} {W : WX} {a : Expr} {pos p : Pos} {fa : Ev} {K : PySem.W.Frag}
def k_sortSetR : D → Tw.Env → Rs D := fun d env1 => match d with
  | .lst _ xs => match D.rowsI xs with
    | some ls => if ls.length < 64 then .ok (.lst true (rows (sortT (nubT ls)))) env1 else .stuck
    | none => .stuck
  | _ => .stuck
theorem e_sortSetR (f : Ev) (env : Tw.Env) : fSortSetR f env = (f env).bind k_sortSetR := (rfl)
end
end Tw
noncomputable section
namespace Tw
open PySem PySem.Spec PyProof.Rows L2
/-! ### {k: v}, one entry, the key a tuple -/
def fND1 (fk fv : Ev) : Ev := fun env => (fk env).ne.bind fun kd env1 => (fv env1).ne.bind fun d env2 => match D.keyN kd with
  | some _ => if D.ok d then .ok (.dcd true [kd] [d]) env2 else .stuck
  | none => .stuck
def tND1 (K : PySem.W.Frag) (cl : Cl) (tk tv : TE) : TE := fun σ H Q => ∀ p o, H p = none → tk σ (upd H p (DnO p (o, []))) fun x H1 => tv σ H1 fun y H2 => ∃ b k, x = .ref b ∧ DcAt K cl H2 p [] ∧ KeyAt K cl H2 k b ∧
  ∀ u o, RelV y u → Q (.ref p) (upd H2 p (DnO p (o, storedH [] k b u)))
def qND1 (K : PySem.W.Frag) (cl : Cl) (p : Addr) (Q : VK) : List (V × V) → Hp → Prop
  | [(x, y)], H2 => ∃ b k, x = .ref b ∧ DcAt K cl H2 p [] ∧ KeyAt K cl H2 k b ∧ ∀ u o, RelV y u → Q (.ref p) (upd H2 p (DnO p (o, storedH [] k b u)))
  | _, _ => False
section
variable {X : Cx} {cl : Cl} {W : WX} {a b c o e : Expr} {pos : Pos} {fk fv : Ev} {K : PySem.W.Frag} {H : Hp}
end
def nd1R2 (kd d : D) (env2 : Tw.Env) : Option NestedKey → Rs D
  | some _ => if D.ok d then .ok (.dcd true [kd] [d]) env2 else .stuck
  | none => .stuck
def k_nd1b (kd : D) : D → Tw.Env → Rs D := fun d env2 => nd1R2 kd d env2 (D.keyN kd)
def k_nd1 (fv : Ev) : D → Tw.Env → Rs D := fun kd env1 => (fv env1).ne.bind (k_nd1b kd)
theorem e_nd1 (fk fv : Ev) (env : Tw.Env) : fND1 fk fv env = (fk env).ne.bind (k_nd1 fv) := by
  unfold fND1 k_nd1
  congr 1
theorem e_knd1 (fv : Ev) (kd : D) (env1 : Tw.Env) : k_nd1 fv kd env1 = (fv env1).ne.bind (k_nd1b kd) := (rfl)
theorem e_knd1b (kd d : D) (env2 : Tw.Env) : k_nd1b kd d env2 = nd1R2 kd d env2 (D.keyN kd) := (rfl)
theorem nd1R2_1 (kd d : D) (env2 : Tw.Env) (k : NestedKey) : nd1R2 kd d env2 (some k) = if D.ok d then .ok (.dcd true [kd] [d]) env2 else .stuck := (rfl)
end Tw
noncomputable section
namespace Tw
open PySem PySem.Spec PyProof.Rows L2
/-! ### l.count(x) -/
section
variable {X : Cx} {cl : Cl} {W : WX} {pos apos : Pos} {fa fb : Ev}
def rLCountD (K : PySem.W.Frag) : V → List V → Hp → VK → Prop := fun x xs H Q => ∃ (a : Addr) (y : V) (d : PyData) (ds : List PyData), x = V.ref a ∧ xs = [y] ∧ Dp K H (V.ref a) (.list ds) ∧ Dp K H y d ∧
  SeqAt.shaped (.list ds) = true ∧ (SeqAt.shaped d = true ∧ d.depth ≤ 60) ∧ Q (.int ((ds.countP fun z => PyData.eqv z d : Nat) : Int)) H
def fCountL (fa fy : Ev) : Ev := fun env => (fa env).bind fun d env1 => match d with
  | .lst _ xs => if D.oks xs then (fy env1).bind fun y env2 => match gCount xs y with
    | some j => .ok (.int (j : Int)) env2
    | none => .stuck
    else .stuck
  | _ => .stuck
def k_cntL (fy : Ev) : D → Tw.Env → Rs D := fun d env1 => match d with
  | .lst _ xs => if D.oks xs then (fy env1).bind (k_cnt2 xs) else .stuck
  | _ => .stuck
theorem e_kcntL (fy : Ev) (m : Bool) (xs : List D) (env1 : Tw.Env) : k_cntL fy (.lst m xs) env1 = if D.oks xs then (fy env1).bind (k_cnt2 xs) else .stuck := (rfl)
theorem e_countL (fa fy : Ev) (env : Tw.Env) : fCountL fa fy env = (fa env).bind (k_cntL fy) := by
  unfold fCountL
  refine congrArg _ (funext fun d => funext fun env1 => ?_)
  cases d <;> rfl
end
end Tw
noncomputable section
namespace Tw
open PySem PySem.Spec PyProof.Rows L2
/-! ### d.get(k, x), d an expression -/
def ngE (ks ds : List D) (k x : D) (env2 : Tw.Env) : Rs D := match nget3 (ks, ds) k x with
  | some r => .ok r env2
  | none => .stuck
def fNGetE (fd fk fx : Ev) : Ev := fun env => (fd env).bind fun d env0 => match d with
  | .dcd _ ks ds => (fk env0).bind fun k env1 => (fx env1).bind fun x env2 => ngE ks ds k x env2
  | _ => .stuck
section
variable {X : Cx} {cl : Cl} {W : WX} {o e f : Expr} {apos cpos : Pos} {fd fa fb : Ev} {K : PySem.W.Frag} {H : Hp}
def k_nge3 (ks ds : List D) (k : D) : D → Tw.Env → Rs D := fun x env2 => ngE ks ds k x env2
def k_nge2 (ks ds : List D) (fx : Ev) : D → Tw.Env → Rs D := fun k env1 => (fx env1).bind (k_nge3 ks ds k)
def k_nge1 (fk fx : Ev) : D → Tw.Env → Rs D := fun d env0 => match d with
  | .dcd _ ks ds => (fk env0).bind (k_nge2 ks ds fx)
  | _ => .stuck
theorem e_nge (fd fk fx : Ev) (env : Tw.Env) : fNGetE fd fk fx env = (fd env).bind (k_nge1 fk fx) := by
  unfold fNGetE
  refine congrArg _ (funext fun d => funext fun env1 => ?_)
  cases d <;> rfl
theorem e_knge1 (fk fx : Ev) (m : Bool) (ks ds : List D) (env0 : Tw.Env) : k_nge1 fk fx (.dcd m ks ds) env0 = (fk env0).bind (k_nge2 ks ds fx) := (rfl)
theorem e_knge2 (ks ds : List D) (fx : Ev) (k : D) (env1 : Tw.Env) : k_nge2 ks ds fx k env1 = (fx env1).bind (k_nge3 ks ds k) := (rfl)
theorem e_knge3 (ks ds : List D) (k x : D) (env2 : Tw.Env) : k_nge3 ks ds k x env2 = ngR2 env2 (nget3 (ks, ds) k x) := by
  unfold k_nge3 ngE ngR2
  cases nget3 (ks, ds) k x <;> rfl
end
end Tw
noncomputable section
namespace Tw
open PySem PySem.Spec PyProof.Rows L2
/-! ### len(set(xs)), xs a list of whole numbers -/
def fLenSetL (f : Ev) : Ev := fun env => (f env).bind fun d env1 => match D.seqK d with
  | some (false, xs) => (match D.ints xs with
    | some is => if is.length ≤ 4000 then .ok (.int (nub is).length) env1 else .stuck
    | none => .stuck)
  | _ => .stuck
section
variable {X : Cx} {cl : Cl} {W : WX} {a : Expr} {pos p : Pos} {fa : Ev}
end
def k_lenSetL : D → Tw.Env → Rs D := fun d env1 => match D.seqK d with
  | some (false, xs) => (match D.ints xs with
    | some is => if is.length ≤ 4000 then .ok (.int (nub is).length) env1 else .stuck
    | none => .stuck)
  | _ => .stuck
theorem e_lenSetL (f : Ev) (env : Tw.Env) : fLenSetL f env = (f env).bind k_lenSetL := (rfl)
end Tw
noncomputable section
namespace Tw
open PySem PySem.Spec PyProof.Rows L2
/-! ### sorted(d), d's keys tuples of a number and a tuple of numbers -/
section
variable {X : Cx} {cl : Cl} {K : PySem.W.Frag} {H : Hp}
def rSortDn (K : PySem.W.Frag) : List V → Hp → VK → Prop := fun vs H Q => ∃ (d : Addr) (x : Obj × List (NestedKey × Addr × Value)) (ps : List (V × List Int)), vs = [V.ref d] ∧ H d = some (DnO d x) ∧ ps.map (·.1) = (x.2.map fun e => e.2.1).map V.ref ∧
  (∀ p ∈ ps, ∃ t b n ns, p.1 = V.ref t ∧ p.2 = n :: ns ∧ SqT K H t [V.int n, V.ref b] ∧ SqT K H b (ns.map V.int)) ∧
  ∀ (qs : List (V × List Int)) (p : Addr), qs.Perm ps → qs.Pairwise (fun x y => ltI y.2 x.2 = false) → H p = none → Q (.ref p) (upd H p (.lst (qs.map (·.1))))
def gSortDn : List D → Option D
  | [.dcd _ ks _] => (D.ilsI ks).map fun ls => .lst true ((sortT ls).map ilD)
  | _ => none
end
end Tw
noncomputable section
namespace Tw
open PySem PySem.Spec PyProof.Rows L2
/-! ## raise -/
/-- the classes behind ValueError -/
abbrev bmVE : List Value := [.type "ValueError", .type "Exception", .type "BaseException", .type "object"]
/-- an own exception class without own __init__ -/
structure Ex0 (K : PySem.W.Frag) (mg : Str → Option Value) (C : Addr) (x : Str) : Prop where
  g : mg x = some (.ref C)
  q : PySem.W.excIn K C bmVE "ValueError.__new__" = true
  k : PySem.W.keepIn K (.ref C) = true
  sub : PySem.W.subIn K (.ref C) (.type "BaseException") = some true
  ty : PySem.W.typeIn K (.ref C) = some (.type "type")
section
variable {X : Cx} {cl : Cl} {W : WX} {e : Expr} {es : List Expr} {pos p pos' : Pos} {x : Str} {fa : Ev} {io : List Nat}
def sRaise (c : Nat) : Sv := fun env => .exc c [] [] env
/-! ### an own exception class with a field -/
def spI (C : Addr) (f : Str) : Sp := fun vs H Q E => ∃ a v, vs = [V.ref a, v] ∧ H a = some (exo a C none) ∧ ∀ dx, H dx = none → dx ≠ a → Q .non (upd (upd H dx (exd dx [(f, v)])) a (exo a C (some dx)))
/-- an own exception class whose __init__ keeps one thing -/
structure Ex1 (P : Program) (w : World) (K : PySem.W.Frag) (mg : Str → Option Value) (base : Heap) (C : Addr) (x f : Str) (k : Nat) : Prop where
  g : mg x = some (.ref C)
  T : OexC K C
  no : PySem.W.findIn K (.ref C) f = some none
  ini : ∃ fI fd ps, PySem.W.findIn K (.ref C) "__init__" = some (some (.ref fI)) ∧ PySem.W.typeIn K (.ref fI) = some (.type "function") ∧ FnOk P w K mg base (L2.CX P w) k fI fd ps (spI C f) ∧ Binds K fd ps []
def sRaise1 (c : Nat) (f : Str) (g : Ev) : Sv := fun env => sBind (g env) fun d env1 => .exc c [f] [d] env1
end
end Tw
noncomputable section
namespace Tw
open PySem PySem.Spec PyProof.Rows L2
section
variable {K : PySem.W.Frag} {cl : Cl} {M : Addr → Prop} {H H' : Hp}
/-! ## the heap when a lambda is made: only a table of code objects may be written -/
mutual
theorem dat_trN : ∀ {d : D} {v : V} {f : List Addr}, Dat K cl M H d v f → LamX.ExtN H H' → Dat K cl M H' d v f
  | .non, _, _, h, _ => h
  | .bl _, _, _, h, _ => h
  | .int _, _, _, h, _ => h
  | .str _, _, _, h, _ => h
  | .ty _, _, _, h, _ => h
  | .cl _, _, _, h, _ => h
  | .at _, _, _, h, _ => h
  | .scr ns, v, f, h, e => by
    obtain ⟨e1, a, e2, s⟩ := h
    refine ⟨e1, a, e2, ?_⟩
    rcases s with ⟨s, n⟩ | s
    · rcases s with s | ⟨o, s⟩
      · exact .inl ⟨.inl (e _ _ s fun ps z => by cases z), n⟩
      · exact .inl ⟨.inr ⟨o, e _ _ s fun ps z => by cases z⟩, n⟩
    · exact .inr s
  | .tup ds, v, f, h, e => by
    obtain ⟨a, vs, e1, t, hd⟩ := h
    refine ⟨a, vs, e1, ?_, dats_trN hd e⟩
    rcases t with ⟨its, t, n⟩ | t
    · exact .inl ⟨its, e _ _ t (fun ps z => by unfold tupH at z; cases z), n⟩
    · exact .inr t
  | .pr ds, v, f, h, e => by
    obtain ⟨a, vs, e1, ⟨t, n⟩, hd⟩ := h
    exact ⟨a, vs, e1, ⟨e _ _ t (fun ps z => by cases z), n⟩, dats_trN hd e⟩
  | .dtt ks ds, v, f, h, e => by
    obtain ⟨a, vs, xs, e1, ⟨t, n⟩, ⟨k1, k2, k3⟩, hd⟩ := h
    refine ⟨a, vs, xs, e1, ⟨e _ _ t (fun ps z => by unfold DtO at z; cases z), n⟩, ⟨k1, fun x hx => ?_, k3⟩, dats_trN hd e⟩
    rcases k2 x hx with ⟨its, t, n⟩ | t
    · exact .inl ⟨its, e _ _ t (fun ps z => by unfold tupH at z; cases z), n⟩
    · exact .inr t
  | .lst m ds, v, f, h, e => by
    obtain ⟨a, vs, g, e1, t, hd, w⟩ := h
    exact ⟨a, vs, g, e1, e _ _ t (fun ps z => by cases z), dats_trN hd e, w⟩
  | .obj m c ns ds, v, f, h, e => by
    obtain ⟨a, dx, vs, g, e1, t, l, hd, w⟩ := h
    exact ⟨a, dx, vs, g, e1, e _ _ t (fun ps z => by cases z), l, dats_trN hd e, w⟩
  | .dct m ks ds, v, f, h, e => by
    obtain ⟨a, vs, g, e1, t, l, hd, w⟩ := h
    exact ⟨a, vs, g, e1, e _ _ t (fun ps z => by cases z), l, dats_trN hd e, w⟩
  | .dcd m ks ds, v, f, h, e => by
    obtain ⟨a, vs, es, g, e1, t, l, hk, hd, w⟩ := h
    exact ⟨a, vs, es, g, e1, e _ _ t (hopl_N _ _).1, l, dats_trN hk e, dats_trN hd e, w⟩
  | .ex a d c ns ds, v, f, h, e => by
    obtain ⟨vs, e1, ⟨l, k⟩, hd⟩ := h
    exact ⟨vs, e1, ⟨l, k.imp id fun ⟨t, n⟩ => ⟨e _ _ t (fun ps z => by cases z), n⟩⟩, dats_trN hd e⟩
  | .wlk m o ks ds, v, f, h, e => by
    obtain ⟨a, vs, g, e1, t, l, hd, w⟩ := h
    exact ⟨a, vs, g, e1, e _ _ t l.2.2.1, l, dats_trN hd e, w⟩
theorem dats_trN : ∀ {ds : List D} {vs : List V} {f : List Addr}, Dats K cl M H ds vs f → LamX.ExtN H H' → Dats K cl M H' ds vs f
  | [], _, _, h, _ => h
  | d :: ds, vs, f, h, e => by
    obtain ⟨v, vs', f1, f2, e1, e2, h1, h2⟩ := h
    exact ⟨v, vs', f1, f2, e1, e2, dat_trN h1 e, dats_trN h2 e⟩
end
mutual
/-- what may still be changed is neither a table nor a code object -/
theorem dat_pl : ∀ {d : D} {v : V} {f : List Addr}, Dat K cl M H d v f → ∀ a ∈ f, ∃ o, H a = some o ∧ HOpl o
  | .non, _, _, h => by rw [h.2]; intro a z; cases z
  | .bl _, _, _, h => by rw [h.2]; intro a z; cases z
  | .int _, _, _, h => by rw [h.2]; intro a z; cases z
  | .str _, _, _, h => by rw [h.2]; intro a z; cases z
  | .ty _, _, _, h => by rw [h.2]; intro a z; cases z
  | .cl _, _, _, h => by rw [h.2]; intro a z; cases z
  | .scr _, _, _, h => by rw [h.1]; intro a z; cases z
  | .at _, _, _, h => by rw [h.2]; intro a z; cases z
  | .tup ds, _, _, h => by
    obtain ⟨_, _, _, _, hd⟩ := h
    exact dats_pl hd
  | .pr ds, _, _, h => by
    obtain ⟨_, _, _, _, hd⟩ := h
    exact dats_pl hd
  | .dtt _ ds, _, _, h => by
    obtain ⟨_, _, _, _, _, _, hd⟩ := h
    exact dats_pl hd
  | .ex _ _ _ _ ds, _, _, h => by
    obtain ⟨_, _, _, hd⟩ := h
    exact dats_pl hd
  | .lst m ds, _, _, h => by
    obtain ⟨a, _, g, _, t, hd, w⟩ := h
    rcases w with ⟨_, q, e⟩ | ⟨_, _, e, _⟩
    · subst e
      intro b z
      rcases List.mem_cons.mp z with z | z
      · rw [z]; exact ⟨_, t, hopl_lst _⟩
      · exact dats_pl hd b z
    · rw [e]; intro a z; cases z
  | .obj m _ _ ds, _, _, h => by
    obtain ⟨a, _, _, g, _, t, _, hd, w⟩ := h
    rcases w with ⟨_, q, e⟩ | ⟨_, _, e, _⟩
    · subst e
      intro b z
      rcases List.mem_cons.mp z with z | z
      · rw [z]; exact ⟨_, t, hopl_ins _ _ _⟩
      · exact dats_pl hd b z
    · rw [e]; intro a z; cases z
  | .dct m _ ds, _, _, h => by
    obtain ⟨a, _, g, _, t, _, hd, w⟩ := h
    rcases w with ⟨_, q, e⟩ | ⟨_, _, e, _⟩
    · subst e
      intro b z
      rcases List.mem_cons.mp z with z | z
      · rw [z]; exact ⟨_, t, hopl_dK _⟩
      · exact dats_pl hd b z
    · rw [e]; intro a z; cases z
  | .dcd m _ ds, _, _, h => by
    obtain ⟨a, _, _, g, _, t, _, _, hd, w⟩ := h
    rcases w with ⟨_, q, e⟩ | ⟨_, _, e, _⟩
    · subst e
      intro b z
      rcases List.mem_cons.mp z with z | z
      · rw [z]; exact ⟨_, t, hopl_N _ _⟩
      · exact dats_pl hd b z
    · rw [e]; intro a z; cases z
  | .wlk m _ _ ds, _, _, h => by
    obtain ⟨a, _, g, _, t, l, hd, w⟩ := h
    rcases w with ⟨_, q, e⟩ | ⟨_, _, e, _⟩
    · subst e
      intro b z
      rcases List.mem_cons.mp z with z | z
      · rw [z]; exact ⟨_, t, l.2.2⟩
      · exact dats_pl hd b z
    · rw [e]; intro a z; cases z
theorem dats_pl : ∀ {ds : List D} {vs : List V} {f : List Addr}, Dats K cl M H ds vs f → ∀ a ∈ f, ∃ o, H a = some o ∧ HOpl o
  | [], _, _, h => by rw [h.2]; intro a z; cases z
  | d :: ds, _, _, h => by
    obtain ⟨_, _, f1, f2, _, e2, h1, h2⟩ := h
    subst e2
    intro a z
    rcases List.mem_append.mp z with z | z
    · exact dat_pl h1 a z
    · exact dats_pl h2 a z
end
end
end Tw
noncomputable section
namespace Tw
open PySem PySem.Spec PyProof.Rows L2
/-! ## the exception at hand: isinstance, a field -/
/-- isinstance(e, u), e the exception of the class c at a, its dict at d -/
def gIsX (isa : Tg → Tg → Option Bool) (a : Addr) (d : Option Addr) (c : Nat) : List D → Option D
  | [.ex a' d' c' ns _, u] => if a' = a ∧ c' = c ∧ (d = none ∨ (d = some d' ∧ ns ≠ [])) then (D.asT u).bind fun u => (isa (.cl c) u).map .bl else none
  | _ => none
/-- e.f -/
def gXf (a : Addr) (d : Option Addr) (c : Nat) (f : Str) : List D → Option D
  | [.ex a' d' c' ns xs] => if a' = a ∧ c' = c ∧ d = some d' ∧ ns ≠ [] then (lookD ns xs f).bind fun z => if D.ok z then some z else none else none
  | _ => none
section
variable {X : Cx} {cl : Cl} {W : WX} {K : PySem.W.Frag}
/-- what is told of an exception class, so that isinstance and fields are served -/
structure ExcK (K : PySem.W.Frag) (C : Addr) : Prop where
  hc : (PySem.W.clsIn K C).isSome = true
  hg : PySem.W.findIn K (.ref C) "__getattribute__" = some (some (.builtin "BaseException.__getattribute__"))
  hk : PySem.W.findIn K (.ref C) "__getattr__" = some none
  hs : PySem.W.subIn K (.ref C) (.type "BaseException") = some true
  hd : PySem.W.hasDictIn K C = true
  ha : PySem.W.findIn K (.ref C) "__class__" = some (some (.builtin "object.__class__"))
  hn : PySem.W.specialIn K (.builtin "object.__class__") "__get__" = some (some (.builtin "getset_descriptor.__get__"))
  ht : PySem.W.takesIn K (.builtin "object.__class__") = some true
  hm : PySem.W.mroIn K C (.type "object") = some true
def rIsX (K : PySem.W.Frag) (C a : Addr) (d : Option Addr) : List V → Hp → VK → Prop := fun xs H Q => ∃ (c : V) (cv : Value) (b : Bool), xs = [.ref a, c] ∧ (∀ u, RelV c u → u = cv) ∧ PySem.W.kitOne K (.ref C) cv = some b ∧ (∀ dd, d = some dd → ∃ fs, H dd = some (.xd fs)) ∧ Q (.bl b) H
def rXf (a : Addr) (cls : Value) (d : Option Addr) (C : Addr) (f : Str) : V → Hp → VK → Prop := fun x H1 Q => x = .ref a ∧ cls = .ref C ∧ ∃ (dd : Addr) (fs : List (Str × V)) (v : V), d = some dd ∧ H1 dd = some (.xd fs) ∧ fs.lookup f = some v ∧ Q v H1
/-! ## try with clauses that keep no name -/
/-- which clauses take which exceptions -/
def exmBy (l : List (Nat × Nat × Bool)) (c c' : Nat) : Option Bool := (l.find? fun z => z.1 == c && z.2.1 == c').map (·.2.2)
structure ExmOk (K : PySem.W.Frag) (cl : Cl) (exm : Nat → Nat → Option Bool) : Prop where
  ok : ∀ c c' b, exm c c' = some b → PySem.W.exmOne K (.ref (cl c)) (.ref (cl c')) = some b
def noExc : Out → Out
  | .exc _ _ _ _ => .stuck
  | o => o
def pickH (exm : Nat → Nat → Option Bool) (c : Nat) (ns : List Str) (ds : List D) (env : Tw.Env) : List (Nat × Sv) → Out
  | [] => .exc c ns ds env
  | (c', h) :: r => match exm c c' with
    | some true => noExc (h env)
    | some false => pickH exm c ns ds env r
    | none => .stuck
def sTryM (exm : Nat → Nat → Option Bool) (g : Sv) (hs : List (Nat × Sv)) : Sv := fun env => match g env with
  | .exc c ns ds env1 => pickH exm c ns ds env1 hs
  | o => o
inductive HdsT (X : Cx) (cl : Cl) (io : List Nat) : List ExceptHandler → List (Nat × Sv) → Prop
  | nil : HdsT X cl io [] []
  | cons {x : Str} {c : Nat} {h : Sv} {b₀ : Stmt} {suite : List Stmt} {np pos' : Pos} {hds : List ExceptHandler} {l : List (Nat × Sv)} (hc : Names X x (.ref (cl c)))
      (hsu : ∀ (a : Addr) (pn : List (Addr × Obj)), PSs (X.suite a pn) (b₀ :: suite) (tS X.K cl (fun _ _ _ _ => False) io h)) (r : HdsT X cl io hds l) :
      HdsT X cl io (.ExceptHandler (some (.Name x np)) none (b₀ :: suite) pos' :: hds) ((c, h) :: l)
theorem SOut.more {io : List Nat} {Z : Ends} {A κ : Tw.Env} {Y τ σ : S} {o : Out} (ly : Y.length = A.length) (h : SOut K cl W io Z κ τ σ (noExc o)) : SOut K cl (fun _ _ _ _ => False) io Z (A ++ κ) (Y ++ τ) σ o := by
  cases o with
  | next env => exact fun σ' H' q r => h σ' H' q (Rel.drop (A := A) (X := Y) (by rwa [List.append_assoc, List.append_assoc] at r) ly)
  | brk env => exact fun σ' H' q r => h σ' H' q (Rel.drop (A := A) (X := Y) (by rwa [List.append_assoc, List.append_assoc] at r) ly)
  | cont env => exact fun σ' H' q r => h σ' H' q (Rel.drop (A := A) (X := Y) (by rwa [List.append_assoc, List.append_assoc] at r) ly)
  | ret d env => exact fun v σ' H' q r => h v σ' H' q (by
      have r2 : Rel K cl H' ([some d] ++ (A ++ (κ ++ env))) ([some v] ++ (Y ++ (τ ++ σ'))) := by rwa [List.append_assoc, List.append_assoc] at r
      exact Rel.drop (A := A) (X := Y) (Rel.swap3 r2 rfl ly) ly)
  | exc c ns ds env => exact h.elim
  | stuck => exact h
end
end Tw
noncomputable section
namespace Tw
open PySem PySem.Spec PyProof.Rows L2
/-! ## reckoning with exceptions -/
theorem e_bX {α β : Type} (c : Nat) (ns : List Str) (ds : List D) (e : Tw.Env) (k : α → Tw.Env → Rs β) : Rs.bind (.exc c ns ds e) k = .exc c ns ds e := (rfl)
theorem e_sX {α : Type} (c : Nat) (ns : List Str) (ds : List D) (e : Tw.Env) (k : α → Tw.Env → Out) : sBind (.exc c ns ds e) k = .exc c ns ds e := (rfl)
theorem e_seqX (h : Sv) (c : Nat) (ns : List Str) (ds : List D) (env : Tw.Env) : seqR h (.exc c ns ds env) = .exc c ns ds env := (rfl)
theorem e_rtEx (io : List Nat) (c : Nat) (ns : List Str) (ds : List D) (env : Tw.Env) : rtR io (.exc c ns ds env) = rtE c ns ds (ioOf io env) := (rfl)
theorem e_rtE1 (c : Nat) (ns : List Str) (ds ios : List D) : rtE c ns ds (some ios) = .exc c ns ds ios := (rfl)
theorem e_ioX (os : List Opd) (io : List Nat) (env : Tw.Env) (c : Nat) (ns : List Str) (ds ios : List D) : ioR os io env (.exc c ns ds ios) = ex1 c ns ds (putIo os io ios env) := (rfl)
theorem e_ex1 (c : Nat) (ns : List Str) (ds : List D) (env : Tw.Env) : ex1 c ns ds (some env) = .exc c ns ds env := (rfl)
theorem e_put0 (os : List Opd) (env : Tw.Env) : putIo os [] [] env = some env := (rfl)
theorem e_raise (c : Nat) (env : Tw.Env) : sRaise c env = .exc c [] [] env := (rfl)
def k_raise1 (c : Nat) (f : Str) : D → Tw.Env → Out := fun d env1 => .exc c [f] [d] env1
theorem e_raise1 (c : Nat) (f : Str) (g : Ev) (env : Tw.Env) : sRaise1 c f g env = sBind (g env) (k_raise1 c f) := (rfl)
theorem e_kraise1 (c : Nat) (f : Str) (d : D) (env1 : Tw.Env) : k_raise1 c f d env1 = .exc c [f] [d] env1 := (rfl)
def tryR (exm : Nat → Nat → Option Bool) (hs : List (Nat × Sv)) : Out → Out
  | .exc c ns ds env1 => pickH exm c ns ds env1 hs
  | o => o
theorem e_try (exm : Nat → Nat → Option Bool) (g : Sv) (hs : List (Nat × Sv)) (env : Tw.Env) : sTryM exm g hs env = tryR exm hs (g env) := by
  unfold sTryM tryR
  cases g env <;> rfl
theorem e_tryX (exm : Nat → Nat → Option Bool) (hs : List (Nat × Sv)) (c : Nat) (ns : List Str) (ds : List D) (env : Tw.Env) : tryR exm hs (.exc c ns ds env) = pickH exm c ns ds env hs := (rfl)
theorem e_tryN (exm : Nat → Nat → Option Bool) (hs : List (Nat × Sv)) (env : Tw.Env) : tryR exm hs (.next env) = .next env := (rfl)
theorem e_tryRt (exm : Nat → Nat → Option Bool) (hs : List (Nat × Sv)) (d : D) (env : Tw.Env) : tryR exm hs (.ret d env) = .ret d env := (rfl)
def pickR (exm : Nat → Nat → Option Bool) (c : Nat) (ns : List Str) (ds : List D) (env : Tw.Env) (h : Sv) (r : List (Nat × Sv)) : Option Bool → Out
  | some true => noExc (h env)
  | some false => pickH exm c ns ds env r
  | none => .stuck
theorem e_pick0 (exm : Nat → Nat → Option Bool) (c : Nat) (ns : List Str) (ds : List D) (env : Tw.Env) : pickH exm c ns ds env [] = .exc c ns ds env := (rfl)
theorem e_pick1 (exm : Nat → Nat → Option Bool) (c c' : Nat) (ns : List Str) (ds : List D) (env : Tw.Env) (h : Sv) (r : List (Nat × Sv)) : pickH exm c ns ds env ((c', h) :: r) = pickR exm c ns ds env h r (exm c c') := by
  show (match exm c c' with | some true => noExc (h env) | some false => pickH exm c ns ds env r | none => .stuck) = _
  unfold pickR
  rcases exm c c' with _ | _ | _ <;> rfl
theorem e_pickT (exm : Nat → Nat → Option Bool) (c : Nat) (ns : List Str) (ds : List D) (env : Tw.Env) (h : Sv) (r : List (Nat × Sv)) : pickR exm c ns ds env h r (some true) = noExc (h env) := (rfl)
theorem e_pickF (exm : Nat → Nat → Option Bool) (c : Nat) (ns : List Str) (ds : List D) (env : Tw.Env) (h : Sv) (r : List (Nat × Sv)) : pickR exm c ns ds env h r (some false) = pickH exm c ns ds env r := (rfl)
theorem e_fgX (bd : Bd) (body : Sv) (ds0 : List D) (c : Nat) (ns : List Str) (ds : List D) (env : Tw.Env) : fgS bd body ds0 (.exc c ns ds env) = .exc c ns ds env := (rfl)
theorem e_noN (env : Tw.Env) : noExc (.next env) = .next env := (rfl)
theorem e_noRt (d : D) (env : Tw.Env) : noExc (.ret d env) = .ret d env := (rfl)
theorem e_noB (env : Tw.Env) : noExc (.brk env) = .brk env := (rfl)
theorem e_noC (env : Tw.Env) : noExc (.cont env) = .cont env := (rfl)
end Tw
noncomputable section
namespace Tw
open PySem PySem.Spec PyProof.Rows L2
/-! ## a def that calls the lambda it got, and says in a word how that ended -/
section
variable {K : PySem.W.Frag} {cl : Cl} {H : Hp}
end
/-- what the word comes to: wl if all went well, by hw if an own exception came -/
def fWord (wl : D) (hw : Nat → List Str → List D → Option D) (f : Ev) : Ev := fun env => match f env with
  | .ok _ env1 => .ok wl env1
  | .exc c ns ds env1 => match hw c ns ds with
    | some w => .ok w env1
    | none => .stuck
  | .stuck => .stuck
/-- what the handler's suite must come to, whatever the exception's place -/
def HwOk (n i j : Nat) (hs : Addr → Option Addr → Nat → Sv) (hw : Nat → List Str → List D → Option D) : Prop := ∀ c ns ds w, hw c ns ds = some w → ∀ (a : Addr) (d : Option Addr), (ns = [] ∧ d = none ∨ ns ≠ [] ∧ ∃ dd, d = some dd) →
  ∃ env, hs a d c ((List.replicate n none).set i (some (.ex a (d.getD 0) c ns ds))) = .next env ∧ env[j]? = some (some w)
section
variable {K : PySem.W.Frag} {cl : Cl}
/-- what the lambda's reading must promise -/
def TTw (K : PySem.W.Frag) (cl : Cl) (ok : Nat → Prop) (wl : Str) (hw : Nat → List Str → List D → Option D) : (XK → Hp → VK → Prop) → Hp → VK → Prop := fun tl H Q =>
  tl (fun cls dd H' => ∃ c ns ds vs κ τ w, ExAt cl H' cls dd c ns vs ∧ Rel K cl H' (ds.map some ++ κ) (vs.map some ++ τ) ∧ ds.length = vs.length ∧ τ.length = κ.length ∧ ok c ∧ hw c ns ds = some w ∧ ∀ v H'', Rel K cl H'' (some w :: κ) (some v :: τ) → Q v H'') H fun _ H' => Q (.str wl) H'
end
section
variable {X : Cx} {cl : Cl}
/-- how deep it may still go, as the rules ask it -/
structure UnOk (A : Around) : Prop where
  units : A.units + 64 < cLine
end
end Tw
noncomputable section
namespace Tw
open PySem PySem.Spec PyProof.Rows L2
/-! ## defs that hold lambdas: their code objects and tables -/
section
variable {P : Program} {w : World} {K : PySem.W.Frag} {mg : Str → Option Value} {base : Heap} {cl : Cl}
/-- what is told of a def's code object and of its table -/
def LamT (base : Heap) (mg : Str → Option Value) (cl : Cl) (q : Str) (c : Addr) : Prop := ∃ P : Addr, LamX.TabB base mg c P ∧ (P, q) ∈ cl.T ∧ ∀ p ∈ cl.T, p.1 = P → p.2 = q
end
end Tw
noncomputable section
namespace Tw
open PySem PySem.Spec PyProof.Rows L2
/-! ## the word def, packed -/
/-- words by tables: of exceptions without fields, of those with one field -/
def hwBy (t0 : List (Nat × D)) (t1 : List (Nat × Str × (D → D))) : Nat → List Str → List D → Option D := fun c ns ds => match ds with
  | [] => if ns = [] then (t0.find? fun z => z.1 == c).map (·.2) else none
  | [x] => if D.ok x = true then (t1.find? fun z => z.1 == c && decide (ns = [z.2.1])).map fun z => z.2.2 x else none
  | _ => none
/-- a def that says in a word how the lambda it got ended -/
def WordFn (P : Program) (w : World) (K : PySem.W.Frag) (mg : Str → Option Value) (base : Heap) (cl : Cl) (x : Str) (wl : Str) (hw : Nat → List Str → List D → Option D) : Prop :=
  ∃ (ok : Nat → Prop) (g : Addr) (pg : Arguments) (bg : List Stmt) (sg : Scope) (dV kV doc pm cdv ct oc : Value) (an od : Option Addr) (osl : Array (Option Value)) (Ng : List Str) (a : Str),
    (∀ c ns ds u, hw c ns ds = some u → ok c) ∧ mg x = some (.ref g) ∧ PySem.W.keepIn K (.ref g) = true ∧ K.lookup g = some ⟨oc, od, .func (PySem.W.fnOf x x pg bg sg dV kV doc pm an cdv ct), osl⟩ ∧ PySem.W.codeIn K cdv x = true ∧ L2.Binds K (PySem.W.fnOf x x pg bg sg dV kV doc pm an cdv ct) [a] [] ∧
    FnScope Ng [a] sg ∧ Ng[0]? = some a ∧ Vis sg a ∧ (a == ("__debug__" : Str)) = false ∧ (a == ("__classdict__" : Str)) = false ∧
    ∀ (X : Cx) (q : Str), X.prog = P → X.w = w → X.K = K → X.mg = mg → X.base = base → (∀ e : PySem.Env, UnOk (X.A.deeper e)) → LamX.GivesTo X Ng x sg g cdv bg a q (TTw K cl ok wl hw)
section
variable {X : Cx} {cl : Cl}
end
/-! ### reckoning -/
def wordR (wl : D) (hw : Nat → List Str → List D → Option D) : Rs D → Rs D
  | .ok _ env1 => .ok wl env1
  | .exc c ns ds env1 => chR2 env1 (hw c ns ds)
  | .stuck => .stuck
theorem e_word (wl : D) (hw : Nat → List Str → List D → Option D) (f : Ev) (env : Tw.Env) : fWord wl hw f env = wordR wl hw (f env) := by
  unfold fWord wordR
  cases f env with
  | ok d e => rfl
  | stuck => rfl
  | exc c ns ds e => cases hw c ns ds <;> rfl
theorem e_wordO (wl : D) (hw : Nat → List Str → List D → Option D) (d : D) (env : Tw.Env) : wordR wl hw (.ok d env) = .ok wl env := (rfl)
theorem e_wordX (wl : D) (hw : Nat → List Str → List D → Option D) (c : Nat) (ns : List Str) (ds : List D) (env : Tw.Env) : wordR wl hw (.exc c ns ds env) = chR2 env (hw c ns ds) := (rfl)
theorem frz_ex (a d : Addr) (c : Nat) (ns : List Str) (xs : List D) : D.frz (.ex a d c ns xs) = .ex a d c ns (D.frzs xs) := (rfl)
theorem ok_ex (a d : Addr) (c : Nat) (ns : List Str) (xs : List D) : D.ok (.ex a d c ns xs) = D.oks xs := (rfl)
end Tw
noncomputable section
namespace Tw
open PySem PySem.Spec PyProof.Rows L2
/-! ## {k: v}, one entry, k a text or a number, v any thing -/
def fDctV (k : Key) (f : Ev) : Ev := fun env => (f env).bind fun d env1 => .ok (.dct true [k] [d]) env1
section
variable {X : Cx} {K : PySem.W.Frag} {cl : Cl} {W : WX} {H : Hp}
end
def k_dctV (k : Key) : D → Tw.Env → Rs D := fun d env1 => .ok (.dct true [k] [d]) env1
theorem e_dctV (k : Key) (f : Ev) (env : Tw.Env) : fDctV k f env = (f env).bind (k_dctV k) := (rfl)
theorem e_kdctV (k : Key) (d : D) (env1 : Tw.Env) : k_dctV k d env1 = .ok (.dct true [k] [d]) env1 := (rfl)
end Tw
noncomputable section
namespace Tw
open PySem PySem.Spec PyProof.Rows L2
/-! ## f(): a call of a def without arguments -/
section
variable {X : Cx} {CX : CXT} {sp : Sp} {dvs : List V} {ds : List Value} {E : L2.St → XK} {k : Nat} {f : Addr} {fd : FuncData} {ps : List Str} {x : Str} {p pos : Pos}
end
section
variable {X : Cx} {cl : Cl} {W : WX} {pos p : Pos}
end
/-! ### reckoning -/
theorem e_mkX (env : Tw.Env) (c : Nat) (ns : List Str) (ds ios : List D) : mkR env (.exc c ns ds ios) = .exc c ns ds env := (rfl)
end Tw
noncomputable section
namespace PySem.SeqAt
open PySem PySem.Spec PyProof.Rows
variable {A : Around} {s : Shared}
end PySem.SeqAt
namespace Tw
open PySem PySem.Spec PyProof.Rows L2
/-! ## x != t, t a tuple, x data or a dict -/
section
variable {X : Cx}
def rNeX (K : PySem.W.Frag) : R2 := fun x y H Q => rNeD K x y H Q ∨ ∃ a b ks xs, x = .ref a ∧ y = .ref b ∧ H a = some (.dK ks) ∧ SqT K H b xs ∧ Q (.bl true) H
end
def gNeX : List D → Option D
  | [.dct _ _ _, .tup _] => some (.bl true)
  | as => gNe as
section
variable {K : PySem.W.Frag} {cl : Cl}
end
end Tw
noncomputable section
namespace Tw
open PySem PySem.Spec PyProof.Rows L2
/-! ## words by tables, of exceptions whose field holds a plain part -/
def partB : D → Bool
  | .int _ => true
  | .str s => PyData.strOk s
  | .tup [.str s, .int _] => PyData.strOk s
  | _ => false
def hwBy2 (t0 : List (Nat × D)) (t1 : List (Nat × Str × (D → D))) : Nat → List Str → List D → Option D := fun c ns ds => match ds with
  | [] => if ns = [] then (t0.find? fun z => z.1 == c).map (·.2) else none
  | [x] => if partB x = true then (t1.find? fun z => z.1 == c && decide (ns = [z.2.1])).map fun z => z.2.2 x else none
  | _ => none
end Tw
noncomputable section
namespace Tw
open PySem PySem.Spec PyProof.Rows L2
/-! ## c in z, one sign in a text -/
def rIn1 : R2 := fun x y H Q => ∃ (c : Nat) (z : Str), x = .str ⟨#[c]⟩ ∧ y = .str z ∧ Q (.bl (decide (c ∈ z.cps.toList))) H
def gInS : List D → Option D
  | [.str x, .str z] => match x.cps.toList with
    | [c] => some (.bl (decide (c ∈ z.cps.toList)))
    | _ => none
  | _ => none
section
variable {K : PySem.W.Frag} {cl : Cl}
end
/-! ## zip of two sequences of any kinds -/
def orS {α : Type} (b : Rs α) : Rs α → Rs α
  | .stuck => b
  | r => r
def iZipA (os : List Ev) : Tw.Env → Rs (List D) := fun env => orS (iZipW os env) (iZip os env)
section
variable {X : Cx} {cl : Cl} {W : WX} {a b : Expr} {p pos : Pos}
end
end Tw
noncomputable section
namespace Tw
open PySem PySem.Spec PyProof.Rows L2
/-! ## repr of lists and tuples of plain data, where no repr is under way -/
def rReprD (K : PySem.W.Frag) : List V → Hp → VK → Prop := fun xs H Q => ∃ (a : Addr) (d : PyData), xs = [.ref a] ∧ Dp K H (.ref a) d ∧ d.showable = true ∧ d.hasDict = false ∧ d.depth ≤ 60 ∧ d.shown.length ≤ sizeLine ∧ Q (.str d.shown) H
theorem call_reprD {X : Cx} (hg : X.A.guards = some []) (hu : X.A.units + 64 < cLine) : CallR X (.builtin "repr") (rReprD X.K) := by
  intro pins s σ H xs us Q I r h
  obtain ⟨a, d, rfl, hd, hs, hn, hz, hl, q⟩ := h
  rw [Vals.ref1 r]
  obtain ⟨as, R⟩ := Dp.reads I d (.ref a) (.ref a) hd rfl
  refine repr_of_reads' R hs (fun e => by rw [hn] at e; cases e) hg (by omega) (fun _ _ e => e) (fun h' u tk hk => ?_) hl
  have J : Inv X pins σ H { s with heap := h', gens := s.gens, drawn := s.drawn, toks := tk } := I.call (ch := []) (Un.kept hk) (I.hok.kept hk) I.bare (fun _ z => nomatch z)
  exact ⟨.str d.shown, H, J, ⟨u, rfl⟩, q⟩
def D.isSeq : D → Bool
  | .tup _ => true
  | .lst _ _ => true
  | _ => false
def gRepr : List D → Option D
  | [d] => (D.py d).bind fun p => if D.isSeq d && (p.showable && (!p.hasDict && (decide (p.depth ≤ 60) && decide (p.shown.length ≤ sizeLine)))) then some (.str p.shown) else none
  | _ => none
theorem s_repr {K : PySem.W.Frag} {cl : Cl} : OpS K cl (rReprD K) gRepr := by
  intro as d vs H κ τ Q h l r q
  match as, h with
  | [a], h =>
    simp only [gRepr, Option.bind_eq_some_iff] at h
    obtain ⟨p, e1, h⟩ := h
    split at h
    · rename_i c
      cases h
      simp only [Bool.and_eq_true, decide_eq_true_eq, Bool.not_eq_true'] at c
      obtain ⟨c1, c2, c3, c4, c5⟩ := c
      obtain ⟨u, rfl⟩ := one_of rfl l
      obtain ⟨M, f, hh⟩ := r.head
      have hd := dat_dp hh e1
      have hr : ∃ b, u = .ref b := by
        cases a with
        | tup xs => obtain ⟨b, _, e, _⟩ := hh; exact ⟨b, e⟩
        | lst m xs => obtain ⟨b, _, _, e, _⟩ := hh; exact ⟨b, e⟩
        | _ => cases c1
      obtain ⟨b, rfl⟩ := hr
      exact ⟨b, p, rfl, hd, c2, c3, c4, c5, q _ _ (r.push fun M => ⟨rfl, rfl⟩)⟩
    · cases h
/-! ### what is shown, and how long -/
theorem strOk_app {a b : Str} (ha : PyData.strOk a = true) (hb : PyData.strOk b = true) : PyData.strOk (a ++ b) = true := by
  unfold PyData.strOk at *
  show (a.cps ++ b.cps).all _ = true
  rw [Array.all_append, ha, hb]; rfl
/-- shown in at most n signs -/
structure Sh (n : Nat) (k : Nat) (p : PyData) : Prop where
  sh : p.showable = true
  di : p.hasDict = false
  de : p.depth ≤ k
  le : p.shown.length ≤ n
  ok : PyData.strOk p.shown = true
theorem strLen (a b : Str) : (a ++ b).length = a.length + b.length := strLen_append a b
theorem text_from : ∀ (ts : List Str) (k B : Nat) (acc : Str), (∀ t ∈ ts, t.length ≤ B ∧ PyData.strOk t = true) → PyData.strOk acc = true →
    (textFrom k acc ts).length ≤ acc.length + ts.length * (B + 2) ∧ PyData.strOk (textFrom k acc ts) = true
  | [], k, B, acc, _, ha => ⟨by show acc.length ≤ _; omega, ha⟩
  | t :: ts, k, B, acc, ht, ha => by
    obtain ⟨h1, h2⟩ := ht t List.mem_cons_self
    have hs : ((if k > 0 then ", " else "" : String) : Str).length ≤ 2 ∧ PyData.strOk ((if k > 0 then ", " else "" : String) : Str) = true := by
      split
      · exact ⟨by decide +kernel, by decide +kernel⟩
      · exact ⟨by decide +kernel, by decide +kernel⟩
    obtain ⟨q1, q2⟩ := text_from ts (k + 1) B (acc ++ ((if k > 0 then ", " else "" : String) : Str) ++ t) (fun x hx => ht x (List.mem_cons_of_mem _ hx)) (strOk_app (strOk_app ha hs.2) h2)
    refine ⟨?_, q2⟩
    have e : (acc ++ ((if k > 0 then ", " else "" : String) : Str) ++ t).length ≤ acc.length + 2 + B := by
      rw [strLen, strLen]
      have := hs.1
      omega
    have q1' : (textFrom k acc (t :: ts)).length ≤ _ := q1
    rw [List.length_cons, Nat.succ_mul]
    omega
theorem text_join : ∀ (ts : List Str) (B : Nat), (∀ t ∈ ts, t.length ≤ B ∧ PyData.strOk t = true) → (Str.join ", " ts).length ≤ ts.length * (B + 2) ∧ PyData.strOk (Str.join ", " ts) = true
  | [], B, _ => ⟨by show (Str.empty).length ≤ _; exact Nat.zero_le _, by decide +kernel⟩
  | [t], B, ht => by
    obtain ⟨h1, h2⟩ := ht t List.mem_cons_self
    exact ⟨by show t.length ≤ 1 * (B + 2); omega, h2⟩
  | t :: u :: ts, B, ht => by
    obtain ⟨h1, h2⟩ := ht t List.mem_cons_self
    obtain ⟨q1, q2⟩ := text_join (u :: ts) B fun x hx => ht x (List.mem_cons_of_mem _ hx)
    have c : ((", " : String) : Str).length = 2 ∧ PyData.strOk ((", " : String) : Str) = true := ⟨by decide +kernel, by decide +kernel⟩
    have e : Str.join ", " (t :: u :: ts) = t ++ ((", " : String) : Str) ++ Str.join ", " (u :: ts) := rfl
    rw [e]
    refine ⟨?_, strOk_app (strOk_app h2 c.2) q2⟩
    rw [strLen, strLen, c.1]
    rw [List.length_cons, Nat.succ_mul]
    omega
theorem shown_all : ∀ {ps : List PyData} {B k : Nat}, (∀ p ∈ ps, Sh B k p) → (∀ t ∈ PyData.shownAll ps, t.length ≤ B ∧ PyData.strOk t = true) ∧ (PyData.shownAll ps).length = ps.length ∧ PyData.showableAll ps = true ∧ PyData.hasDictAll ps = false ∧ PyData.depthAll ps ≤ k
  | [], B, k, _ => ⟨fun t h => (nomatch h), rfl, rfl, rfl, Nat.zero_le _⟩
  | p :: ps, B, k, h => by
    have hp := h p List.mem_cons_self
    obtain ⟨q1, q2, q3, q4, q5⟩ := shown_all (ps := ps) (B := B) (k := k) fun x hx => h x (List.mem_cons_of_mem _ hx)
    refine ⟨fun t ht => ?_, ?_, ?_, ?_, ?_⟩
    · rcases List.mem_cons.mp ht with e | e
      · rw [e]; exact ⟨hp.le, hp.ok⟩
      · exact q1 t e
    · show (PyData.shownAll ps).length + 1 = ps.length + 1
      rw [q2]
    · show (p.showable && PyData.showableAll ps) = true
      rw [hp.sh, q3]; rfl
    · show (p.hasDict || PyData.hasDictAll ps) = false
      rw [hp.di, q4]; rfl
    · show max p.depth (PyData.depthAll ps) ≤ k
      exact Nat.max_le.mpr ⟨hp.de, q5⟩
theorem Sh.mono {n m k : Nat} {p : PyData} (h : Sh n k p) (l : n ≤ m) : Sh m k p := ⟨h.sh, h.di, h.de, Nat.le_trans h.le l, h.ok⟩
theorem Sh.list {ps : List PyData} {B k L : Nat} (h : ∀ p ∈ ps, Sh B k p) (l : ps.length ≤ L) : Sh (L * (B + 2) + 2) (k + 1) (.list ps) := by
  obtain ⟨q1, q2, q3, q4, q5⟩ := shown_all h
  obtain ⟨t1, t2⟩ := text_from (PyData.shownAll ps) 0 B ("[" : String) q1 (by decide +kernel)
  have c : (("[" : String) : Str).length = 1 := by decide +kernel
  have c2 : (("]" : String) : Str).length = 1 ∧ PyData.strOk (("]" : String) : Str) = true := ⟨by decide +kernel, by decide +kernel⟩
  have m := Nat.mul_le_mul_right (B + 2) l
  refine ⟨by simp only [PyData.showable]; exact q3, by simp only [PyData.hasDict]; exact q4, by simp only [PyData.depth]; omega, ?_, ?_⟩
  · simp only [PyData.shown]
    unfold listText
    rw [strLen, c2.1]
    rw [q2, c] at t1
    omega
  · simp only [PyData.shown]
    unfold listText
    exact strOk_app t2 c2.2
theorem Sh.tuple {ps : List PyData} {B k L : Nat} (h : ∀ p ∈ ps, Sh B k p) (l : ps.length ≤ L) : Sh (L * (B + 2) + 3) (k + 1) (.tuple ps) := by
  obtain ⟨q1, q2, q3, q4, q5⟩ := shown_all h
  obtain ⟨t1, t2⟩ := text_join (PyData.shownAll ps) B q1
  have c : (("(" : String) : Str).length = 1 ∧ PyData.strOk (("(" : String) : Str) = true := ⟨by decide +kernel, by decide +kernel⟩
  have c2 : ((if (PyData.shownAll ps).length == 1 then ",)" else ")" : String) : Str).length ≤ 2 ∧ PyData.strOk ((if (PyData.shownAll ps).length == 1 then ",)" else ")" : String) : Str) = true := by
    split
    · exact ⟨by decide +kernel, by decide +kernel⟩
    · exact ⟨by decide +kernel, by decide +kernel⟩
  have m := Nat.mul_le_mul_right (B + 2) l
  refine ⟨by simp only [PyData.showable]; exact q3, by simp only [PyData.hasDict]; exact q4, by simp only [PyData.depth]; omega, ?_, ?_⟩
  · simp only [PyData.shown]
    unfold tupleText
    rw [strLen, strLen, c.1]
    rw [q2] at t1
    have := c2.1
    omega
  · simp only [PyData.shown]
    unfold tupleText
    exact strOk_app (strOk_app c.2 t2) c2.2
theorem Sh.bool (b : Bool) : Sh 5 0 (.bool b) := by
  cases b <;> exact ⟨rfl, rfl, Nat.le_refl _, by decide +kernel, by decide +kernel⟩
theorem Sh.up {n k j : Nat} {p : PyData} (h : Sh n k p) (l : k ≤ j) : Sh n j p := ⟨h.sh, h.di, Nat.le_trans h.de l, h.le, h.ok⟩
theorem repr_1 {d : D} {p : PyData} {n k : Nat} (e : D.py d = some p) (q : D.isSeq d = true) (h : Sh n k p) (hk : k ≤ 60) (hn : n ≤ sizeLine) : gRepr [d] = some (.str p.shown) := by
  show (D.py d).bind _ = _
  rw [e, Option.bind_some, q, h.sh, h.di, decide_eq_true (Nat.le_trans h.de hk), decide_eq_true (Nat.le_trans h.le hn)]
  rfl
end Tw
noncomputable section
namespace Tw
open PySem PySem.Spec PyProof.Rows L2
/-! ## a law whose own body asks for repr: its promise where the claim's caller stands -/
section
variable {P : Program} {w : World} {K : PySem.W.Frag} {mg : Str → Option Value} {base : Heap} {cl : Cl}
theorem tS_start {N ps : List Str} {io : List Nat} {g : Sv} {vs : List V} {H : Hp} {Q : VK} {E : XK} (hnd : io.Nodup) (hio : ∀ i ∈ io, i < ps.length) (hps : ps.length ≤ N.length) (h : spD K cl ps.length io (runB N.length io g) vs H Q E) :
    tS K cl (fun cls dd _ H' => E cls dd H') io g { nx := fun _ H' => Q .non H', rt := Q } (L2.start N vs) H := by
  obtain ⟨ln, τ, κ, ds, l, lt, r, q⟩ := h
  refine ⟨τ, κ, ds.map some ++ List.replicate (N.length - ds.length) none, start_rel r l, lt, ?_⟩
  have lst : (L2.start N vs).length = (ds.map some ++ List.replicate (N.length - ds.length) none : Tw.Env).length := by unfold L2.start; simp [l]
  have hstart : ∀ {σ' : S} {us : List V}, Agr io (L2.start N vs) σ' → io.map (fun i => σ'[i]?) = us.map (fun u => some (some u)) → io.map (fun i => vs[i]?) = us.map some := fun {σ' us} ag e => by
    have key : ∀ (l : List Nat) (us : List V), (∀ i ∈ l, i ∈ io) → l.map (fun i => σ'[i]?) = us.map (fun u => some (some u)) → l.map (fun i => vs[i]?) = us.map some := fun l => by
      induction l with
      | nil => intro us _ e; cases us with
        | nil => rfl
        | cons _ _ => simp at e
      | cons i l ih =>
        intro us hi e
        cases us with
        | nil => simp at e
        | cons u us =>
          simp only [List.map_cons, List.cons.injEq] at e ⊢
          refine ⟨?_, ih us (fun j hj => hi j (List.mem_cons_of_mem _ hj)) e.2⟩
          have e1 := (ag.2 i (hi i List.mem_cons_self)).symm.trans e.1
          have il : i < vs.length := by have := hio i (hi i List.mem_cons_self); omega
          unfold L2.start at e1
          rw [List.getElem?_append_left (by simpa using il), List.getElem?_map] at e1
          cases q : vs[i]? with
          | none => rw [q] at e1; cases e1
          | some y => rw [q] at e1; cases e1; rfl
    exact key io us (fun _ z => z) e
  unfold runB at q
  have lenOf : ∀ {H' : Hp} {κ' env' : Tw.Env} {τ' σ' : S}, Rel K cl H' (κ' ++ env') (τ' ++ σ') → τ'.length = κ'.length → σ'.length = env'.length := fun {H' κ' env' τ' σ'} z lt => by
    have y := z.len
    simp only [List.length_append] at y
    omega
  cases e : g (ds.map some ++ List.replicate (N.length - ds.length) none) with
  | next env =>
    rw [e] at q
    intro σ' H' ag r2
    cases e2 : ioOf io env with
    | none => simp only [e2] at q
    | some ios =>
      simp only [e2] at q
      obtain ⟨us, eu, lu, r3⟩ := Rel.outs (A := [some D.non]) (Y := [some V.non]) e2 hnd (lenOf r2 lt) rfl (r2.push fun M => ⟨rfl, rfl⟩) lt
      exact q .non H' us (hstart ag eu) r3
  | ret d env =>
    rw [e] at q
    intro v σ' H' ag r2
    cases e2 : ioOf io env with
    | none => simp only [e2] at q
    | some ios =>
      simp only [e2] at q
      obtain ⟨us, eu, lu, r3⟩ := Rel.outs (A := [some d]) (Y := [some v]) e2 hnd (lenOf r2.pop lt) rfl r2 lt
      exact q v H' us (hstart ag eu) r3
  | exc c ns es env =>
    rw [e] at q
    intro cls dd σ' H' ws ag ex r2 lw
    cases e2 : ioOf io env with
    | none => simp only [e2] at q
    | some ios =>
      simp only [e2] at q
      obtain ⟨us, eu, lu, r3⟩ := Rel.outs (A := es.map some) (Y := ws.map some) e2 hnd (lenOf (Rel.drop r2 (by simp [lw])) lt) (by simp [lw]) r2 lt
      exact q cls dd H' ws us ex lw.symm (hstart ag eu) r3
  | brk env => rw [e] at q; exact q.elim
  | cont env => rw [e] at q; exact q.elim
  | stuck => rw [e] at q; exact q.elim
/-- what a def promises where A stands -/
def RunAt (P : Program) (w : World) (K : PySem.W.Frag) (mg : Str → Option Value) (base : Heap) (A : Around) (f : Addr) (fd : FuncData) (ps : List Str) (sp : Sp) : Prop :=
  ∀ (s : Shared) (H : Hp) (args : Args) (us : List Value) (vs : List V) (Q : VK) (E : XK), Env0 P w K mg base A [] s H → BindsTo s fd args (ps.zip us) → Vals vs us → sp vs H Q E →
    codeAny (model P w) A (.call (.ref f) args) (CR (L2.CX P w) [] P w H s Q E) s
theorem def_at {x qual : Str} {st : Stmt} {f : Addr} {fd : FuncData} {N ps : List Str} {k : Nat} {io : List Nat} {g : Sv} {A : Around} (hr : Room (k + 1) A) (F : Fun K x qual st f fd) (Sc : FnScope N ps (defScope st)) (hnd : io.Nodup) (hio : ∀ i ∈ io, i < ps.length) (hps : ps.length ≤ N.length)
    (hbody : ∀ (cdv : Value) (outer : List PySem.Env) (s : Shared) (H : Hp) (E : XK), Room k (A.deeper (envOfC qual (defScope st) s.heap.objs.size f cdv)) →
      Takes (cxOf (L2.CX P w) P w K mg base N qual (defScope st) f cdv A outer s H E) (fun cls dd _ H' => E cls dd H') → PassesOwn (model P w) (A.deeper (envOfC qual (defScope st) s.heap.objs.size f cdv)) (envOfC qual (defScope st) s.heap.objs.size f cdv) (cxOf (L2.CX P w) P w K mg base N qual (defScope st) f cdv A outer s H E).xe →
      PSs (cxOf (L2.CX P w) P w K mg base N qual (defScope st) f cdv A outer s H E) (defBody st) (tS K cl (fun cls dd _ H' => E cls dd H') io g)) :
    RunAt P w K mg base A f fd ps (spD K cl ps.length io (runB N.length io g)) := by
  obtain ⟨oc, od, kV, doc, pm, an, cdv, ct, osl, rfl, lk, hcd⟩ := F.ex
  intro s H args us vs Q E e0 hb r hsp
  have hin : ∀ b o, base.get? b = some o → s.heap.get? b = some o := fun b o e => (e0.bs b o e).1
  have KX : K.In s.heap := e0.mod.kin.keeps hin
  refine codeAny_call_function hr.depth (KX _ _ lk) rfl Sc.co Sc.gen rfl (PySem.W.codeRec_of KX hcd) (hb _ _ _ _ (wpAny_newFunctionEnv_cells Sc.kind (fun y hy => ?_) fun env he s1 x => ?_))
  · obtain ⟨n, v⟩ := y
    exact (Sc.par n (List.of_mem_zip hy).1).imp id fun q => ⟨q, PySem.W.cellsFrom_some _ _ _ (.inl q)⟩
  · subst he
    refine ⟨(e0.mod.nolimit.keeps hin).keeps x.toInCall.keep, codeAny_func ?_⟩
    have I := inv_start (CX := L2.CX P w) (E := E) Sc hr.hd e0 hsp.1 r x
    have B := hbody cdv [] s H E (hr.deeper _) (takes_of rfl rfl rfl rfl) (passes_of rfl)
    refine wpAny_mono (B.run [] s1 (L2.start N vs) H _ I (tS_start hnd hio hps hsp)) (fun fl s' hs => ?_) fun e s' hs => hs
    cases fl with
    | ret u =>
      obtain ⟨v, σ', H', J, rv, q⟩ := hs
      exact ⟨v, H', J.os, J.bare, J.base, J.hok, rv, q⟩
    | next =>
      obtain ⟨σ', H', J, q⟩ := hs
      exact ⟨V.non, H', J.os, J.bare, J.base, J.hok, rfl, q⟩
    | brk =>
      obtain ⟨_, _, _, q⟩ := hs
      exact q.elim
    | cont =>
      obtain ⟨_, _, _, q⟩ := hs
      exact q.elim
end
/-- a law's end, from what it promises where the caller stands -/
theorem end_at {P : Program} {w : World} {K : PySem.W.Frag} {mg mb : Str → Option Value} {fa a : Addr} {fd : FuncData} {x : Str} {sp : Sp} {s₁ : Shared} {vs : List Value} {ns : List Int}
    (KX : K.In s₁.heap) (hns : s₁.heap.Ns mainGlobals mg) (hb : s₁.heap.Ns builtinsNs mb) (hbb : ∀ x : Str, x ≠ "__name__" → mb x = bootBuiltins x) (hlim : s₁.heap.NoLimit) (hg : s₁.gens = #[])
    (ha : s₁.heap.get? a = some { cls := .type "list", data := .seq vs.toArray }) (hi : IntsAre vs ns) (hl : ns.length ≤ sizeLine)
    (F : ∀ base : Heap, K.In base → base.Ns mainGlobals mg → RunAt P w K mg base callerA fa fd [x] sp) (hbind : ∀ (s : Shared) (u : Value), BindsTo s fd ⟨[u], []⟩ [(x, u)])
    (hsp : ∀ H : Hp, Only H → SqL K H a (ns.map V.int) → sp [.ref a] H (fun v _ => v = .bl true) fun _ _ _ => False) :
    codeAny (model P w) callerA (.call (.ref fa) ⟨[.ref a], []⟩) (fun r s' => r = .ok (.ret (.bool true)) ∧ OldK s₁.heap s'.heap ∧ s'.os = s₁.os ∧ AllBare s'.gens) s₁ := by
  have rv := vals_ints hi
  have lenV := hi.length
  obtain ⟨O, eO⟩ : ∃ O : Obj, O = { cls := .type "list", data := .seq vs.toArray } := ⟨_, rfl⟩
  -- the script is tracked where the written part does not hold it
  obtain ⟨H, hH, hA, hS, hok⟩ : ∃ H : Hp, (∀ b, H b = none ∨ (b = a ∧ H b = some (.frz O (.lst (ns.map V.int))))) ∧ (H a ≠ none → K.lookup a = none) ∧ SqL K H a (ns.map V.int) ∧ HOk P w H s₁.heap := by
    cases hk : K.lookup a with
    | some o =>
      have e := KX a o hk
      rw [ha] at e
      cases e
      exact ⟨fun _ => none, fun _ => .inl rfl, fun z => absurd rfl z, .inr ⟨_, vs.toArray, _, hk, rfl, rfl, rfl, by rw [List.size_toArray, lenV]; exact hl, by simpa using rv⟩, fun b u z => by have z' : (none : Option HO) = some u := z; cases z'⟩
    | none =>
      have same : (fun b => if b = a then some (HO.frz O (.lst (ns.map V.int))) else none : Hp) a = some (.frz O (.lst (ns.map V.int))) := if_pos rfl
      refine ⟨fun b => if b = a then some (.frz O (.lst (ns.map V.int))) else none, fun b => ?_, fun _ => rfl, .inl (.inr ⟨O, same⟩), fun b u z => ?_⟩
      · by_cases c : b = a
        · subst c; exact .inr ⟨rfl, same⟩
        · exact .inl (if_neg c)
      · by_cases c : b = a
        · subst c
          have z' := same.symm.trans z
          cases z'
          rw [eO]
          exact ⟨ha, by rw [List.length_map]; exact hl, vs, _, rv, ha⟩
        · have z' := (if_neg c).symm.trans z
          cases z'
  have only : Only H := fun b => (hH b).imp id fun q => ⟨O, _, q.2⟩
  have isA : ∀ {b : Addr} {o : Obj}, s₁.heap.get? b = some o → o ≠ O → H b = none := fun {b o} e n => (hH b).elim id fun q => by
    rw [q.1, ha, ← eO] at e
    exact absurd (Option.some.inj e).symm n
  have nsK : ∀ {b : Addr} {m : Str → Option Value}, s₁.heap.Ns b m → (hidT s₁.heap H).Ns b m := fun {b m} ⟨o, es, ep, e, d, r⟩ => ⟨o, es, ep, hidT_get e (isA e fun z => by rw [z, eO] at d; cases d), d, r⟩
  have kin : K.In (hidT s₁.heap H) := fun b o e => hidT_get (KX b o e) ((hH b).elim id fun q => by
    have := hA (by rw [← q.1, q.2]; simp)
    rw [q.1, this] at e
    cases e)
  have hM : L2.Mod K mg (hidT s₁.heap H) := ⟨kin, nsK hns, ⟨mb, nsK hb, hbb⟩, let ⟨mc, h1, h2⟩ := hlim; ⟨mc, nsK h1, h2⟩⟩
  have e0 : Env0 P w K mg (hidT s₁.heap H) callerA [] s₁ H := ⟨rfl, hM, fun b o e => of_hidT e, Nat.le_of_eq (hidT_size _ _), trivial, fun b z => (nomatch z), hok, .of_eq hg⟩
  refine codeAny_mono (F _ kin (nsK hns) s₁ H ⟨[.ref a], []⟩ [.ref a] [.ref a] _ _ e0 (hbind s₁ (.ref a)) (.cons rfl .nil) (hsp H only hS)) fun r s' h => ?_
  cases r with
  | error e =>
    obtain ⟨_, _, _, _, _, z⟩ := h
    exact z.2.2.2.2.2.2.2.elim
  | ok fl =>
    cases fl with
    | next => exact False.elim h
    | brk => exact False.elim h
    | cont => exact False.elim h
    | ret u =>
      obtain ⟨v, H', os, bare, un, hok', r', q⟩ := h
      have q' : v = .bl true := q
      subst q'
      obtain rfl : u = Value.bool true := r'
      refine ⟨rfl, OldK.of_keep fun b o e => ?_, os, bare⟩
      rcases hH b with z | ⟨_, z⟩
      · exact un.keep b o e z (fun z => nomatch z) (fun z => nomatch z)
      · obtain ⟨e1, _⟩ := hok b _ z
        obtain ⟨e2, _⟩ := hok' b _ (un.frzs b O _ z)
        rw [e] at e1
        cases e1
        exact e2
theorem walk_at {l : PySem.W.OpenLaw} {n : Nat} {q : Program} {loose : List Str} {XP : (Str → Option Value) → Heap → Prop} {YP : World → Heap → Prop} {d : DefRec} {K : Params → PySem.W.Frag} {sp : World → Sp} {x : Str}
    (hn : l.most = some n) (hn2 : n ≤ sizeLine) (hdf : d.params.defaults = [])
    (hY : ∀ (w : World) (h : Heap), YP w h → (K w.params).In h)
    (F : ∀ (w : World) (mg : Str → Option Value) (fa : Addr) (h : Heap), (K w.params).In h → h.Ns mainGlobals mg → mg d.name = some (.ref fa) →
      ∃ fd : FuncData, (∀ (s : Shared) (u : Value), BindsTo s fd ⟨[u], []⟩ [(x, u)]) ∧
        ∀ base : Heap, (K w.params).In base → base.Ns mainGlobals mg → RunAt l.prog w (K w.params) mg base callerA fa fd [x] (sp w))
    (hsp : ∀ (w : World) (H : Hp) (a : Addr) (ns : List Int), ns.length ≤ n → Only H → SqL (K w.params) H a (ns.map V.int) → sp w [.ref a] H (fun v _ => v = .bl true) fun _ _ _ => False) :
    PySem.W.WalkO q loose XP YP l.row.toRowW d [] (fun f vs => PySem.call f vs) := by
  refine Att.attach_call hn hdf fun w s₀ s₁ mg mb fa o pm cd doc a vs ns G Y ho hd hcd hmg hobj hints hlen hg => ?_
  have KX := hY w _ Y
  obtain ⟨fd, hb, hF⟩ := F w mg fa _ KX G.T.g hmg
  exact end_at KX G.T.g G.T.b G.T.builtins G.T.nolimit hg hobj hints (Nat.le_trans hlen hn2) hF hb fun H hO hS => hsp w H a ns hlen hO hS
end Tw
noncomputable section
namespace Tw
open PySem PySem.Spec PyProof.Rows L2
section
variable {X : Cx} {cl : Cl} {W : WX} {a b c o e : Expr} {es : List Expr} {pos apos p pf pt : Pos} {x : Str} {fa fb fc : Ev} {io : List Nat} {i j : Nat} {K : PySem.W.Frag} {M : Addr → Prop} {H : Hp}
/-! ### o.f, a list of o's own, taken out of an o that nobody asks any more -/
def ftkR (i : Nat) (env : Tw.Env) : Option D → Rs D
  | some (.lst true xs) => .ok (.lst true xs) (env.set i none)
  | _ => .stuck
def fFTk (i : Nat) (own : Nat → Bool) (f : Str) : Ev := fun env => match env[i]? with
  | some (some (.obj true c ns ds)) => if own c = true then ftkR i env (lookD ns ds f) else .stuck
  | _ => .stuck
theorem e_ftkR (i : Nat) (env : Tw.Env) (xs : List D) : ftkR i env (some (.lst true xs)) = .ok (.lst true xs) (env.set i none) := (rfl)
theorem j_ftk {own : Nat → Bool} {f : Str} (ho : FldOk X.K cl own f) (he : PE X e (tVar i)) (hb : attributeBase e f X.env (eval e X.env) = eval e X.env := by rfl) : PE X (.Attribute e f pos) (tE X.K cl W (fFTk i own f)) :=
  PE.imp (pe_fld he hb) fun σ H Q ⟨τ, κ, env, r, l, q⟩ => by
    unfold fFTk at q
    cases e1 : env[i]? with
    | none => rw [e1] at q; exact q.elim
    | some y =>
      cases y with
      | none => rw [e1] at q; exact q.elim
      | some d =>
        cases d with
        | obj m c ns ds =>
          cases m with
          | false => rw [e1] at q; exact q.elim
          | true =>
            rw [e1] at q
            simp only at q
            by_cases hc : own c = true
            · rw [if_pos hc] at q
              cases e2 : lookD ns ds f with
              | none => rw [e2] at q; exact q.elim
              | some z =>
                cases z with
                | lst m xs =>
                  cases m with
                  | false => rw [e2] at q; exact q.elim
                  | true =>
                    rw [e2] at q
                    obtain ⟨v0, es0, r0⟩ := slot_out (A := []) (Y := []) r rfl l e1
                    obtain ⟨ad, dx, vs, p, rfl, t, lk, r1⟩ := Rel.hole r0 e2 fun M v k h => by
                      obtain ⟨a, _, _, e, _⟩ := h
                      exact ⟨a, e⟩
                    refine ⟨.ref ad, es0, ad, cl c, dx, _, .ref p, rfl, t, (ho.ok c hc).1.c, (ho.ok c hc).2, lk, q _ _ ?_⟩
                    exact (Rel.swap3 (A := [some (.lst true xs)]) (X := [some (.ref p)]) (B := [some (.obj true c ns (putD f (.at p) ns ds))]) (Y := [some (.ref ad)]) r1 rfl rfl).pop
                | _ => rw [e2] at q; exact q.elim
            · rw [if_neg hc] at q; exact q.elim
        | _ => rw [e1] at q; exact q.elim
/-! ### t[k].append("a"), t a tuple that holds lists of its own -/
def tpApp : List D → Nat → D → Option (List D)
  | .lst true xs :: ds, 0, y => if lenOk (xs.length + 1) then some (.lst true (xs ++ [y]) :: ds) else none
  | d :: ds, k + 1, y => (tpApp ds k y).map (d :: ·)
  | _, _, _ => none
theorem dats_tpApp : ∀ {ds ds' : List D} {vs : List V} {g : List Addr} {k : Nat} {y : D} {w : V}, Dats K cl M H ds vs g → tpApp ds k y = some ds' → g.Nodup → (∀ a ∈ g, M a) → Dat K cl M H y w [] →
    ∃ p us, vs[k]? = some (.ref p) ∧ H p = some (.lst us) ∧ us.length < sizeLine ∧ p ∈ g ∧ Dats K cl M (upd H p (.lst (us ++ [w]))) ds' vs g
  | [], _, _, _, k, _, _, _, h, _, _, _ => by simp [tpApp] at h
  | d :: ds, ds', _, _, 0, y, w, hd, h, n, hM, hy => by
    obtain ⟨v, vs', f1, f2, rfl, rfl, h1, h2⟩ := hd
    have n3 := List.nodup_append.mp n
    have tr : ∀ {p : Addr} {o : HO} {f : List Addr}, p ∈ f1 ++ f2 → p ∉ f → ∀ a o', H a = some o' → (M a → a ∈ f) → upd H p o a = some o' := fun {p o f} hp np a o' e hf => by
      rw [upd_ne fun z => np (by rw [← z]; exact hf (hM a (by rw [z]; exact hp)))]
      exact e
    cases d with
    | lst m xs =>
      cases m with
      | true =>
        unfold tpApp at h
        split at h
        · rename_i lo
          cases h
          obtain ⟨p, us, g, rfl, t, hx, ow⟩ := h1
          have lo := of_decide_eq_true lo
          rcases ow with ⟨_, Mp, rfl⟩ | ⟨q, _⟩
          · have hp : p ∈ (p :: g) ++ f2 := List.mem_append_left _ List.mem_cons_self
            have pg : p ∉ g := (List.nodup_cons.mp n3.1).1
            have p2 : p ∉ f2 := fun z => n3.2.2 p List.mem_cons_self p z rfl
            refine ⟨p, us, rfl, t, by rw [dats_length hx]; omega, hp, .ref p, vs', p :: g, f2, rfl, rfl, ⟨p, us ++ [w], g, rfl, upd_same, ?_, .inl ⟨rfl, Mp, rfl⟩⟩, ?_⟩
            · have hx' : Dats K cl M (upd H p (.lst (us ++ [w]))) xs us g := dats_tr hx (fun a z => .inl z) (fun a z => hM a (List.mem_append_left _ (List.mem_cons_of_mem _ z))) (tr hp pg)
              have hy' : Dat K cl M (upd H p (.lst (us ++ [w]))) y w [] := dat_tr hy (fun a z => .inl z) (fun a z => nomatch z) (tr hp fun z => nomatch z)
              have hy2 : Dats K cl M (upd H p (.lst (us ++ [w]))) [y] [w] [] := ⟨w, [], [], [], rfl, rfl, hy', rfl, rfl⟩
              have := dats_append hx' hy2
              rwa [List.append_nil] at this
            · exact dats_tr h2 (fun a z => .inl z) (fun a z => hM a (List.mem_append_right _ z)) (tr hp p2)
          · cases q
        · cases h
      | false => simp [tpApp] at h
    | _ => simp [tpApp] at h
  | d :: ds, ds', _, _, k + 1, y, w, hd, h, n, hM, hy => by
    obtain ⟨v, vs', f1, f2, rfl, rfl, h1, h2⟩ := hd
    have n3 := List.nodup_append.mp n
    have tr : ∀ {p : Addr} {o : HO} {f : List Addr}, p ∈ f1 ++ f2 → p ∉ f → ∀ a o', H a = some o' → (M a → a ∈ f) → upd H p o a = some o' := fun {p o f} hp np a o' e hf => by
      rw [upd_ne fun z => np (by rw [← z]; exact hf (hM a (by rw [z]; exact hp)))]
      exact e
    have h' : (tpApp ds k y).map (d :: ·) = some ds' := by
      cases d <;> first | exact h | (rename_i m _; cases m <;> exact h)
    obtain ⟨d2, e, rfl⟩ := Option.map_eq_some_iff.mp h'
    obtain ⟨p, us, a1, a2, a3, a4, a5⟩ := dats_tpApp h2 e n3.2.1 (fun a z => hM a (List.mem_append_right _ z)) hy
    have p1 : p ∉ f1 := fun z => n3.2.2 p z p a4 rfl
    have hp : p ∈ f1 ++ f2 := List.mem_append_right _ a4
    exact ⟨p, us, a1, a2, a3, hp, v, vs', f1, f2, rfl, rfl, dat_tr h1 (fun a z => .inl z) (fun a z => hM a (List.mem_append_left _ z)) (tr hp p1), a5⟩
theorem Rel.tpApp {ds ds' : List D} {k : Nat} {s : Str} {v : V} {κ : Tw.Env} {τ : S} (r : Rel K cl H (some (.tup ds) :: κ) (some v :: τ)) (h : tpApp ds k (.str s) = some ds') :
    ∃ a vs p us, v = .ref a ∧ SqT K H a vs ∧ vs[k]? = some (.ref p) ∧ H p = some (.lst us) ∧ us.length < sizeLine ∧ Rel K cl (upd H p (.lst (us ++ [V.str s]))) (some (.tup ds') :: κ) (some v :: τ) := by
  obtain ⟨F, n, v', xs', g, f2, e1, e3, hd, hk⟩ := r
  cases e1
  subst e3
  obtain ⟨a, vs, rfl, t1, d1⟩ := hd
  have n3 := List.nodup_append.mp n
  obtain ⟨p, us, a1, a2, a3, a4, a5⟩ := dats_tpApp (w := V.str s) d1 h n3.1 (fun a z => List.mem_append_left _ z) ⟨rfl, rfl⟩
  have hp : p ∈ g ++ f2 := List.mem_append_left _ a4
  have p2 : p ∉ f2 := fun z => n3.2.2 p a4 p z rfl
  refine ⟨a, vs, p, us, rfl, t1.sq, a1, a2, a3, g ++ f2, n, .ref a, _, g, f2, rfl, rfl, ⟨a, vs, rfl, ?_, a5⟩, ?_⟩
  · rcases t1 with ⟨its, t, nt⟩ | t
    · exact .inl ⟨its, by rw [upd_ne fun z => nt (by rw [z]; exact hp)]; exact t, nt⟩
    · exact .inr t
  · exact slots_tr hk (fun a z => .inl z) (fun a z => List.mem_append_right _ z) fun b o e hf => by
      rw [upd_ne fun z => p2 (by rw [← z]; exact hf (by rw [z]; exact hp))]
      exact e
def D.tupOf : D → Option (List D)
  | .tup ds => some ds
  | _ => none
def tpR (i : Nat) (env : Tw.Env) : Option (List D) → Rs D
  | some ds => .ok .non (env.set i (some (.tup ds)))
  | none => .stuck
def fTpA (i k : Nat) (s : Str) : Ev := fun env => tpR i env (((env[i]?.join).bind D.tupOf).bind fun ds => tpApp ds k (.str s))
theorem e_tpA (i k : Nat) (s : Str) (env : Tw.Env) : fTpA i k s env = tpR i env (((env[i]?.join).bind D.tupOf).bind fun ds => tpApp ds k (.str s)) := (rfl)
theorem e_tpR (i : Nat) (env : Tw.Env) (ds : List D) : tpR i env (some ds) = .ok .non (env.set i (some (.tup ds))) := (rfl)
theorem atI_nat {α : Type} {xs : List α} {k : Nat} {x : α} (h : xs[k]? = some x) : atI xs (k : Int) = some x := by
  have hl := (List.getElem?_eq_some_iff.mp h).1
  unfold atI ixN
  rw [if_pos (by omega), if_pos (by omega), Option.bind_some, Int.toNat_natCast, h]
theorem j_tpA {k : Nat} {s : Str} {jk : Int} (hj : jk = (k : Int)) (hv : PE X o (tVar i)) (hc : PE X c (tC (.int jk))) (he : PE X e (tC (.str s))) (hp : PlainIx c := by exact fun _ _ => rfl) (hbase : attributeBase (.Subscript o c pt) "append" X.env (eval (.Subscript o c pt) X.env) = eval (.Subscript o c pt) X.env := by rfl)
    (hfew : ((backTo pos (starEach [e] X.env)).all (fun x => !x.1) && (backToKw pos (keywordEach [] X.env)).all (fun x => x.1.isSome) && decide ([e].length + ([] : List Keyword).length + (if ([] : List Keyword).isEmpty then 0 else 1) < 30)) = true := by rfl)
    (hline : (apos.endLine == pos.line) = true := by rfl) (hs : starEach [e] X.env = (false, eval e X.env) :: starEach [] X.env := by rfl) (hplain : (backTo pos (starEach [] X.env)).any (·.1) = false := by rfl) :
    PE X (.Call (.Attribute (.Subscript o c pt) "append" apos) [e] [] pos) (tE X.K cl W (fTpA i k s)) :=
  PE.imp (pe_bm PySem.F.plainAttrs_list PySem.F.slot_list_append PySem.F.type_list_append mt_append (pe_ix ix_seq hv hc hp) (pa_cons he pa_nil hs) hbase hfew hline hs hplain) fun σ H Q ⟨τ, κ, env, r, l, q⟩ => by
    subst hj
    unfold fTpA at q
    cases e1 : ((env[i]?.join).bind D.tupOf).bind fun ds => tpApp ds k (.str s) with
    | none => rw [e1] at q; exact q.elim
    | some ds' =>
      rw [e1] at q
      obtain ⟨ds, e2, e3⟩ := Option.bind_eq_some_iff.mp e1
      obtain ⟨d, e4, e5⟩ := Option.bind_eq_some_iff.mp e2
      cases d with
      | tup zs =>
        cases e5
        obtain ⟨v0, es0, r0⟩ := slot_out (A := []) (Y := []) r rfl l (join_at e4)
        obtain ⟨a, vs, p, us, rfl, t, lk, tp, lu, r5⟩ := Rel.tpApp r0 e3
        refine ⟨.ref a, es0, .inr (.inl ⟨a, vs, (k : Int), .ref p, rfl, rfl, t, atI_nat lk, .inl ⟨rfl, us, .of tp⟩, p, us, .str s, rfl, rfl, tp, lu, ?_⟩)⟩
        have r6 := slot_in (A := []) (Y := []) r5 rfl l es0
        rw [List.set_set] at r6
        exact q _ _ (r6.push fun M => ⟨rfl, rfl⟩)
      | _ => cases e5
end
end Tw
namespace Tw
open PySem PySem.Spec PyProof.Rows L2
/-- the words of reckoning, but those that are now and then left out -/
theorem ev0 : ((((((((type_of% @Tw.e_run ∧ (type_of% @Tw.e_rtR ∧ type_of% @Tw.e_rtX)) ∧ ((type_of% @Tw.e_rtN ∧ type_of% @Tw.e_io_nil) ∧ (type_of% @Tw.e_io_one ∧ type_of% @Tw.e_ioR1))) ∧ (((type_of% @Tw.e_seq ∧ type_of% @Tw.e_seqN) ∧ (type_of% @Tw.e_seqR ∧ type_of% @Tw.e_seqB)) ∧ ((type_of% @Tw.e_seqC ∧ type_of% @Tw.e_sNil) ∧ (type_of% @Tw.e_sBrk ∧ type_of% @Tw.e_sCont)))) ∧ (((type_of% @Tw.e_sRet ∧ (type_of% @Tw.e_sExpr ∧ type_of% @Tw.e_sIf)) ∧ ((type_of% @Tw.e_sAsg ∧ type_of% @Tw.e_nxR) ∧ (type_of% @Tw.e_bNm ∧ type_of% @Tw.e_sPar))) ∧ (((type_of% @Tw.e_sFor ∧ type_of% @Tw.e_sAug) ∧ (type_of% @Tw.e_augR ∧ type_of% @Tw.e_own)) ∧ ((type_of% @Tw.e_ownR ∧ type_of% @Tw.e_stR2) ∧ (type_of% @Tw.e_sStore ∧ type_of% @Tw.e_stR))))) ∧ ((((type_of% @Tw.e_stR3 ∧ (type_of% @Tw.e_m1R ∧ type_of% @Tw.e_m1S)) ∧ ((type_of% @Tw.e_m1T ∧ type_of% @Tw.e_mt1) ∧ (type_of% @Tw.e_m0S ∧ type_of% @Tw.e_mt0))) ∧ (((type_of% @Tw.e_var ∧ type_of% @Tw.e_varR) ∧ (type_of% @Tw.e_move ∧ type_of% @Tw.e_moveR)) ∧ ((type_of% @Tw.e_K ∧ type_of% @Tw.e_nil) ∧ (type_of% @Tw.e_val ∧ type_of% @Tw.e_slot)))) ∧ ((((type_of% @Tw.e_slotR ∧ type_of% @Tw.e_gnil) ∧ (type_of% @Tw.e_gval ∧ type_of% @Tw.e_gvR)) ∧ ((type_of% @Tw.e_gslot ∧ type_of% @Tw.e_gsR) ∧ (type_of% @Tw.e_gR ∧ type_of% @Tw.e_gpR))) ∧ (((type_of% @Tw.e_N ∧ type_of% @Tw.e_vals0) ∧ (type_of% @Tw.e_vals1 ∧ type_of% @Tw.e_tup)) ∧ ((type_of% @Tw.e_lst ∧ type_of% @Tw.e_and) ∧ (type_of% @Tw.e_andT ∧ type_of% @Tw.e_andF)))))) ∧ (((((type_of% @Tw.e_or ∧ (type_of% @Tw.e_orT ∧ type_of% @Tw.e_orF)) ∧ ((type_of% @Tw.e_not ∧ type_of% @Tw.e_notR) ∧ (type_of% @Tw.e_bE ∧ type_of% @Tw.e_bR))) ∧ (((type_of% @Tw.e_bAnd ∧ type_of% @Tw.e_bOr) ∧ (type_of% @Tw.e_bNot ∧ type_of% @Tw.e_bTrue)) ∧ ((type_of% @Tw.e_if ∧ type_of% @Tw.e_chR2) ∧ (type_of% @Tw.e_chRT ∧ type_of% @Tw.e_chRF)))) ∧ (((type_of% @Tw.e_chain ∧ (type_of% @Tw.e_part0 ∧ type_of% @Tw.e_part)) ∧ ((type_of% @Tw.e_partR ∧ type_of% @Tw.e_sl) ∧ (type_of% @Tw.e_rev ∧ type_of% @Tw.e_kval))) ∧ (((type_of% @Tw.e_kval2 ∧ type_of% @Tw.e_kN) ∧ (type_of% @Tw.e_ktup ∧ type_of% @Tw.e_klst)) ∧ ((type_of% @Tw.e_kand ∧ type_of% @Tw.e_kor) ∧ (type_of% @Tw.e_knot ∧ type_of% @Tw.e_kbE))))) ∧ ((((type_of% @Tw.e_kbAnd ∧ (type_of% @Tw.e_kbOr ∧ type_of% @Tw.e_kbNot)) ∧ ((type_of% @Tw.e_kif ∧ type_of% @Tw.e_kpart) ∧ (type_of% @Tw.e_krev ∧ type_of% @Tw.e_kcall))) ∧ (((type_of% @Tw.e_ksRet ∧ type_of% @Tw.e_ksExpr) ∧ (type_of% @Tw.e_ksIf ∧ type_of% @Tw.e_ksAsg)) ∧ ((type_of% @Tw.e_ksFor ∧ type_of% @Tw.e_ksStore) ∧ (type_of% @Tw.e_kstR ∧ type_of% @Tw.e_km1T)))) ∧ ((((type_of% @Tw.e_kiSeq ∧ type_of% @Tw.e_kiRng) ∧ (type_of% @Tw.e_kiZip ∧ type_of% @Tw.e_kmake)) ∧ ((type_of% @Tw.e_kfset ∧ type_of% @Tw.e_kchRT) ∧ (type_of% @Tw.e_kchain2 ∧ type_of% @Tw.e_kchain))) ∧ (((type_of% @Tw.e_ksl ∧ type_of% @Tw.e_ksl2) ∧ (type_of% @Tw.e_ksl3 ∧ type_of% @Tw.e_ksPar)) ∧ ((type_of% @Tw.e_ksPar2 ∧ type_of% @Tw.e_ksAug) ∧ (type_of% @Tw.e_ksAug2 ∧ type_of% @Tw.e_kcp3))))))) ∧ ((((((type_of% @Tw.e_kcomp ∧ (type_of% @Tw.e_kcomp2 ∧ type_of% @Tw.e_coR)) ∧ ((type_of% @Tw.e_kco2 ∧ type_of% @Tw.e_kco) ∧ (type_of% @Tw.e_co ∧ type_of% @Tw.e_callR))) ∧ (((type_of% @Tw.e_call ∧ type_of% @Tw.e_io0) ∧ (type_of% @Tw.e_io1 ∧ type_of% @Tw.e_io1R)) ∧ ((type_of% @Tw.e_itR ∧ type_of% @Tw.e_iSeq) ∧ (type_of% @Tw.e_rgR ∧ type_of% @Tw.e_iRng)))) ∧ (((type_of% @Tw.e_zpR ∧ (type_of% @Tw.e_iZip ∧ type_of% @Tw.e_comp)) ∧ ((type_of% @Tw.e_comp2 ∧ type_of% @Tw.e_wipe0) ∧ (type_of% @Tw.e_wipe1 ∧ type_of% @Tw.e_bTp))) ∧ (((type_of% @Tw.e_bTp2 ∧ type_of% @Tw.e_sPar3) ∧ (type_of% @Tw.e_ksPar31 ∧ type_of% @Tw.e_ksPar32)) ∧ ((type_of% @Tw.e_ksPar33 ∧ type_of% @Tw.e_count) ∧ (type_of% @Tw.e_kcnt ∧ type_of% @Tw.e_kcnt2))))) ∧ ((((type_of% @Tw.e_cntR ∧ (type_of% @Tw.lt_intsT ∧ type_of% @Tw.isB_2)) ∧ ((type_of% @Tw.notB_2 ∧ type_of% @Tw.tag_dct) ∧ (type_of% @Tw.frz_dct ∧ type_of% @Tw.ok_dct))) ∧ (((type_of% @Tw.e_index ∧ type_of% @Tw.e_dnew) ∧ (type_of% @Tw.ixD_1 ∧ type_of% @Tw.key_int)) ∧ ((type_of% @Tw.key_str ∧ type_of% @Tw.e_dstore) ∧ (type_of% @Tw.ownDAt_eq' ∧ type_of% @Tw.ownD_1)))) ∧ ((((type_of% @Tw.frz_dtt ∧ type_of% @Tw.ok_dtt) ∧ (type_of% @Tw.sum_lst ∧ type_of% @Tw.e_lz)) ∧ ((type_of% @Tw.dictT_1 ∧ type_of% @Tw.e_bNil) ∧ (type_of% @Tw.e_bCons ∧ type_of% @Tw.e_mkR))) ∧ (((type_of% @Tw.e_make ∧ type_of% @Tw.e_fset) ∧ (type_of% @Tw.e_fsR ∧ type_of% @Tw.e_oo)) ∧ ((type_of% @Tw.e_ooR ∧ type_of% @Tw.e_coR2) ∧ (type_of% @Tw.tru_non ∧ type_of% @Tw.tru_bl)))))) ∧ (((((type_of% @Tw.tru_int ∧ (type_of% @Tw.tru_tup ∧ type_of% @Tw.tru_lst)) ∧ ((type_of% @Tw.asI_int ∧ type_of% @Tw.ints_nil) ∧ (type_of% @Tw.ints_cons ∧ type_of% @Tw.items_lst))) ∧ (((type_of% @Tw.items_tup ∧ type_of% @Tw.seqK_lst) ∧ (type_of% @Tw.seqK_tup ∧ type_of% @Tw.isN_int)) ∧ ((type_of% @Tw.isN_non ∧ type_of% @Tw.isN_tup) ∧ (type_of% @Tw.notN_int ∧ type_of% @Tw.notN_non)))) ∧ (((type_of% @Tw.notN_tup ∧ (type_of% @Tw.mul_int ∧ type_of% @Tw.add_int)) ∧ ((type_of% @Tw.sub_int ∧ type_of% @Tw.fdiv_int) ∧ (type_of% @Tw.pow_int ∧ type_of% @Tw.lt_int))) ∧ (((type_of% @Tw.le_int ∧ type_of% @Tw.gt_int) ∧ (type_of% @Tw.ge_int ∧ type_of% @Tw.neg_int)) ∧ ((type_of% @Tw.imul_int ∧ type_of% @Tw.iadd_int) ∧ (type_of% @Tw.len_lst ∧ type_of% @Tw.len_tup))))) ∧ ((((type_of% @Tw.ix_tup ∧ (type_of% @Tw.tuple_lst ∧ type_of% @Tw.tuple_tup)) ∧ ((type_of% @Tw.list_lst ∧ type_of% @Tw.list_tup) ∧ (type_of% @Tw.list_scr ∧ type_of% @Tw.abs_int))) ∧ (((type_of% @Tw.intC_int ∧ type_of% @Tw.intC_bl) ∧ (type_of% @Tw.isi_2 ∧ type_of% @Tw.tag_non)) ∧ ((type_of% @Tw.tag_bl ∧ type_of% @Tw.tag_int) ∧ (type_of% @Tw.tag_str ∧ type_of% @Tw.tag_tup)))) ∧ ((((type_of% @Tw.tag_lst ∧ type_of% @Tw.tag_obj) ∧ (type_of% @Tw.asT_ty ∧ type_of% @Tw.asT_cl)) ∧ ((type_of% @Tw.frz_int ∧ type_of% @Tw.frz_bl) ∧ (type_of% @Tw.frz_non ∧ type_of% @Tw.frz_ty))) ∧ (((type_of% @Tw.frz_cl ∧ type_of% @Tw.frz_scr) ∧ (type_of% @Tw.frz_tup ∧ type_of% @Tw.frz_lst)) ∧ ((type_of% @Tw.frz_obj ∧ type_of% @Tw.frzs_nil) ∧ (type_of% @Tw.frzs_cons ∧ type_of% @Tw.ok_int)))))))) ∧ (((((((type_of% @Tw.ok_bl ∧ (type_of% @Tw.ok_non ∧ type_of% @Tw.ok_tup)) ∧ ((type_of% @Tw.ok_lst ∧ type_of% @Tw.ok_obj) ∧ (type_of% @Tw.doks_nil ∧ type_of% @Tw.doks_cons))) ∧ (((type_of% @Tw.sl_scr ∧ type_of% @Tw.sl_lst) ∧ (type_of% @Tw.rev_lst ∧ type_of% @Tw.rev_tup)) ∧ ((type_of% @Tw.eq_int ∧ type_of% @Tw.ne_int) ∧ (type_of% @Tw.e_lrR ∧ type_of% @Tw.e_klrg)))) ∧ (((type_of% @Tw.e_lrg ∧ (type_of% @Tw.sorted_lst ∧ type_of% @Tw.min_int)) ∧ ((type_of% @Tw.max_int ∧ type_of% @Tw.e_enR) ∧ (type_of% @Tw.e_kiEnum ∧ type_of% @Tw.e_iEnum))) ∧ (((type_of% @Tw.enumOf_1 ∧ type_of% @Tw.e_kcpB) ∧ (type_of% @Tw.e_cpB ∧ type_of% @Tw.e_compB)) ∧ ((type_of% @Tw.e_fgN ∧ type_of% @Tw.e_fgC) ∧ (type_of% @Tw.e_fgB ∧ type_of% @Tw.e_fgRt))))) ∧ ((((type_of% @Tw.e_fgR ∧ (type_of% @Tw.e_for0 ∧ type_of% @Tw.e_for1)) ∧ ((type_of% @Tw.e_cgF ∧ type_of% @Tw.e_cgT) ∧ (type_of% @Tw.e_cgR ∧ type_of% @Tw.e_neo))) ∧ (((type_of% @Tw.e_cg0 ∧ type_of% @Tw.e_cg1) ∧ (type_of% @Tw.e_c2A ∧ type_of% @Tw.e_c2I)) ∧ ((type_of% @Tw.e_c2T ∧ type_of% @Tw.e_c2R) ∧ (type_of% @Tw.e_c20 ∧ type_of% @Tw.e_c21)))) ∧ ((((type_of% @Tw.at5_0 ∧ type_of% @Tw.at5_1) ∧ (type_of% @Tw.at5_2 ∧ type_of% @Tw.at5_3)) ∧ ((type_of% @Tw.at5_4 ∧ type_of% @Tw.ix5_1) ∧ (type_of% @Tw.ix5_2 ∧ type_of% @Tw.ix5_3))) ∧ (((type_of% @Tw.ix5_4 ∧ type_of% @Tw.ints_map) ∧ (type_of% @Tw.e_frz ∧ type_of% @Tw.e_kfrz)) ∧ ((type_of% @Tw.e_fldO ∧ type_of% @Tw.e_Down) ∧ (type_of% @Tw.e_mtF1S ∧ type_of% @Tw.e_kmtF1)))))) ∧ (((((type_of% @Tw.e_mtF1R ∧ (type_of% @Tw.e_mtF1 ∧ type_of% @Tw.e_mtF0R)) ∧ ((type_of% @Tw.e_mtF0 ∧ type_of% @Tw.e_fldV) ∧ (type_of% @Tw.e_augF ∧ type_of% @Tw.e_kfaug))) ∧ (((type_of% @Tw.e_faugR ∧ type_of% @Tw.e_faug) ∧ (type_of% @Tw.e_methR ∧ type_of% @Tw.e_meth)) ∧ ((type_of% @Tw.e_mxR ∧ type_of% @Tw.e_kmaxD) ∧ (type_of% @Tw.e_maxD ∧ type_of% @Tw.intsOf_lst)))) ∧ (((type_of% @Tw.intsOf_tup ∧ (type_of% @Tw.e_mmR ∧ type_of% @Tw.e_mm)) ∧ ((type_of% @Tw.frz_str ∧ type_of% @Tw.ok_str) ∧ (type_of% @Tw.eq_str ∧ type_of% @Tw.ne_str))) ∧ (((type_of% @Tw.eq_bool ∧ type_of% @Tw.lt_str) ∧ (type_of% @Tw.le_str ∧ type_of% @Tw.items_str)) ∧ ((type_of% @Tw.sum_tup ∧ type_of% @Tw.e_sortSetT) ∧ (type_of% @Tw.e_sortSetR ∧ type_of% @Tw.e_nd1))))) ∧ ((((type_of% @Tw.e_knd1 ∧ (type_of% @Tw.e_knd1b ∧ type_of% @Tw.nd1R2_1)) ∧ ((type_of% @Tw.e_countL ∧ type_of% @Tw.e_kcntL) ∧ (type_of% @Tw.e_nge ∧ type_of% @Tw.e_knge1))) ∧ (((type_of% @Tw.e_knge2 ∧ type_of% @Tw.e_knge3) ∧ (type_of% @Tw.e_lenSetL ∧ type_of% @Tw.e_bits)) ∧ ((type_of% @Tw.e_kbits ∧ type_of% @Tw.e_nvf) ∧ (type_of% @Tw.e_knvf ∧ type_of% @Tw.nvfR_1)))) ∧ ((((type_of% @Tw.e_nfv ∧ type_of% @Tw.nfvR_1) ∧ (type_of% @Tw.e_knfv ∧ type_of% @Tw.e_fds)) ∧ ((type_of% @Tw.e_kfds1 ∧ type_of% @Tw.fdsR_1) ∧ (type_of% @Tw.e_kfds2 ∧ type_of% @Tw.fds2R_1))) ∧ (((type_of% @Tw.fldD_1 ∧ type_of% @Tw.e_meth0) ∧ (type_of% @Tw.e_any ∧ type_of% @Tw.anyR_1)) ∧ ((type_of% @Tw.meth0R_1 ∧ type_of% @Tw.e_dc1) ∧ (type_of% @Tw.e_nnew ∧ type_of% @Tw.lenN_1))))))) ∧ ((((((type_of% @Tw.e_nstore ∧ (type_of% @Tw.e_knst ∧ type_of% @Tw.nst1_1)) ∧ ((type_of% @Tw.e_knst2 ∧ type_of% @Tw.nst3_1) ∧ (type_of% @Tw.ownNAt_eq' ∧ type_of% @Tw.ownN_1))) ∧ (((type_of% @Tw.e_kng1 ∧ type_of% @Tw.ngR_1) ∧ (type_of% @Tw.e_nget ∧ type_of% @Tw.ngR2_1)) ∧ ((type_of% @Tw.e_kng2 ∧ type_of% @Tw.anyNAt_eq') ∧ (type_of% @Tw.anyN_1 ∧ type_of% @Tw.nget3_1)))) ∧ (((type_of% @Tw.frz_dcd ∧ (type_of% @Tw.ok_dcd ∧ type_of% @Tw.e_idct)) ∧ ((type_of% @Tw.idct_1 ∧ type_of% @Tw.listN_1) ∧ (type_of% @Tw.listT_1 ∧ type_of% @Tw.isiD_1))) ∧ (((type_of% @Tw.isD_dcd ∧ type_of% @Tw.isD_dtt) ∧ (type_of% @Tw.isD_non ∧ type_of% @Tw.isD_int)) ∧ ((type_of% @Tw.isD_bl ∧ type_of% @Tw.isD_str) ∧ (type_of% @Tw.isD_tup ∧ type_of% @Tw.isD_lst))))) ∧ ((((type_of% @Tw.isD_dct ∧ (type_of% @Tw.isD_obj ∧ type_of% @Tw.e_dictO)) ∧ ((type_of% @Tw.dcR_1 ∧ type_of% @Tw.e_kdictO) ∧ (type_of% @Tw.e_dtA ∧ type_of% @Tw.daR_1))) ∧ (((type_of% @Tw.dttAt_1 ∧ type_of% @Tw.dttOf_1) ∧ (type_of% @Tw.daR2_1 ∧ type_of% @Tw.lenK_1)) ∧ ((type_of% @Tw.e_kdtA ∧ type_of% @Tw.dtA3_1) ∧ (type_of% @Tw.add_tup ∧ type_of% @Tw.oks_rows)))) ∧ ((((type_of% @Tw.frzs_rows ∧ type_of% @Tw.e_bX) ∧ (type_of% @Tw.e_sX ∧ type_of% @Tw.e_seqX)) ∧ ((type_of% @Tw.e_rtEx ∧ type_of% @Tw.e_rtE1) ∧ (type_of% @Tw.e_ioX ∧ type_of% @Tw.e_ex1))) ∧ (((type_of% @Tw.e_put0 ∧ type_of% @Tw.e_raise) ∧ (type_of% @Tw.e_raise1 ∧ type_of% @Tw.e_kraise1)) ∧ ((type_of% @Tw.e_try ∧ type_of% @Tw.e_tryX) ∧ (type_of% @Tw.e_tryN ∧ type_of% @Tw.e_tryRt)))))) ∧ (((((type_of% @Tw.e_pick0 ∧ (type_of% @Tw.e_pick1 ∧ type_of% @Tw.e_pickT)) ∧ ((type_of% @Tw.e_pickF ∧ type_of% @Tw.e_noN) ∧ (type_of% @Tw.e_noRt ∧ type_of% @Tw.e_noB))) ∧ (((type_of% @Tw.e_noC ∧ type_of% @Tw.e_fgX) ∧ (type_of% @Tw.e_word ∧ type_of% @Tw.e_wordO)) ∧ ((type_of% @Tw.e_wordX ∧ type_of% @Tw.e_dctV) ∧ (type_of% @Tw.e_kdctV ∧ type_of% @Tw.frz_ex)))) ∧ (((type_of% @Tw.ok_ex ∧ (type_of% @Tw.e_mkX ∧ type_of% @Tw.oks_int)) ∧ ((type_of% @Tw.frzs_int ∧ type_of% @Tw.oks_tI) ∧ (type_of% @Tw.ok_tI ∧ type_of% @Tw.frz_tI))) ∧ (((type_of% @Tw.e_bok ∧ type_of% @Tw.e_sbok) ∧ (type_of% @List.map_cons.{0,0} ∧ type_of% @List.map_nil.{0,0})) ∧ ((type_of% @List.length_cons.{0} ∧ type_of% @List.length_nil.{0}) ∧ (type_of% @List.cons_append.{0} ∧ type_of% @List.nil_append.{0}))))) ∧ ((((type_of% @List.getElem?_cons_zero.{0} ∧ (type_of% @List.getElem?_cons_succ.{0} ∧ type_of% @List.set_cons_zero.{0})) ∧ ((type_of% @List.set_cons_succ.{0} ∧ type_of% @Option.bind_some.{0,0}) ∧ (type_of% @Option.map_some.{0,0} ∧ type_of% @Nat.zero_add))) ∧ (((type_of% @Nat.add_zero ∧ type_of% @Bool.and_true) ∧ (type_of% @Bool.true_and ∧ type_of% @Bool.and_self)) ∧ ((type_of% @Bool.not_true ∧ type_of% @Bool.not_false) ∧ (type_of% @Bool.false_and ∧ type_of% @Bool.and_false)))) ∧ ((((type_of% @Bool.or_true ∧ type_of% @Bool.true_or) ∧ (type_of% @Bool.or_false ∧ type_of% @Bool.false_or)) ∧ ((type_of% @if_true.{1} ∧ type_of% @if_false.{1}) ∧ (type_of% @Bool.false_eq_true ∧ type_of% @ite_true.{1}))) ∧ (((type_of% @ite_false.{1} ∧ type_of% @decide_true) ∧ (type_of% @decide_false ∧ type_of% @decide_eq_true_eq)) ∧ ((type_of% @not_false_eq_true ∧ type_of% @not_true_eq_false) ∧ (type_of% @Option.map_none.{0,0} ∧ type_of% @and_self))))))))) := ⟨⟨⟨⟨⟨⟨⟨⟨@Tw.e_run, ⟨@Tw.e_rtR, @Tw.e_rtX⟩⟩, ⟨⟨@Tw.e_rtN, @Tw.e_io_nil⟩, ⟨@Tw.e_io_one, @Tw.e_ioR1⟩⟩⟩, ⟨⟨⟨@Tw.e_seq, @Tw.e_seqN⟩, ⟨@Tw.e_seqR, @Tw.e_seqB⟩⟩, ⟨⟨@Tw.e_seqC, @Tw.e_sNil⟩, ⟨@Tw.e_sBrk, @Tw.e_sCont⟩⟩⟩⟩, ⟨⟨⟨@Tw.e_sRet, ⟨@Tw.e_sExpr, @Tw.e_sIf⟩⟩, ⟨⟨@Tw.e_sAsg, @Tw.e_nxR⟩, ⟨@Tw.e_bNm, @Tw.e_sPar⟩⟩⟩, ⟨⟨⟨@Tw.e_sFor, @Tw.e_sAug⟩, ⟨@Tw.e_augR, @Tw.e_own⟩⟩, ⟨⟨@Tw.e_ownR, @Tw.e_stR2⟩, ⟨@Tw.e_sStore, @Tw.e_stR⟩⟩⟩⟩⟩, ⟨⟨⟨⟨@Tw.e_stR3, ⟨@Tw.e_m1R, @Tw.e_m1S⟩⟩, ⟨⟨@Tw.e_m1T, @Tw.e_mt1⟩, ⟨@Tw.e_m0S, @Tw.e_mt0⟩⟩⟩, ⟨⟨⟨@Tw.e_var, @Tw.e_varR⟩, ⟨@Tw.e_move, @Tw.e_moveR⟩⟩, ⟨⟨@Tw.e_K, @Tw.e_nil⟩, ⟨@Tw.e_val, @Tw.e_slot⟩⟩⟩⟩, ⟨⟨⟨⟨@Tw.e_slotR, @Tw.e_gnil⟩, ⟨@Tw.e_gval, @Tw.e_gvR⟩⟩, ⟨⟨@Tw.e_gslot, @Tw.e_gsR⟩, ⟨@Tw.e_gR, @Tw.e_gpR⟩⟩⟩, ⟨⟨⟨@Tw.e_N, @Tw.e_vals0⟩, ⟨@Tw.e_vals1, @Tw.e_tup⟩⟩, ⟨⟨@Tw.e_lst, @Tw.e_and⟩, ⟨@Tw.e_andT, @Tw.e_andF⟩⟩⟩⟩⟩⟩, ⟨⟨⟨⟨⟨@Tw.e_or, ⟨@Tw.e_orT, @Tw.e_orF⟩⟩, ⟨⟨@Tw.e_not, @Tw.e_notR⟩, ⟨@Tw.e_bE, @Tw.e_bR⟩⟩⟩, ⟨⟨⟨@Tw.e_bAnd, @Tw.e_bOr⟩, ⟨@Tw.e_bNot, @Tw.e_bTrue⟩⟩, ⟨⟨@Tw.e_if, @Tw.e_chR2⟩, ⟨@Tw.e_chRT, @Tw.e_chRF⟩⟩⟩⟩, ⟨⟨⟨@Tw.e_chain, ⟨@Tw.e_part0, @Tw.e_part⟩⟩, ⟨⟨@Tw.e_partR, @Tw.e_sl⟩, ⟨@Tw.e_rev, @Tw.e_kval⟩⟩⟩, ⟨⟨⟨@Tw.e_kval2, @Tw.e_kN⟩, ⟨@Tw.e_ktup, @Tw.e_klst⟩⟩, ⟨⟨@Tw.e_kand, @Tw.e_kor⟩, ⟨@Tw.e_knot, @Tw.e_kbE⟩⟩⟩⟩⟩, ⟨⟨⟨⟨@Tw.e_kbAnd, ⟨@Tw.e_kbOr, @Tw.e_kbNot⟩⟩, ⟨⟨@Tw.e_kif, @Tw.e_kpart⟩, ⟨@Tw.e_krev, @Tw.e_kcall⟩⟩⟩, ⟨⟨⟨@Tw.e_ksRet, @Tw.e_ksExpr⟩, ⟨@Tw.e_ksIf, @Tw.e_ksAsg⟩⟩, ⟨⟨@Tw.e_ksFor, @Tw.e_ksStore⟩, ⟨@Tw.e_kstR, @Tw.e_km1T⟩⟩⟩⟩, ⟨⟨⟨⟨@Tw.e_kiSeq, @Tw.e_kiRng⟩, ⟨@Tw.e_kiZip, @Tw.e_kmake⟩⟩, ⟨⟨@Tw.e_kfset, @Tw.e_kchRT⟩, ⟨@Tw.e_kchain2, @Tw.e_kchain⟩⟩⟩, ⟨⟨⟨@Tw.e_ksl, @Tw.e_ksl2⟩, ⟨@Tw.e_ksl3, @Tw.e_ksPar⟩⟩, ⟨⟨@Tw.e_ksPar2, @Tw.e_ksAug⟩, ⟨@Tw.e_ksAug2, @Tw.e_kcp3⟩⟩⟩⟩⟩⟩⟩, ⟨⟨⟨⟨⟨⟨@Tw.e_kcomp, ⟨@Tw.e_kcomp2, @Tw.e_coR⟩⟩, ⟨⟨@Tw.e_kco2, @Tw.e_kco⟩, ⟨@Tw.e_co, @Tw.e_callR⟩⟩⟩, ⟨⟨⟨@Tw.e_call, @Tw.e_io0⟩, ⟨@Tw.e_io1, @Tw.e_io1R⟩⟩, ⟨⟨@Tw.e_itR, @Tw.e_iSeq⟩, ⟨@Tw.e_rgR, @Tw.e_iRng⟩⟩⟩⟩, ⟨⟨⟨@Tw.e_zpR, ⟨@Tw.e_iZip, @Tw.e_comp⟩⟩, ⟨⟨@Tw.e_comp2, @Tw.e_wipe0⟩, ⟨@Tw.e_wipe1, @Tw.e_bTp⟩⟩⟩, ⟨⟨⟨@Tw.e_bTp2, @Tw.e_sPar3⟩, ⟨@Tw.e_ksPar31, @Tw.e_ksPar32⟩⟩, ⟨⟨@Tw.e_ksPar33, @Tw.e_count⟩, ⟨@Tw.e_kcnt, @Tw.e_kcnt2⟩⟩⟩⟩⟩, ⟨⟨⟨⟨@Tw.e_cntR, ⟨@Tw.lt_intsT, @Tw.isB_2⟩⟩, ⟨⟨@Tw.notB_2, @Tw.tag_dct⟩, ⟨@Tw.frz_dct, @Tw.ok_dct⟩⟩⟩, ⟨⟨⟨@Tw.e_index, @Tw.e_dnew⟩, ⟨@Tw.ixD_1, @Tw.key_int⟩⟩, ⟨⟨@Tw.key_str, @Tw.e_dstore⟩, ⟨@Tw.ownDAt_eq', @Tw.ownD_1⟩⟩⟩⟩, ⟨⟨⟨⟨@Tw.frz_dtt, @Tw.ok_dtt⟩, ⟨@Tw.sum_lst, @Tw.e_lz⟩⟩, ⟨⟨@Tw.dictT_1, @Tw.e_bNil⟩, ⟨@Tw.e_bCons, @Tw.e_mkR⟩⟩⟩, ⟨⟨⟨@Tw.e_make, @Tw.e_fset⟩, ⟨@Tw.e_fsR, @Tw.e_oo⟩⟩, ⟨⟨@Tw.e_ooR, @Tw.e_coR2⟩, ⟨@Tw.tru_non, @Tw.tru_bl⟩⟩⟩⟩⟩⟩, ⟨⟨⟨⟨⟨@Tw.tru_int, ⟨@Tw.tru_tup, @Tw.tru_lst⟩⟩, ⟨⟨@Tw.asI_int, @Tw.ints_nil⟩, ⟨@Tw.ints_cons, @Tw.items_lst⟩⟩⟩, ⟨⟨⟨@Tw.items_tup, @Tw.seqK_lst⟩, ⟨@Tw.seqK_tup, @Tw.isN_int⟩⟩, ⟨⟨@Tw.isN_non, @Tw.isN_tup⟩, ⟨@Tw.notN_int, @Tw.notN_non⟩⟩⟩⟩, ⟨⟨⟨@Tw.notN_tup, ⟨@Tw.mul_int, @Tw.add_int⟩⟩, ⟨⟨@Tw.sub_int, @Tw.fdiv_int⟩, ⟨@Tw.pow_int, @Tw.lt_int⟩⟩⟩, ⟨⟨⟨@Tw.le_int, @Tw.gt_int⟩, ⟨@Tw.ge_int, @Tw.neg_int⟩⟩, ⟨⟨@Tw.imul_int, @Tw.iadd_int⟩, ⟨@Tw.len_lst, @Tw.len_tup⟩⟩⟩⟩⟩, ⟨⟨⟨⟨@Tw.ix_tup, ⟨@Tw.tuple_lst, @Tw.tuple_tup⟩⟩, ⟨⟨@Tw.list_lst, @Tw.list_tup⟩, ⟨@Tw.list_scr, @Tw.abs_int⟩⟩⟩, ⟨⟨⟨@Tw.intC_int, @Tw.intC_bl⟩, ⟨@Tw.isi_2, @Tw.tag_non⟩⟩, ⟨⟨@Tw.tag_bl, @Tw.tag_int⟩, ⟨@Tw.tag_str, @Tw.tag_tup⟩⟩⟩⟩, ⟨⟨⟨⟨@Tw.tag_lst, @Tw.tag_obj⟩, ⟨@Tw.asT_ty, @Tw.asT_cl⟩⟩, ⟨⟨@Tw.frz_int, @Tw.frz_bl⟩, ⟨@Tw.frz_non, @Tw.frz_ty⟩⟩⟩, ⟨⟨⟨@Tw.frz_cl, @Tw.frz_scr⟩, ⟨@Tw.frz_tup, @Tw.frz_lst⟩⟩, ⟨⟨@Tw.frz_obj, @Tw.frzs_nil⟩, ⟨@Tw.frzs_cons, @Tw.ok_int⟩⟩⟩⟩⟩⟩⟩⟩, ⟨⟨⟨⟨⟨⟨⟨@Tw.ok_bl, ⟨@Tw.ok_non, @Tw.ok_tup⟩⟩, ⟨⟨@Tw.ok_lst, @Tw.ok_obj⟩, ⟨@Tw.doks_nil, @Tw.doks_cons⟩⟩⟩, ⟨⟨⟨@Tw.sl_scr, @Tw.sl_lst⟩, ⟨@Tw.rev_lst, @Tw.rev_tup⟩⟩, ⟨⟨@Tw.eq_int, @Tw.ne_int⟩, ⟨@Tw.e_lrR, @Tw.e_klrg⟩⟩⟩⟩, ⟨⟨⟨@Tw.e_lrg, ⟨@Tw.sorted_lst, @Tw.min_int⟩⟩, ⟨⟨@Tw.max_int, @Tw.e_enR⟩, ⟨@Tw.e_kiEnum, @Tw.e_iEnum⟩⟩⟩, ⟨⟨⟨@Tw.enumOf_1, @Tw.e_kcpB⟩, ⟨@Tw.e_cpB, @Tw.e_compB⟩⟩, ⟨⟨@Tw.e_fgN, @Tw.e_fgC⟩, ⟨@Tw.e_fgB, @Tw.e_fgRt⟩⟩⟩⟩⟩, ⟨⟨⟨⟨@Tw.e_fgR, ⟨@Tw.e_for0, @Tw.e_for1⟩⟩, ⟨⟨@Tw.e_cgF, @Tw.e_cgT⟩, ⟨@Tw.e_cgR, @Tw.e_neo⟩⟩⟩, ⟨⟨⟨@Tw.e_cg0, @Tw.e_cg1⟩, ⟨@Tw.e_c2A, @Tw.e_c2I⟩⟩, ⟨⟨@Tw.e_c2T, @Tw.e_c2R⟩, ⟨@Tw.e_c20, @Tw.e_c21⟩⟩⟩⟩, ⟨⟨⟨⟨@Tw.at5_0, @Tw.at5_1⟩, ⟨@Tw.at5_2, @Tw.at5_3⟩⟩, ⟨⟨@Tw.at5_4, @Tw.ix5_1⟩, ⟨@Tw.ix5_2, @Tw.ix5_3⟩⟩⟩, ⟨⟨⟨@Tw.ix5_4, @Tw.ints_map⟩, ⟨@Tw.e_frz, @Tw.e_kfrz⟩⟩, ⟨⟨@Tw.e_fldO, @Tw.e_Down⟩, ⟨@Tw.e_mtF1S, @Tw.e_kmtF1⟩⟩⟩⟩⟩⟩, ⟨⟨⟨⟨⟨@Tw.e_mtF1R, ⟨@Tw.e_mtF1, @Tw.e_mtF0R⟩⟩, ⟨⟨@Tw.e_mtF0, @Tw.e_fldV⟩, ⟨@Tw.e_augF, @Tw.e_kfaug⟩⟩⟩, ⟨⟨⟨@Tw.e_faugR, @Tw.e_faug⟩, ⟨@Tw.e_methR, @Tw.e_meth⟩⟩, ⟨⟨@Tw.e_mxR, @Tw.e_kmaxD⟩, ⟨@Tw.e_maxD, @Tw.intsOf_lst⟩⟩⟩⟩, ⟨⟨⟨@Tw.intsOf_tup, ⟨@Tw.e_mmR, @Tw.e_mm⟩⟩, ⟨⟨@Tw.frz_str, @Tw.ok_str⟩, ⟨@Tw.eq_str, @Tw.ne_str⟩⟩⟩, ⟨⟨⟨@Tw.eq_bool, @Tw.lt_str⟩, ⟨@Tw.le_str, @Tw.items_str⟩⟩, ⟨⟨@Tw.sum_tup, @Tw.e_sortSetT⟩, ⟨@Tw.e_sortSetR, @Tw.e_nd1⟩⟩⟩⟩⟩, ⟨⟨⟨⟨@Tw.e_knd1, ⟨@Tw.e_knd1b, @Tw.nd1R2_1⟩⟩, ⟨⟨@Tw.e_countL, @Tw.e_kcntL⟩, ⟨@Tw.e_nge, @Tw.e_knge1⟩⟩⟩, ⟨⟨⟨@Tw.e_knge2, @Tw.e_knge3⟩, ⟨@Tw.e_lenSetL, @Tw.e_bits⟩⟩, ⟨⟨@Tw.e_kbits, @Tw.e_nvf⟩, ⟨@Tw.e_knvf, @Tw.nvfR_1⟩⟩⟩⟩, ⟨⟨⟨⟨@Tw.e_nfv, @Tw.nfvR_1⟩, ⟨@Tw.e_knfv, @Tw.e_fds⟩⟩, ⟨⟨@Tw.e_kfds1, @Tw.fdsR_1⟩, ⟨@Tw.e_kfds2, @Tw.fds2R_1⟩⟩⟩, ⟨⟨⟨@Tw.fldD_1, @Tw.e_meth0⟩, ⟨@Tw.e_any, @Tw.anyR_1⟩⟩, ⟨⟨@Tw.meth0R_1, @Tw.e_dc1⟩, ⟨@Tw.e_nnew, @Tw.lenN_1⟩⟩⟩⟩⟩⟩⟩, ⟨⟨⟨⟨⟨⟨@Tw.e_nstore, ⟨@Tw.e_knst, @Tw.nst1_1⟩⟩, ⟨⟨@Tw.e_knst2, @Tw.nst3_1⟩, ⟨@Tw.ownNAt_eq', @Tw.ownN_1⟩⟩⟩, ⟨⟨⟨@Tw.e_kng1, @Tw.ngR_1⟩, ⟨@Tw.e_nget, @Tw.ngR2_1⟩⟩, ⟨⟨@Tw.e_kng2, @Tw.anyNAt_eq'⟩, ⟨@Tw.anyN_1, @Tw.nget3_1⟩⟩⟩⟩, ⟨⟨⟨@Tw.frz_dcd, ⟨@Tw.ok_dcd, @Tw.e_idct⟩⟩, ⟨⟨@Tw.idct_1, @Tw.listN_1⟩, ⟨@Tw.listT_1, @Tw.isiD_1⟩⟩⟩, ⟨⟨⟨@Tw.isD_dcd, @Tw.isD_dtt⟩, ⟨@Tw.isD_non, @Tw.isD_int⟩⟩, ⟨⟨@Tw.isD_bl, @Tw.isD_str⟩, ⟨@Tw.isD_tup, @Tw.isD_lst⟩⟩⟩⟩⟩, ⟨⟨⟨⟨@Tw.isD_dct, ⟨@Tw.isD_obj, @Tw.e_dictO⟩⟩, ⟨⟨@Tw.dcR_1, @Tw.e_kdictO⟩, ⟨@Tw.e_dtA, @Tw.daR_1⟩⟩⟩, ⟨⟨⟨@Tw.dttAt_1, @Tw.dttOf_1⟩, ⟨@Tw.daR2_1, @Tw.lenK_1⟩⟩, ⟨⟨@Tw.e_kdtA, @Tw.dtA3_1⟩, ⟨@Tw.add_tup, @Tw.oks_rows⟩⟩⟩⟩, ⟨⟨⟨⟨@Tw.frzs_rows, @Tw.e_bX⟩, ⟨@Tw.e_sX, @Tw.e_seqX⟩⟩, ⟨⟨@Tw.e_rtEx, @Tw.e_rtE1⟩, ⟨@Tw.e_ioX, @Tw.e_ex1⟩⟩⟩, ⟨⟨⟨@Tw.e_put0, @Tw.e_raise⟩, ⟨@Tw.e_raise1, @Tw.e_kraise1⟩⟩, ⟨⟨@Tw.e_try, @Tw.e_tryX⟩, ⟨@Tw.e_tryN, @Tw.e_tryRt⟩⟩⟩⟩⟩⟩, ⟨⟨⟨⟨⟨@Tw.e_pick0, ⟨@Tw.e_pick1, @Tw.e_pickT⟩⟩, ⟨⟨@Tw.e_pickF, @Tw.e_noN⟩, ⟨@Tw.e_noRt, @Tw.e_noB⟩⟩⟩, ⟨⟨⟨@Tw.e_noC, @Tw.e_fgX⟩, ⟨@Tw.e_word, @Tw.e_wordO⟩⟩, ⟨⟨@Tw.e_wordX, @Tw.e_dctV⟩, ⟨@Tw.e_kdctV, @Tw.frz_ex⟩⟩⟩⟩, ⟨⟨⟨@Tw.ok_ex, ⟨@Tw.e_mkX, @Tw.oks_int⟩⟩, ⟨⟨@Tw.frzs_int, @Tw.oks_tI⟩, ⟨@Tw.ok_tI, @Tw.frz_tI⟩⟩⟩, ⟨⟨⟨@Tw.e_bok, @Tw.e_sbok⟩, ⟨@List.map_cons.{0,0}, @List.map_nil.{0,0}⟩⟩, ⟨⟨@List.length_cons.{0}, @List.length_nil.{0}⟩, ⟨@List.cons_append.{0}, @List.nil_append.{0}⟩⟩⟩⟩⟩, ⟨⟨⟨⟨@List.getElem?_cons_zero.{0}, ⟨@List.getElem?_cons_succ.{0}, @List.set_cons_zero.{0}⟩⟩, ⟨⟨@List.set_cons_succ.{0}, @Option.bind_some.{0,0}⟩, ⟨@Option.map_some.{0,0}, @Nat.zero_add⟩⟩⟩, ⟨⟨⟨@Nat.add_zero, @Bool.and_true⟩, ⟨@Bool.true_and, @Bool.and_self⟩⟩, ⟨⟨@Bool.not_true, @Bool.not_false⟩, ⟨@Bool.false_and, @Bool.and_false⟩⟩⟩⟩, ⟨⟨⟨⟨@Bool.or_true, @Bool.true_or⟩, ⟨@Bool.or_false, @Bool.false_or⟩⟩, ⟨⟨@if_true.{1}, @if_false.{1}⟩, ⟨@Bool.false_eq_true, @ite_true.{1}⟩⟩⟩, ⟨⟨⟨@ite_false.{1}, @decide_true⟩, ⟨@decide_false, @decide_eq_true_eq⟩⟩, ⟨⟨@not_false_eq_true, @not_true_eq_false⟩, ⟨@Option.map_none.{0,0}, @and_self⟩⟩⟩⟩⟩⟩⟩⟩⟩
/-- all the words of reckoning -/
theorem ev : (type_of% @ev0) ∧ ((((type_of% @Tw.sortT_1 ∧ type_of% @Tw.ixT_1) ∧ (type_of% @Tw.mod_int ∧ type_of% @Tw.ix_lst)) ∧ ((type_of% @Tw.all_lst ∧ type_of% @Tw.any_lst) ∧ (type_of% @Tw.sl_tup ∧ type_of% @Tw.sorted_2))) ∧ (((type_of% @Tw.mul_tup ∧ type_of% @Tw.mul_lst) ∧ (type_of% @Tw.ixN_1 ∧ type_of% @Tw.inN_2)) ∧ ((type_of% @Tw.putN2_1 ∧ type_of% @Tw.sortIL_1) ∧ (type_of% @Tw.add_lst ∧ (type_of% @Tw.rows_len ∧ type_of% @List.length_map.{0,0}))))) := ⟨ev0, ⟨⟨⟨⟨@Tw.sortT_1, @Tw.ixT_1⟩, ⟨@Tw.mod_int, @Tw.ix_lst⟩⟩, ⟨⟨@Tw.all_lst, @Tw.any_lst⟩, ⟨@Tw.sl_tup, @Tw.sorted_2⟩⟩⟩, ⟨⟨⟨@Tw.mul_tup, @Tw.mul_lst⟩, ⟨@Tw.ixN_1, @Tw.inN_2⟩⟩, ⟨⟨@Tw.putN2_1, @Tw.sortIL_1⟩, ⟨@Tw.add_lst, ⟨@Tw.rows_len, @List.length_map.{0,0}⟩⟩⟩⟩⟩⟩
end Tw
noncomputable section
namespace K08
open PySem PySem.Spec PyProof.Rows L2 Tw
def topS (i : Nat) : Stmt := PySem.Challenge.pw_twostandings_k08_whole_programs_run.main.body.getD i (.Pass ⟨0, 0, 0, 0⟩)
def clNs : List Str := ["Program", "Run"]
abbrev s_is_integer : Stmt := topS 1
abbrev N_is_integer : List Str := ["thing"]
theorem sc_is_integer : FnScope N_is_integer ["thing"] (defScope s_is_integer) := ⟨rfl, rfl, rfl, by decide +kernel, rfl, by decide +kernel, by decide +kernel⟩
abbrev s_is_within : Stmt := topS 2
abbrev N_is_within : List Str := ["thing", "least", "most"]
theorem sc_is_within : FnScope N_is_within ["thing", "least", "most"] (defScope s_is_within) := ⟨rfl, rfl, rfl, by decide +kernel, rfl, by decide +kernel, by decide +kernel⟩
abbrev s_is_lot : Stmt := topS 3
abbrev N_is_lot : List Str := ["thing", "many", "last", "number"]
theorem sc_is_lot : FnScope N_is_lot ["thing", "many"] (defScope s_is_lot) := ⟨rfl, rfl, rfl, by decide +kernel, rfl, by decide +kernel, by decide +kernel⟩
abbrev s_is_pair : Stmt := topS 4
abbrev N_is_pair : List Str := ["thing"]
theorem sc_is_pair : FnScope N_is_pair ["thing"] (defScope s_is_pair) := ⟨rfl, rfl, rfl, by decide +kernel, rfl, by decide +kernel, by decide +kernel⟩
abbrev s_is_name : Stmt := topS 5
abbrev N_is_name : List Str := ["thing", "sign"]
theorem sc_is_name : FnScope N_is_name ["thing"] (defScope s_is_name) := ⟨rfl, rfl, rfl, by decide +kernel, rfl, by decide +kernel, by decide +kernel⟩
abbrev s_check_sizes : Stmt := topS 16
abbrev N_check_sizes : List Str := ["thing", "size"]
theorem sc_check_sizes : FnScope N_check_sizes ["thing"] (defScope s_check_sizes) := ⟨rfl, rfl, rfl, by decide +kernel, rfl, by decide +kernel, by decide +kernel⟩
abbrev s_is_content : Stmt := topS 17
abbrev N_is_content : List Str := ["sizes", "thing", "size", "worth"]
theorem sc_is_content : FnScope N_is_content ["sizes", "thing"] (defScope s_is_content) := ⟨rfl, rfl, rfl, by decide +kernel, rfl, by decide +kernel, by decide +kernel⟩
abbrev s_check_content : Stmt := topS 18
abbrev N_check_content : List Str := ["sizes", "thing"]
theorem sc_check_content : FnScope N_check_content ["sizes", "thing"] (defScope s_check_content) := ⟨rfl, rfl, rfl, by decide +kernel, rfl, by decide +kernel, by decide +kernel⟩
abbrev s_sizes_at : Stmt := topS 19
abbrev N_sizes_at : List Str := ["sizes", "lot", "pin"]
theorem sc_sizes_at : FnScope N_sizes_at ["sizes", "lot"] (defScope s_sizes_at) := ⟨rfl, rfl, rfl, by decide +kernel, rfl, by decide +kernel, by decide +kernel⟩
abbrev s_joint_of : Stmt := topS 20
abbrev N_joint_of : List Str := ["lot", "content", "pin"]
theorem sc_joint_of : FnScope N_joint_of ["lot", "content"] (defScope s_joint_of) := ⟨rfl, rfl, rfl, by decide +kernel, rfl, by decide +kernel, by decide +kernel⟩
abbrev s_is_test : Stmt := topS 24
abbrev N_is_test : List Str := ["sizes", "thing"]
theorem sc_is_test : FnScope N_is_test ["sizes", "thing"] (defScope s_is_test) := ⟨rfl, rfl, rfl, by decide +kernel, rfl, by decide +kernel, by decide +kernel⟩
abbrev s_is_statement : Stmt := topS 25
abbrev N_is_statement : List Str := ["sizes", "thing"]
theorem sc_is_statement : FnScope N_is_statement ["sizes", "thing"] (defScope s_is_statement) := ⟨rfl, rfl, rfl, by decide +kernel, rfl, by decide +kernel, by decide +kernel⟩
abbrev s_shows : Stmt := topS 27
abbrev N_shows : List Str := ["content", "test"]
theorem sc_shows : FnScope N_shows ["content", "test"] (defScope s_shows) := ⟨rfl, rfl, rfl, by decide +kernel, rfl, by decide +kernel, by decide +kernel⟩
abbrev s_changed : Stmt := topS 28
abbrev N_changed : List Str := ["flag", "word"]
theorem sc_changed : FnScope N_changed ["flag", "word"] (defScope s_changed) := ⟨rfl, rfl, rfl, by decide +kernel, rfl, by decide +kernel, by decide +kernel⟩
abbrev s_Run_init : Stmt := inClass (topS 29) 0
abbrev N_Run_init : List Str := ["self", "content"]
theorem sc_Run_init : FnScope N_Run_init ["self", "content"] (defScope s_Run_init) := ⟨rfl, rfl, rfl, by decide +kernel, rfl, by decide +kernel, by decide +kernel⟩
abbrev s_Run_step : Stmt := inClass (topS 29) 1
abbrev N_Run_step : List Str := ["self", "statement", "word"]
theorem sc_Run_step : FnScope N_Run_step ["self", "statement"] (defScope s_Run_step) := ⟨rfl, rfl, rfl, by decide +kernel, rfl, by decide +kernel, by decide +kernel⟩
abbrev s_run_of : Stmt := topS 30
abbrev N_run_of : List Str := ["program", "content", "found", "statement"]
theorem sc_run_of : FnScope N_run_of ["program", "content"] (defScope s_run_of) := ⟨rfl, rfl, rfl, by decide +kernel, rfl, by decide +kernel, by decide +kernel⟩
abbrev s_run : Stmt := topS 31
abbrev N_run : List Str := ["program", "content", "found"]
theorem sc_run : FnScope N_run ["program", "content"] (defScope s_run) := ⟨rfl, rfl, rfl, by decide +kernel, rfl, by decide +kernel, by decide +kernel⟩
abbrev s_traced : Stmt := topS 32
abbrev N_traced : List Str := ["program", "content", "here", "found", "statement", "skipped"]
theorem sc_traced : FnScope N_traced ["program", "content"] (defScope s_traced) := ⟨rfl, rfl, rfl, by decide +kernel, rfl, by decide +kernel, by decide +kernel⟩
abbrev s__law_hand : Stmt := topS 34
abbrev N__law_hand : List Str := ["script", "cells", "cell"]
theorem sc__law_hand : FnScope N__law_hand ["script"] (defScope s__law_hand) := ⟨rfl, rfl, rfl, by decide +kernel, rfl, by decide +kernel, by decide +kernel⟩
abbrev s__law_draw : Stmt := topS 35
abbrev N__law_draw : List Str := ["hand", "many", "cell", "digit", "number"]
theorem sc__law_draw : FnScope N__law_draw ["hand", "many"] (defScope s__law_draw) := ⟨rfl, rfl, rfl, by decide +kernel, rfl, by decide +kernel, by decide +kernel⟩
abbrev s__law_any : Stmt := topS 36
abbrev N__law_any : List Str := ["hand", "some"]
theorem sc__law_any : FnScope N__law_any ["hand", "some"] (defScope s__law_any) := ⟨rfl, rfl, rfl, by decide +kernel, rfl, by decide +kernel, by decide +kernel⟩
abbrev s__law_all : Stmt := topS 37
abbrev N__law_all : List Str := ["sizes", "found", "size", "longer", "row", "worth"]
theorem sc__law_all : FnScope N__law_all ["sizes"] (defScope s__law_all) := ⟨rfl, rfl, rfl, by decide +kernel, rfl, by decide +kernel, by decide +kernel⟩
abbrev s__law_sizes : Stmt := topS 38
abbrev N__law_sizes : List Str := ["hand", "most", "bound", "found", "many", "turn", "size"]
theorem sc__law_sizes : FnScope N__law_sizes ["hand", "most", "bound"] (defScope s__law_sizes) := ⟨rfl, rfl, rfl, by decide +kernel, rfl, by decide +kernel, by decide +kernel⟩
abbrev s__law_lot : Stmt := topS 39
abbrev N__law_lot : List Str := ["hand", "many", "most", "left", "found", "turn"]
theorem sc__law_lot : FnScope N__law_lot ["hand", "many", "most"] (defScope s__law_lot) := ⟨rfl, rfl, rfl, by decide +kernel, rfl, by decide +kernel, by decide +kernel⟩
abbrev s__law_joint : Stmt := topS 40
abbrev N__law_joint : List Str := ["lot", "content", "pin"]
theorem sc__law_joint : FnScope N__law_joint ["lot", "content"] (defScope s__law_joint) := ⟨rfl, rfl, rfl, by decide +kernel, rfl, by decide +kernel, by decide +kernel⟩
abbrev s__law_test : Stmt := topS 41
abbrev N__law_test : List Str := ["hand", "sizes", "lot", "pin"]
theorem sc__law_test : FnScope N__law_test ["hand", "sizes"] (defScope s__law_test) := ⟨rfl, rfl, rfl, by decide +kernel, rfl, by decide +kernel, by decide +kernel⟩
abbrev s__law_statement : Stmt := topS 42
abbrev N__law_statement : List Str := ["hand", "sizes", "way"]
theorem sc__law_statement : FnScope N__law_statement ["hand", "sizes"] (defScope s__law_statement) := ⟨rfl, rfl, rfl, by decide +kernel, rfl, by decide +kernel, by decide +kernel⟩
abbrev s__law_shows : Stmt := topS 43
abbrev N__law_shows : List Str := ["content", "test"]
theorem sc__law_shows : FnScope N__law_shows ["content", "test"] (defScope s__law_shows) := ⟨rfl, rfl, rfl, by decide +kernel, rfl, by decide +kernel, by decide +kernel⟩
abbrev s__law_run : Stmt := topS 44
abbrev N__law_run : List Str := ["statements", "content", "flag", "left", "deeds", "trace", "statement", "skipped"]
theorem sc__law_run : FnScope N__law_run ["statements", "content"] (defScope s__law_run) := ⟨rfl, rfl, rfl, by decide +kernel, rfl, by decide +kernel, by decide +kernel⟩
abbrev s_Program_init : Stmt := inClass (topS 26) 0
abbrev N_Program_init : List Str := ["self", "sizes", "statements", "at", "statement"]
theorem sc_Program_init : FnScope N_Program_init ["self", "sizes", "statements"] (defScope s_Program_init) := ⟨rfl, rfl, rfl, by decide +kernel, rfl, by decide +kernel, by decide +kernel⟩
abbrev s_law : Stmt := topS 45
abbrev N_law : List Str := ["script", "hand", "turn", "sizes", "many", "statements", "program", "content", "told", "rows", "flag", "deeds", "trace", "one"]
theorem sc_law : FnScope N_law ["script"] (defScope s_law) := ⟨rfl, rfl, rfl, by decide +kernel, rfl, by decide +kernel, by decide +kernel⟩
def isaT : List (Tg × Tg × Bool) := [(.ty "int", .ty "int", true), (.ty "bool", .ty "int", true), (.ty "str", .ty "int", false), (.ty "NoneType", .ty "int", false), (.ty "tuple", .ty "int", false), (.ty "list", .ty "int", false), (.ty "dict", .ty "int", false), (.cl 0, .ty "int", false), (.cl 1, .ty "int", false), (.ty "int", .ty "bool", false), (.ty "bool", .ty "bool", true), (.ty "str", .ty "bool", false), (.ty "NoneType", .ty "bool", false), (.ty "tuple", .ty "bool", false), (.ty "list", .ty "bool", false), (.ty "dict", .ty "bool", false), (.cl 0, .ty "bool", false), (.cl 1, .ty "bool", false), (.ty "int", .ty "tuple", false), (.ty "bool", .ty "tuple", false), (.ty "str", .ty "tuple", false), (.ty "NoneType", .ty "tuple", false), (.ty "tuple", .ty "tuple", true), (.ty "list", .ty "tuple", false), (.ty "dict", .ty "tuple", false), (.cl 0, .ty "tuple", false), (.cl 1, .ty "tuple", false), (.ty "int", .ty "str", false), (.ty "bool", .ty "str", false), (.ty "str", .ty "str", true), (.ty "NoneType", .ty "str", false), (.ty "tuple", .ty "str", false), (.ty "list", .ty "str", false), (.ty "dict", .ty "str", false), (.cl 0, .ty "str", false), (.cl 1, .ty "str", false), (.ty "int", .ty "list", false), (.ty "bool", .ty "list", false), (.ty "str", .ty "list", false), (.ty "NoneType", .ty "list", false), (.ty "tuple", .ty "list", false), (.ty "list", .ty "list", true), (.ty "dict", .ty "list", false), (.cl 0, .ty "list", false), (.cl 1, .ty "list", false), (.ty "int", .cl 0, false), (.ty "bool", .cl 0, false), (.ty "str", .cl 0, false), (.ty "NoneType", .cl 0, false), (.ty "tuple", .cl 0, false), (.ty "list", .cl 0, false), (.ty "dict", .cl 0, false), (.cl 0, .cl 0, true), (.cl 1, .cl 0, false)]
def isa : Tg → Tg → Option Bool := isaBy isaT
theorem isa_int_int : isa (.ty "int") (.ty "int") = some true := (rfl)
theorem isa_int_bool : isa (.ty "int") (.ty "bool") = some false := (rfl)
theorem isa_tuple_tuple : isa (.ty "tuple") (.ty "tuple") = some true := (rfl)
theorem isa_str_str : isa (.ty "str") (.ty "str") = some true := (rfl)
def own_statements : Nat → Bool := fun c => c == 0
def own_sizes : Nat → Bool := fun c => c == 0
def own_flag : Nat → Bool := fun c => c == 1
def own_names : Nat → Bool := fun c => c == 1
def own_content : Nat → Bool := fun c => c == 1
def own_left : Nat → Bool := fun c => c == 1
structure Txt (K : PySem.W.Frag) (mg : Str → Option Value) (cl : Cl) : Prop where
  z_abs : mg "abs" = none
  z_all : mg "all" = none
  z_bool : mg "bool" = none
  z_enumerate : mg "enumerate" = none
  z_int : mg "int" = none
  z_isinstance : mg "isinstance" = none
  z_len : mg "len" = none
  z_list : mg "list" = none
  z_min : mg "min" = none
  z_range : mg "range" = none
  z_repr : mg "repr" = none
  z_sorted : mg "sorted" = none
  z_str : mg "str" = none
  z_tuple : mg "tuple" = none
  z_zip : mg "zip" = none
  c_LEAST_WORTHS : ∃ t, mg "LEAST_WORTHS" = some (.int 2 t)
  c_MOST_LOOKED : ∃ t, mg "MOST_LOOKED" = some (.int 3 t)
  c_MOST_PINS : ∃ t, mg "MOST_PINS" = some (.int 6 t)
  c_MOST_STATEMENTS : ∃ t, mg "MOST_STATEMENTS" = some (.int 5000 t)
  c_MOST_WORTHS : ∃ t, mg "MOST_WORTHS" = some (.int 4 t)
  k_Program : mg "Program" = some (.ref (cl 0))
  k_Run : mg "Run" = some (.ref (cl 1))
  c_CHANGES : ∃ u, mg "CHANGES" = some u ∧ KD K (.tup [(.str "set"), (.str "clear"), (.str "turn")]) u
  kc_Run : ClsF K (cl 1)
  isa : IsaOk K cl isa
  f_statements : FldOk K cl own_statements "statements"
  f_sizes : FldOk K cl own_sizes "sizes"
  f_flag : FldOk K cl own_flag "flag"
  f_names : FldOk K cl own_names "names"
  f_content : FldOk K cl own_content "content"
  f_left : FldOk K cl own_left "left"
  F_is_integer : IsFn K mg "is_integer" "is_integer" s_is_integer ["thing"]
  F_is_within : IsFn K mg "is_within" "is_within" s_is_within ["thing", "least", "most"]
  F_is_lot : IsFn K mg "is_lot" "is_lot" s_is_lot ["thing", "many"]
  F_is_pair : IsFn K mg "is_pair" "is_pair" s_is_pair ["thing"]
  F_is_name : IsFn K mg "is_name" "is_name" s_is_name ["thing"]
  F_check_sizes : IsFn K mg "check_sizes" "check_sizes" s_check_sizes ["thing"]
  F_is_content : IsFn K mg "is_content" "is_content" s_is_content ["sizes", "thing"]
  F_check_content : IsFn K mg "check_content" "check_content" s_check_content ["sizes", "thing"]
  F_sizes_at : IsFn K mg "sizes_at" "sizes_at" s_sizes_at ["sizes", "lot"]
  F_joint_of : IsFn K mg "joint_of" "joint_of" s_joint_of ["lot", "content"]
  F_is_test : IsFn K mg "is_test" "is_test" s_is_test ["sizes", "thing"]
  F_is_statement : IsFn K mg "is_statement" "is_statement" s_is_statement ["sizes", "thing"]
  F_shows : IsFn K mg "shows" "shows" s_shows ["content", "test"]
  F_changed : IsFn K mg "changed" "changed" s_changed ["flag", "word"]
  F_Run_init : ∃ f, Mk K (cl 1) f ∧ IsM K f "__init__" "Run.__init__" s_Run_init ["self", "content"]
  F_Run_step : ∃ f, Meth K (cl 1) "step" f ∧ IsM K f "step" "Run.step" s_Run_step ["self", "statement"]
  F_run_of : IsFn K mg "run_of" "run_of" s_run_of ["program", "content"]
  F_run : IsFn K mg "run" "run" s_run ["program", "content"]
  F_traced : IsFn K mg "traced" "traced" s_traced ["program", "content"]
  F__law_hand : IsFn K mg "_law_hand" "_law_hand" s__law_hand ["script"]
  F__law_draw : IsFn K mg "_law_draw" "_law_draw" s__law_draw ["hand", "many"]
  F__law_any : IsFn K mg "_law_any" "_law_any" s__law_any ["hand", "some"]
  F__law_all : IsFn K mg "_law_all" "_law_all" s__law_all ["sizes"]
  F__law_sizes : IsFn K mg "_law_sizes" "_law_sizes" s__law_sizes ["hand", "most", "bound"]
  F__law_lot : IsFn K mg "_law_lot" "_law_lot" s__law_lot ["hand", "many", "most"]
  F__law_joint : IsFn K mg "_law_joint" "_law_joint" s__law_joint ["lot", "content"]
  F__law_test : IsFn K mg "_law_test" "_law_test" s__law_test ["hand", "sizes"]
  F__law_statement : IsFn K mg "_law_statement" "_law_statement" s__law_statement ["hand", "sizes"]
  F__law_shows : IsFn K mg "_law_shows" "_law_shows" s__law_shows ["content", "test"]
  F__law_run : IsFn K mg "_law_run" "_law_run" s__law_run ["statements", "content"]
  F_Program_init : ∃ f, Mk K (cl 0) f ∧ IsM K f "__init__" "Program.__init__" s_Program_init ["self", "sizes", "statements"]
variable {P : Program} {w : World} {K : PySem.W.Frag} {mg : Str → Option Value} {base : Heap} {cl : Cl}
def b_is_integer : Sv := (sSeq (sRet (fAnd (fN (gIsi isa) [(.val (fVar 0)), (.val (fK (.ty "int")))]) (fNot (fN (gIsi isa) [(.val (fVar 0)), (.val (fK (.ty "bool")))]))))
    sNil)
def h_is_integer : List D → Rf := runB 1 [] b_is_integer
theorem ok_is_integer (T : Txt K mg cl) : FnD P w K mg base cl "is_integer" 1 1 [] h_is_integer := by
  obtain ⟨f, fd, gm, F, hb⟩ := T.F_is_integer
  refine def_ok (k := 0) F sc_is_integer gm hb (by decide) (by decide) (by decide) fun cdv A outer s H E hr tk hp => ?_
  have nd : N_is_integer.Nodup := by decide +kernel
  exact (ss_cons (s_ret (j_and (j_callB call_isi (s_isi T.isa) T.z_isinstance (by decide +kernel) (ja_cons (j_var (pv 0)) (ja_cons (j_ty T.z_int (by decide +kernel)) ja_nil))) (j_one (j_not (j_callB call_isi (s_isi T.isa) T.z_isinstance (by decide +kernel) (ja_cons (j_var (pv 0)) (ja_cons (j_ty T.z_bool (by decide +kernel)) ja_nil)))))))
      ss_nil)
def b_is_within : Sv := (sSeq (sRet (fAnd (fCall [] h_is_integer [(.val (fVar 0))]) (fChain gLe gLe (fVar 1) (fVar 0) (fVar 2))))
    sNil)
def h_is_within : List D → Rf := runB 3 [] b_is_within
theorem ok_is_within (T : Txt K mg cl) : FnD P w K mg base cl "is_within" 2 3 [] h_is_within := by
  obtain ⟨f, fd, gm, F, hb⟩ := T.F_is_within
  refine def_ok (k := 1) F sc_is_within gm hb (by decide) (by decide) (by decide) fun cdv A outer s H E hr tk hp => ?_
  have nd : N_is_within.Nodup := by decide +kernel
  exact (ss_cons (s_ret (j_and (j_call (ok_is_integer T) tk hr (by decide) rfl (ja_cons (o1 := .val _) (j_var (pv 0)) ja_nil)) (j_one (j_chain op_leA s_le op_leA s_le (j_var (pv 1)) (j_var (pv 0)) (j_var (pv 2))))))
      ss_nil)
abbrev l_is_lot_1 : Sv := (sSeq (sIf (bNot (bE (fCall [] h_is_within [(.val (fVar 3)), (.val (fN gAdd [(.val (fVar 2)), (.val (fK (.int 1)))])), (.val (fN gSub [(.val (fVar 1)), (.val (fK (.int 1)))]))]))) (sSeq (sRet (fK (.bl false)))
    sNil) sNil)
    (sSeq (sAsg (bNm 2) (fVar 3))
    sNil))
def b_is_lot : Sv := (sSeq (sIf (bNot (bE (fN (gIsi isa) [(.val (fVar 0)), (.val (fK (.ty "tuple")))]))) (sSeq (sRet (fK (.bl false)))
    sNil) sNil)
    (sSeq (sAsg (bNm 2) (fN gNeg [(.val (fK (.int 1)))]))
    (sSeq (sFor (iSeq (fVar 0)) (bNm 3) l_is_lot_1)
    (sSeq (sRet (fK (.bl true)))
    sNil))))
def h_is_lot : List D → Rf := runB 4 [] b_is_lot
theorem ok_is_lot (T : Txt K mg cl) : FnD P w K mg base cl "is_lot" 3 2 [] h_is_lot := by
  obtain ⟨f, fd, gm, F, hb⟩ := T.F_is_lot
  refine def_ok (k := 2) F sc_is_lot gm hb (by decide) (by decide) (by decide) fun cdv A outer s H E hr tk hp => ?_
  have nd : N_is_lot.Nodup := by decide +kernel
  exact (ss_cons (s_if (t_not (t_e (j_callB call_isi (s_isi T.isa) T.z_isinstance (by decide +kernel) (ja_cons (j_var (pv 0)) (ja_cons (j_ty T.z_tuple (by decide +kernel)) ja_nil))))) (ss_cons (s_ret j_bl)
      ss_nil) ss_nil)
      (ss_cons (s_set (i := 2) nd (j_un un_neg s_neg j_int))
      (ss_cons (s_for hp rfl (i_seq (j_var (pv 0))) (g_nm nd (i := 3))
      (ss_cons (s_if (t_not (t_e (j_call (ok_is_within T) tk hr (by decide) rfl (ja_cons (o1 := .val _) (j_var (pv 3)) (ja_cons (o1 := .val _) (j_bin op_addAll s_add (j_var (pv 2)) j_int) (ja_cons (o1 := .val _) (j_bin op_sub s_sub (j_var (pv 1)) j_int) ja_nil)))))) (ss_cons (s_ret j_bl)
      ss_nil) ss_nil)
      (ss_cons (s_set (i := 2) nd (j_var (pv 3)))
      ss_nil)))
      (ss_cons (s_ret j_bl)
      ss_nil))))
def b_is_pair : Sv := (sSeq (sRet (fAnd (fN (gIsi isa) [(.val (fVar 0)), (.val (fK (.ty "tuple")))]) (fN gEq [(.val (fN gLen [(.val (fVar 0))])), (.val (fK (.int 2)))])))
    sNil)
def h_is_pair : List D → Rf := runB 1 [] b_is_pair
theorem ok_is_pair (T : Txt K mg cl) : FnD P w K mg base cl "is_pair" 1 1 [] h_is_pair := by
  obtain ⟨f, fd, gm, F, hb⟩ := T.F_is_pair
  refine def_ok (k := 0) F sc_is_pair gm hb (by decide) (by decide) (by decide) fun cdv A outer s H E hr tk hp => ?_
  have nd : N_is_pair.Nodup := by decide +kernel
  exact (ss_cons (s_ret (j_and (j_callB call_isi (s_isi T.isa) T.z_isinstance (by decide +kernel) (ja_cons (j_var (pv 0)) (ja_cons (j_ty T.z_tuple (by decide +kernel)) ja_nil))) (j_one (j_cmp (op_eqD hr.units) s_eq (nomark _) (j_callB cr_len s_len T.z_len (by decide +kernel) (ja_cons (j_var (pv 0)) ja_nil)) j_int))))
      ss_nil)
abbrev c_is_name_1 : Ev := (fChain gLe gLe (fK (.str "a")) (fVar 1) (fK (.str "z")))
def b_is_name : Sv := (sSeq (sIf (bOr (bNot (bE (fN (gIsi isa) [(.val (fVar 0)), (.val (fK (.ty "str")))]))) (bNot (bE (fChain gLe gLe (fK (.int 1)) (fN gLen [(.val (fVar 0))]) (fK (.int 8)))))) (sSeq (sRet (fK (.bl false)))
    sNil) sNil)
    (sSeq (sRet (fN gAll [(.val (fComp [1] (iSeq (fVar 0)) (bNm 1) bTrue c_is_name_1))]))
    sNil))
def h_is_name : List D → Rf := runB 2 [] b_is_name
theorem ok_is_name (T : Txt K mg cl) : FnD P w K mg base cl "is_name" 1 1 [] h_is_name := by
  obtain ⟨f, fd, gm, F, hb⟩ := T.F_is_name
  refine def_ok (k := 0) F sc_is_name gm hb (by decide) (by decide) (by decide) fun cdv A outer s H E hr tk hp => ?_
  have nd : N_is_name.Nodup := by decide +kernel
  exact (ss_cons (s_if (PW.pt (t_or (t_not (t_e (j_callB call_isi (s_isi T.isa) T.z_isinstance (by decide +kernel) (ja_cons (j_var (pv 0)) (ja_cons (j_ty T.z_str (by decide +kernel)) ja_nil))))) (t_or1 (t_not (t_chain op_leA s_le op_leA s_le (fun _ _ z => cmp_bl z) j_int (j_callB cr_len s_len T.z_len (by decide +kernel) (ja_cons (j_var (pv 0)) ja_nil)) j_int))))) (ss_cons (s_ret j_bl)
      ss_nil) ss_nil)
      (ss_cons (s_ret (j_callB (cr_all rfl) s_all T.z_all (by decide +kernel) (ja_cons (j_comp (own := [("sign", 1)]) rfl nd (i_seq (j_var (pv 0))) (blkOk_by (own := [("sign", 1)]) (N := N_is_name) (sc := defScope s_is_name) (by decide +kernel)) (fun _ _ _ _ _ => (g_nm nd (i := 1))) (fun _ _ _ _ _ => c_nil) (fun _ _ _ _ _ => (j_chain op_leA s_le op_leA s_le j_str (j_var (pv 1)) j_str)) (by decide)) ja_nil)))
      ss_nil))
abbrev c_check_sizes_1 : Ev := (fCall [] h_is_within [(.val (fVar 1)), (.val (fK (.int 2))), (.val (fK (.int 4)))])
def b_check_sizes : Sv := (sSeq (sIf (bOr (bNot (bE (fN (gIsi isa) [(.val (fVar 0)), (.val (fK (.ty "tuple")))]))) (bNot (bE (fChain gLe gLe (fK (.int 1)) (fN gLen [(.val (fVar 0))]) (fK (.int 6)))))) (sSeq sNever
    sNil) sNil)
    (sSeq (sIf (bNot (bE (fN gAll [(.val (fComp [1] (iSeq (fVar 0)) (bNm 1) bTrue c_check_sizes_1))]))) (sSeq sNever
    sNil) sNil)
    sNil))
def h_check_sizes : List D → Rf := runB 2 [] b_check_sizes
theorem ok_check_sizes (T : Txt K mg cl) : FnD P w K mg base cl "check_sizes" 3 1 [] h_check_sizes := by
  obtain ⟨f, fd, gm, F, hb⟩ := T.F_check_sizes
  refine def_ok (k := 2) F sc_check_sizes gm hb (by decide) (by decide) (by decide) fun cdv A outer s H E hr tk hp => ?_
  have nd : N_check_sizes.Nodup := by decide +kernel
  exact (ss_cons (s_if (PW.pt (t_or (t_not (t_e (j_callB call_isi (s_isi T.isa) T.z_isinstance (by decide +kernel) (ja_cons (j_var (pv 0)) (ja_cons (j_ty T.z_tuple (by decide +kernel)) ja_nil))))) (t_or1 (t_not (t_chain op_leA s_le op_leA s_le (fun _ _ z => cmp_bl z) j_int (j_callB cr_len s_len T.z_len (by decide +kernel) (ja_cons (j_var (pv 0)) ja_nil)) (j_gint T.c_MOST_PINS.choose_spec)))))) (ss_cons s_never
      ss_nil) ss_nil)
      (ss_cons (s_if (t_not (t_e (j_callB (cr_all rfl) s_all T.z_all (by decide +kernel) (ja_cons (j_comp (own := [("size", 1)]) rfl nd (i_seq (j_var (pv 0))) (blkOk_by (own := [("size", 1)]) (N := N_check_sizes) (sc := defScope s_check_sizes) (by decide +kernel)) (fun _ _ _ _ _ => (g_nm nd (i := 1))) (fun _ _ _ _ _ => c_nil) (fun _ _ _ _ _ => (j_call (ok_is_within T) takes0 hr (by decide) rfl (ja_cons (o1 := .val _) (j_var (pv 1)) (ja_cons (o1 := .val _) (j_gint T.c_LEAST_WORTHS.choose_spec) (ja_cons (o1 := .val _) (j_gint T.c_MOST_WORTHS.choose_spec) ja_nil))))) (by decide)) ja_nil)))) (ss_cons s_never
      ss_nil) ss_nil)
      ss_nil))
abbrev c_is_content_1 : Ev := (fCall [] h_is_within [(.val (fVar 3)), (.val (fK (.int 0))), (.val (fN gSub [(.val (fVar 2)), (.val (fK (.int 1)))]))])
def b_is_content : Sv := (sSeq (sIf (bOr (bNot (bE (fN (gIsi isa) [(.val (fVar 1)), (.val (fK (.ty "tuple")))]))) (bE (fN gNe [(.val (fN gLen [(.val (fVar 1))])), (.val (fN gLen [(.val (fVar 0))]))]))) (sSeq (sRet (fK (.bl false)))
    sNil) sNil)
    (sSeq (sRet (fN gAll [(.val (fComp [2, 3] (iZip [(fVar 0), (fVar 1)]) (bTp (bCons (bNm 2) (bCons (bNm 3) bNil))) bTrue c_is_content_1))]))
    sNil))
def h_is_content : List D → Rf := runB 4 [] b_is_content
theorem ok_is_content (T : Txt K mg cl) : FnD P w K mg base cl "is_content" 3 2 [] h_is_content := by
  obtain ⟨f, fd, gm, F, hb⟩ := T.F_is_content
  refine def_ok (k := 2) F sc_is_content gm hb (by decide) (by decide) (by decide) fun cdv A outer s H E hr tk hp => ?_
  have nd : N_is_content.Nodup := by decide +kernel
  exact (ss_cons (s_if (PW.pt (t_or (t_not (t_e (j_callB call_isi (s_isi T.isa) T.z_isinstance (by decide +kernel) (ja_cons (j_var (pv 1)) (ja_cons (j_ty T.z_tuple (by decide +kernel)) ja_nil))))) (t_or1 (t_cmp (op_neD hr.units) s_ne (fun _ _ z => ne_bl z) (nomark _) (j_callB cr_len s_len T.z_len (by decide +kernel) (ja_cons (j_var (pv 1)) ja_nil)) (j_callB cr_len s_len T.z_len (by decide +kernel) (ja_cons (j_var (pv 0)) ja_nil)))))) (ss_cons (s_ret j_bl)
      ss_nil) ss_nil)
      (ss_cons (s_ret (j_callB (cr_all rfl) s_all T.z_all (by decide +kernel) (ja_cons (j_comp (own := [("size", 2), ("worth", 3)]) rfl nd (i_zip T.z_zip (ja_cons (o1 := .val _) (j_var (pv 0)) (ja_cons (o1 := .val _) (j_var (pv 1)) ja_nil))) (blkOk_by (own := [("size", 2), ("worth", 3)]) (N := N_is_content) (sc := defScope s_is_content) (by decide +kernel)) (fun _ _ _ _ _ => (g_tp (n := 2) rfl (gs_cons (g_nm nd (i := 2)) (gs_cons (g_nm nd (i := 3)) gs_nil)) (fun _ _ _ z => bCons_len (fun _ _ _ z => bCons_len (fun _ _ _ z => bNil_len z) z) z))) (fun _ _ _ _ _ => c_nil) (fun _ _ _ _ _ => (j_call (ok_is_within T) takes0 hr (by decide) rfl (ja_cons (o1 := .val _) (j_var (pv 3)) (ja_cons (o1 := .val _) j_int (ja_cons (o1 := .val _) (j_bin op_sub s_sub (j_var (pv 2)) j_int) ja_nil))))) (by decide)) ja_nil)))
      ss_nil))
def b_check_content : Sv := (sSeq (sIf (bNot (bE (fCall [] h_is_content [(.val (fVar 0)), (.val (fVar 1))]))) (sSeq sNever
    sNil) sNil)
    sNil)
def h_check_content : List D → Rf := runB 2 [] b_check_content
theorem ok_check_content (T : Txt K mg cl) : FnD P w K mg base cl "check_content" 4 2 [] h_check_content := by
  obtain ⟨f, fd, gm, F, hb⟩ := T.F_check_content
  refine def_ok (k := 3) F sc_check_content gm hb (by decide) (by decide) (by decide) fun cdv A outer s H E hr tk hp => ?_
  have nd : N_check_content.Nodup := by decide +kernel
  exact (ss_cons (s_if (t_not (t_e (j_call (ok_is_content T) tk hr (by decide) rfl (ja_cons (o1 := .val _) (j_var (pv 0)) (ja_cons (o1 := .val _) (j_var (pv 1)) ja_nil))))) (ss_cons s_never
      ss_nil) ss_nil)
      ss_nil)
abbrev c_sizes_at_1 : Ev := (fN gIx [(.val (fVar 0)), (.val (fVar 2))])
def b_sizes_at : Sv := (sSeq (sRet (fN gTuple [(.val (fComp [2] (iSeq (fVar 1)) (bNm 2) bTrue c_sizes_at_1))]))
    sNil)
def h_sizes_at : List D → Rf := runB 3 [] b_sizes_at
theorem ok_sizes_at (T : Txt K mg cl) : FnD P w K mg base cl "sizes_at" 1 2 [] h_sizes_at := by
  obtain ⟨f, fd, gm, F, hb⟩ := T.F_sizes_at
  refine def_ok (k := 0) F sc_sizes_at gm hb (by decide) (by decide) (by decide) fun cdv A outer s H E hr tk hp => ?_
  have nd : N_sizes_at.Nodup := by decide +kernel
  exact (ss_cons (s_ret (j_callTy call_tupleF s_tuple T.z_tuple (by decide +kernel) (ja_cons (j_comp (own := [("pin", 2)]) rfl nd (i_seq (j_var (pv 1))) (blkOk_by (own := [("pin", 2)]) (N := N_sizes_at) (sc := defScope s_sizes_at) (by decide +kernel)) (fun _ _ _ _ _ => (g_nm nd (i := 2))) (fun _ _ _ _ _ => c_nil) (fun _ _ _ _ _ => (j_ix ix_seq s_ix (fun _ _ => rfl) (j_var (pv 0)) (j_var (pv 2)))) (by decide)) ja_nil)))
      ss_nil)
abbrev c_joint_of_1 : Ev := (fN gIx [(.val (fVar 1)), (.val (fVar 2))])
def b_joint_of : Sv := (sSeq (sRet (fN gTuple [(.val (fComp [2] (iSeq (fVar 0)) (bNm 2) bTrue c_joint_of_1))]))
    sNil)
def h_joint_of : List D → Rf := runB 3 [] b_joint_of
theorem ok_joint_of (T : Txt K mg cl) : FnD P w K mg base cl "joint_of" 1 2 [] h_joint_of := by
  obtain ⟨f, fd, gm, F, hb⟩ := T.F_joint_of
  refine def_ok (k := 0) F sc_joint_of gm hb (by decide) (by decide) (by decide) fun cdv A outer s H E hr tk hp => ?_
  have nd : N_joint_of.Nodup := by decide +kernel
  exact (ss_cons (s_ret (j_callTy call_tupleF s_tuple T.z_tuple (by decide +kernel) (ja_cons (j_comp (own := [("pin", 2)]) rfl nd (i_seq (j_var (pv 0))) (blkOk_by (own := [("pin", 2)]) (N := N_joint_of) (sc := defScope s_joint_of) (by decide +kernel)) (fun _ _ _ _ _ => (g_nm nd (i := 2))) (fun _ _ _ _ _ => c_nil) (fun _ _ _ _ _ => (j_ix ix_seq s_ix (fun _ _ => rfl) (j_var (pv 1)) (j_var (pv 2)))) (by decide)) ja_nil)))
      ss_nil)
def b_is_test : Sv := (sSeq (sIf (bOr (bNot (bE (fCall [] h_is_pair [(.val (fVar 1))]))) (bOr (bNot (bE (fCall [] h_is_lot [(.val (fN gIx [(.val (fVar 1)), (.val (fK (.int 0)))])), (.val (fN gLen [(.val (fVar 0))]))]))) (bE (fN gGt [(.val (fN gLen [(.val (fN gIx [(.val (fVar 1)), (.val (fK (.int 0)))]))])), (.val (fK (.int 3)))])))) (sSeq (sRet (fK (.bl false)))
    sNil) sNil)
    (sSeq (sRet (fCall [] h_is_content [(.val (fCall [] h_sizes_at [(.val (fVar 0)), (.val (fN gIx [(.val (fVar 1)), (.val (fK (.int 0)))]))])), (.val (fN gIx [(.val (fVar 1)), (.val (fK (.int 1)))]))]))
    sNil))
def h_is_test : List D → Rf := runB 2 [] b_is_test
theorem ok_is_test (T : Txt K mg cl) : FnD P w K mg base cl "is_test" 4 2 [] h_is_test := by
  obtain ⟨f, fd, gm, F, hb⟩ := T.F_is_test
  refine def_ok (k := 3) F sc_is_test gm hb (by decide) (by decide) (by decide) fun cdv A outer s H E hr tk hp => ?_
  have nd : N_is_test.Nodup := by decide +kernel
  exact (ss_cons (s_if (PW.pt (t_or (t_not (t_e (j_call (ok_is_pair T) tk hr (by decide) rfl (ja_cons (o1 := .val _) (j_var (pv 1)) ja_nil)))) (t_or (t_not (t_e (j_call (ok_is_lot T) tk hr (by decide) rfl (ja_cons (o1 := .val _) (j_ix ix_seq s_ix (fun _ _ => rfl) (j_var (pv 1)) j_int) (ja_cons (o1 := .val _) (j_callB cr_len s_len T.z_len (by decide +kernel) (ja_cons (j_var (pv 0)) ja_nil)) ja_nil))))) (t_or1 (t_cmp op_gtA s_gt (fun _ _ z => cmp_bl z) (nomark _) (j_callB cr_len s_len T.z_len (by decide +kernel) (ja_cons (j_ix ix_seq s_ix (fun _ _ => rfl) (j_var (pv 1)) j_int) ja_nil)) (j_gint T.c_MOST_LOOKED.choose_spec)))))) (ss_cons (s_ret j_bl)
      ss_nil) ss_nil)
      (ss_cons (s_ret (j_call (ok_is_content T) tk hr (by decide) rfl (ja_cons (o1 := .val _) (j_call (ok_sizes_at T) tk hr (by decide) rfl (ja_cons (o1 := .val _) (j_var (pv 0)) (ja_cons (o1 := .val _) (j_ix ix_seq s_ix (fun _ _ => rfl) (j_var (pv 1)) j_int) ja_nil))) (ja_cons (o1 := .val _) (j_ix ix_seq s_ix (fun _ _ => rfl) (j_var (pv 1)) j_int) ja_nil))))
      ss_nil))
def b_is_statement : Sv := (sSeq (sIf (bOr (bNot (bE (fN (gIsi isa) [(.val (fVar 1)), (.val (fK (.ty "tuple")))]))) (bOr (bE (fN gLt [(.val (fN gLen [(.val (fVar 1))])), (.val (fK (.int 2)))])) (bNot (bE (fN (gIsi isa) [(.val (fN gIx [(.val (fVar 1)), (.val (fK (.int 0)))])), (.val (fK (.ty "str")))]))))) (sSeq (sRet (fK (.bl false)))
    sNil) sNil)
    (sSeq (sIf (bE (fN gEq [(.val (fN gIx [(.val (fVar 1)), (.val (fK (.int 0)))])), (.val (fK (.str "skip")))])) (sSeq (sRet (fAnd (fN gEq [(.val (fN gLen [(.val (fVar 1))])), (.val (fK (.int 3)))]) (fAnd (fCall [] h_is_within [(.val (fN gIx [(.val (fVar 1)), (.val (fK (.int 1)))])), (.val (fK (.int 1))), (.val (fK (.int 2)))]) (fCall [] h_is_test [(.val (fVar 0)), (.val (fN gIx [(.val (fVar 1)), (.val (fK (.int 2)))]))]))))
    sNil) sNil)
    (sSeq (sIf (bE (fN gEq [(.val (fN gIx [(.val (fVar 1)), (.val (fK (.int 0)))])), (.val (fK (.str "deed")))])) (sSeq (sRet (fAnd (fN gEq [(.val (fN gLen [(.val (fVar 1))])), (.val (fK (.int 2)))]) (fCall [] h_is_name [(.val (fN gIx [(.val (fVar 1)), (.val (fK (.int 1)))]))])))
    sNil) sNil)
    (sSeq (sRet (fAnd (fN gIn [(.val (fN gIx [(.val (fVar 1)), (.val (fK (.int 0)))])), (.val (fK (.tup [(.str "set"), (.str "clear"), (.str "turn")])))]) (fAnd (fN gEq [(.val (fN gLen [(.val (fVar 1))])), (.val (fK (.int 2)))]) (fCall [] h_is_test [(.val (fVar 0)), (.val (fN gIx [(.val (fVar 1)), (.val (fK (.int 1)))]))]))))
    sNil))))
def h_is_statement : List D → Rf := runB 2 [] b_is_statement
theorem ok_is_statement (T : Txt K mg cl) : FnD P w K mg base cl "is_statement" 5 2 [] h_is_statement := by
  obtain ⟨f, fd, gm, F, hb⟩ := T.F_is_statement
  refine def_ok (k := 4) F sc_is_statement gm hb (by decide) (by decide) (by decide) fun cdv A outer s H E hr tk hp => ?_
  have nd : N_is_statement.Nodup := by decide +kernel
  exact (ss_cons (s_if (PW.pt (t_or (t_not (t_e (j_callB call_isi (s_isi T.isa) T.z_isinstance (by decide +kernel) (ja_cons (j_var (pv 1)) (ja_cons (j_ty T.z_tuple (by decide +kernel)) ja_nil))))) (t_or (t_cmp op_ltA s_lt (fun _ _ z => cmp_bl z) (nomark _) (j_callB cr_len s_len T.z_len (by decide +kernel) (ja_cons (j_var (pv 1)) ja_nil)) j_int) (t_or1 (t_not (t_e (j_callB call_isi (s_isi T.isa) T.z_isinstance (by decide +kernel) (ja_cons (j_ix ix_seq s_ix (fun _ _ => rfl) (j_var (pv 1)) j_int) (ja_cons (j_ty T.z_str (by decide +kernel)) ja_nil))))))))) (ss_cons (s_ret j_bl)
      ss_nil) ss_nil)
      (ss_cons (s_if (t_cmp (op_eqD hr.units) s_eq (fun _ _ z => eq_bl z) (nomark _) (j_ix ix_seq s_ix (fun _ _ => rfl) (j_var (pv 1)) j_int) j_str) (ss_cons (s_ret (j_and (j_cmp (op_eqD hr.units) s_eq (nomark _) (j_callB cr_len s_len T.z_len (by decide +kernel) (ja_cons (j_var (pv 1)) ja_nil)) j_int) (j_and (j_call (ok_is_within T) tk hr (by decide) rfl (ja_cons (o1 := .val _) (j_ix ix_seq s_ix (fun _ _ => rfl) (j_var (pv 1)) j_int) (ja_cons (o1 := .val _) j_int (ja_cons (o1 := .val _) j_int ja_nil)))) (j_one (j_call (ok_is_test T) tk hr (by decide) rfl (ja_cons (o1 := .val _) (j_var (pv 0)) (ja_cons (o1 := .val _) (j_ix ix_seq s_ix (fun _ _ => rfl) (j_var (pv 1)) j_int) ja_nil)))))))
      ss_nil) ss_nil)
      (ss_cons (s_if (t_cmp (op_eqD hr.units) s_eq (fun _ _ z => eq_bl z) (nomark _) (j_ix ix_seq s_ix (fun _ _ => rfl) (j_var (pv 1)) j_int) j_str) (ss_cons (s_ret (j_and (j_cmp (op_eqD hr.units) s_eq (nomark _) (j_callB cr_len s_len T.z_len (by decide +kernel) (ja_cons (j_var (pv 1)) ja_nil)) j_int) (j_one (j_call (ok_is_name T) tk hr (by decide) rfl (ja_cons (o1 := .val _) (j_ix ix_seq s_ix (fun _ _ => rfl) (j_var (pv 1)) j_int) ja_nil)))))
      ss_nil) ss_nil)
      (ss_cons (s_ret (j_and (j_cmp op_inA s_in (by rfl) (j_ix ix_seq s_ix (fun _ _ => rfl) (j_var (pv 1)) j_int) (j_gcon T.c_CHANGES)) (j_and (j_cmp (op_eqD hr.units) s_eq (nomark _) (j_callB cr_len s_len T.z_len (by decide +kernel) (ja_cons (j_var (pv 1)) ja_nil)) j_int) (j_one (j_call (ok_is_test T) tk hr (by decide) rfl (ja_cons (o1 := .val _) (j_var (pv 0)) (ja_cons (o1 := .val _) (j_ix ix_seq s_ix (fun _ _ => rfl) (j_var (pv 1)) j_int) ja_nil)))))))
      ss_nil))))
def b_shows : Sv := (sSeq (sRet (fN gEq [(.val (fCall [] h_joint_of [(.val (fN gIx [(.val (fVar 1)), (.val (fK (.int 0)))])), (.val (fVar 0))])), (.val (fN gIx [(.val (fVar 1)), (.val (fK (.int 1)))]))]))
    sNil)
def h_shows : List D → Rf := runB 2 [] b_shows
theorem ok_shows (T : Txt K mg cl) : FnD P w K mg base cl "shows" 2 2 [] h_shows := by
  obtain ⟨f, fd, gm, F, hb⟩ := T.F_shows
  refine def_ok (k := 1) F sc_shows gm hb (by decide) (by decide) (by decide) fun cdv A outer s H E hr tk hp => ?_
  have nd : N_shows.Nodup := by decide +kernel
  exact (ss_cons (s_ret (j_cmp (op_eqD hr.units) s_eq (nomark _) (j_call (ok_joint_of T) tk hr (by decide) rfl (ja_cons (o1 := .val _) (j_ix ix_seq s_ix (fun _ _ => rfl) (j_var (pv 1)) j_int) (ja_cons (o1 := .val _) (j_var (pv 0)) ja_nil))) (j_ix ix_seq s_ix (fun _ _ => rfl) (j_var (pv 1)) j_int)))
      ss_nil)
def b_changed : Sv := (sSeq (sRet (fIf (bE (fN gEq [(.val (fVar 1)), (.val (fK (.str "turn")))])) (fNot (fVar 0)) (fN gEq [(.val (fVar 1)), (.val (fK (.str "set")))])))
    sNil)
def h_changed : List D → Rf := runB 2 [] b_changed
theorem ok_changed (T : Txt K mg cl) : FnD P w K mg base cl "changed" 1 2 [] h_changed := by
  obtain ⟨f, fd, gm, F, hb⟩ := T.F_changed
  refine def_ok (k := 0) F sc_changed gm hb (by decide) (by decide) (by decide) fun cdv A outer s H E hr tk hp => ?_
  have nd : N_changed.Nodup := by decide +kernel
  exact (ss_cons (s_ret (j_if (t_cmp (op_eqD hr.units) s_eq (fun _ _ z => eq_bl z) (nomark _) (j_var (pv 1)) j_str) (j_not (j_var (pv 0))) (j_cmp (op_eqD hr.units) s_eq (nomark _) (j_var (pv 1)) j_str)))
      ss_nil)
def b_Run_init : Sv := (sSeq (sFSet 0 own_content "content" (fVar 1))
    (sSeq (sFSet 0 own_flag "flag" (fK (.bl false)))
    (sSeq (sFSet 0 own_left "left" (fK (.int 0)))
    (sSeq (sFSet 0 own_names "names" (fLst []))
    sNil))))
def h_Run_init : List D → Rf := runB 2 [0] b_Run_init
theorem ok_Run_init (T : Txt K mg cl) {f : Addr} (M : IsM K f "__init__" "Run.__init__" s_Run_init ["self", "content"]) : FnM P w K mg base cl f 1 2 [0] h_Run_init := by
  obtain ⟨fd, F, hb⟩ := M
  refine meth_ok (k := 0) F sc_Run_init hb (by decide) (by decide) (by decide) fun cdv A outer s H E hr tk hp => ?_
  have nd : N_Run_init.Nodup := by decide +kernel
  exact (ss_cons (s_fset (i := 0) T.f_content (pv 0) (j_var (pv 1)))
      (ss_cons (s_fset (i := 0) T.f_flag (pv 0) j_bl)
      (ss_cons (s_fset (i := 0) T.f_left (pv 0) j_int)
      (ss_cons (s_fset (i := 0) T.f_names (pv 0) (j_lst (fs := []) ja_nil))
      ss_nil))))
theorem mk_Run (T : Txt K mg cl) : mg "Run" = some (.ref (cl 1)) ∧ ∃ f, Mk K (cl 1) f ∧ ∃ fd ps, Binds K fd ps [] ∧ FnOk P w K mg base (L2.CX P w) 1 f fd ps (spD K cl 2 [0] h_Run_init) := by
  obtain ⟨f, M, I⟩ := T.F_Run_init
  obtain ⟨fd, ps, hb, F⟩ := ok_Run_init (P := P) (w := w) (base := base) T I
  exact ⟨T.k_Run, f, M, fd, ps, hb, F⟩
def b_Run_step : Sv := (sSeq (sIf (bE (fN gGt [(.val (fN (gFld own_left "left") [(.slot 0)])), (.val (fK (.int 0)))])) (sSeq (sFAug 0 own_left "left" gSub (fK (.int 1)))
    (sSeq (sRet (fK (.bl true)))
    sNil)) sNil)
    (sSeq (sAsg (bNm 2) (fN gIx [(.val (fVar 1)), (.val (fK (.int 0)))]))
    (sSeq (sIf (bE (fN gEq [(.val (fVar 2)), (.val (fK (.str "deed")))])) (sSeq (sIf (bE (fN (gFld own_flag "flag") [(.slot 0)])) (sSeq (sExpr (fMtF1 0 own_names "names" gAppend (fN gIx [(.val (fVar 1)), (.val (fK (.int 1)))])))
    sNil) sNil)
    sNil) (sSeq (sIf (bE (fCall [] h_shows [(.val (fN (gFld own_content "content") [(.slot 0)])), (.val (fN gIx [(.val (fVar 1)), (.val (fN gNeg [(.val (fK (.int 1)))]))]))])) (sSeq (sIf (bE (fN gEq [(.val (fVar 2)), (.val (fK (.str "skip")))])) (sSeq (sFSet 0 own_left "left" (fN gIx [(.val (fVar 1)), (.val (fK (.int 1)))]))
    sNil) (sSeq (sFSet 0 own_flag "flag" (fCall [] h_changed [(.val (fN (gFld own_flag "flag") [(.slot 0)])), (.val (fVar 2))]))
    sNil))
    sNil) sNil)
    sNil))
    (sSeq (sRet (fK (.bl false)))
    sNil))))
def h_Run_step : List D → Rf := runB 3 [0] b_Run_step
theorem ok_Run_step (T : Txt K mg cl) {f : Addr} (M : IsM K f "step" "Run.step" s_Run_step ["self", "statement"]) : FnM P w K mg base cl f 3 2 [0] h_Run_step := by
  obtain ⟨fd, F, hb⟩ := M
  refine meth_ok (k := 2) F sc_Run_step hb (by decide) (by decide) (by decide) fun cdv A outer s H E hr tk hp => ?_
  have nd : N_Run_step.Nodup := by decide +kernel
  exact (ss_cons (s_if (t_cmp op_gtA s_gt (fun _ _ z => cmp_bl z) (nomark _) (j_fld T.f_left (pv 0)) j_int) (ss_cons (s_faug (i := 0) T.f_left iop_sub s_sub (pv 0) j_int)
      (ss_cons (s_ret j_bl)
      ss_nil)) ss_nil)
      (ss_cons (s_set (i := 2) nd (j_ix ix_seq s_ix (fun _ _ => rfl) (j_var (pv 1)) j_int))
      (ss_cons (s_if (t_cmp (op_eqD hr.units) s_eq (fun _ _ z => eq_bl z) (nomark _) (j_var (pv 2)) j_str) (ss_cons (s_if (t_e (j_fld T.f_flag (pv 0))) (ss_cons (s_expr (jf_append T.f_names (pv 0) (ja_cons (o1 := .val _) (j_ix ix_seq s_ix (fun _ _ => rfl) (j_var (pv 1)) j_int) ja_nil)))
      ss_nil) ss_nil)
      ss_nil) (ss_cons (s_if (t_e (j_call (ok_shows T) tk hr (by decide) rfl (ja_cons (o1 := .val _) (j_fld T.f_content (pv 0)) (ja_cons (o1 := .val _) (j_ix ix_seq s_ix (fun _ _ => rfl) (j_var (pv 1)) (j_un un_neg s_neg j_int)) ja_nil)))) (ss_cons (s_if (t_cmp (op_eqD hr.units) s_eq (fun _ _ z => eq_bl z) (nomark _) (j_var (pv 2)) j_str) (ss_cons (s_fset (i := 0) T.f_left (pv 0) (j_ix ix_seq s_ix (fun _ _ => rfl) (j_var (pv 1)) j_int))
      ss_nil) (ss_cons (s_fset (i := 0) T.f_flag (pv 0) (j_call (ok_changed T) tk hr (by decide) rfl (ja_cons (o1 := .val _) (j_fld T.f_flag (pv 0)) (ja_cons (o1 := .val _) (j_var (pv 2)) ja_nil))))
      ss_nil))
      ss_nil) ss_nil)
      ss_nil))
      (ss_cons (s_ret j_bl)
      ss_nil))))
theorem mt_Run_step (T : Txt K mg cl) : ∃ f, Meth K (cl 1) "step" f ∧ FnM P w K mg base cl f 3 2 [0] h_Run_step := by
  obtain ⟨f, M, I⟩ := T.F_Run_step
  exact ⟨f, M, ok_Run_step T I⟩
abbrev l_run_of_1 : Sv := (sSeq (sExpr (fMeth 2 1 "step" [0] h_Run_step [(.val (fVar 3))]))
    sNil)
def b_run_of : Sv := (sSeq (sAsg (bNm 2) (fMake 1 h_Run_init [(fVar 1)]))
    (sSeq (sFor (iSeq (fN (gFld own_statements "statements") [(.val (fVar 0))])) (bNm 3) l_run_of_1)
    (sSeq (sRet (fMove 2))
    sNil)))
def h_run_of : List D → Rf := runB 4 [] b_run_of
theorem ok_run_of (T : Txt K mg cl) : FnD P w K mg base cl "run_of" 4 2 [] h_run_of := by
  obtain ⟨f, fd, gm, F, hb⟩ := T.F_run_of
  refine def_ok (k := 3) F sc_run_of gm hb (by decide) (by decide) (by decide) fun cdv A outer s H E hr tk hp => ?_
  have nd : N_run_of.Nodup := by decide +kernel
  exact (ss_cons (s_set (i := 2) nd (j_make (n := 1) (mk_Run T) tk hr (by decide) rfl (fun _ _ _ _ _ z => z) (ja_cons (o1 := .val _) (j_var (pv 1)) ja_nil)))
      (ss_cons (s_for hp rfl (i_seq (j_fld T.f_statements (j_var (pv 0)))) (g_nm nd (i := 3))
      (ss_cons (s_expr (j_meth (c := 1) (mt_Run_step T) T.kc_Run tk hr (by decide) rfl (fun _ _ _ _ _ z => z) (pv 2) (ja_cons (o1 := .val _) (j_var (pv 3)) ja_nil)))
      ss_nil))
      (ss_cons (s_ret (j_move (pv 2)))
      ss_nil)))
def b_run : Sv := (sSeq (sExpr (fCall [] h_check_content [(.val (fN (gFld own_sizes "sizes") [(.val (fVar 0))])), (.val (fVar 1))]))
    (sSeq (sAsg (bNm 2) (fCall [] h_run_of [(.val (fVar 0)), (.val (fVar 1))]))
    (sSeq (sRet (fTup [(fN (gFld own_flag "flag") [(.slot 2)]), (fFTk 2 own_names "names")]))
    sNil)))
def h_run : List D → Rf := runB 3 [] b_run
theorem ok_run (T : Txt K mg cl) : FnD P w K mg base cl "run" 5 2 [] h_run := by
  obtain ⟨f, fd, gm, F, hb⟩ := T.F_run
  refine def_ok (k := 4) F sc_run gm hb (by decide) (by decide) (by decide) fun cdv A outer s H E hr tk hp => ?_
  have nd : N_run.Nodup := by decide +kernel
  exact (ss_cons (s_expr (j_call (ok_check_content T) tk hr (by decide) rfl (ja_cons (o1 := .val _) (j_fld T.f_sizes (j_var (pv 0))) (ja_cons (o1 := .val _) (j_var (pv 1)) ja_nil))))
      (ss_cons (s_set (i := 2) nd (j_call (ok_run_of T) tk hr (by decide) rfl (ja_cons (o1 := .val _) (j_var (pv 0)) (ja_cons (o1 := .val _) (j_var (pv 1)) ja_nil))))
      (ss_cons (s_ret (j_tup (fs := [(fN (gFld own_flag "flag") [(.slot 2)]), (fFTk 2 own_names "names")]) (ja_cons (o1 := .val _) (j_fld T.f_flag (pv 2)) (ja_cons (o1 := .val _) (j_ftk T.f_names (pv 2)) ja_nil))))
      ss_nil)))
abbrev l_traced_1 : Sv := (sSeq (sAsg (bNm 5) (fMeth 2 1 "step" [0] h_Run_step [(.val (fVar 4))]))
    (sSeq (sExpr (fMt1 3 gAppend (fTup [(fN (gFld own_flag "flag") [(.slot 2)]), (fVar 5)])))
    sNil))
def b_traced : Sv := (sSeq (sExpr (fCall [] h_check_content [(.val (fN (gFld own_sizes "sizes") [(.val (fVar 0))])), (.val (fVar 1))]))
    (sSeq (sAsg (bNm 2) (fMake 1 h_Run_init [(fVar 1)]))
    (sSeq (sAsg (bNm 3) (fLst []))
    (sSeq (sFor (iSeq (fN (gFld own_statements "statements") [(.val (fVar 0))])) (bNm 4) l_traced_1)
    (sSeq (sRet (fMove 3))
    sNil)))))
def h_traced : List D → Rf := runB 6 [] b_traced
theorem ok_traced (T : Txt K mg cl) : FnD P w K mg base cl "traced" 5 2 [] h_traced := by
  obtain ⟨f, fd, gm, F, hb⟩ := T.F_traced
  refine def_ok (k := 4) F sc_traced gm hb (by decide) (by decide) (by decide) fun cdv A outer s H E hr tk hp => ?_
  have nd : N_traced.Nodup := by decide +kernel
  exact (ss_cons (s_expr (j_call (ok_check_content T) tk hr (by decide) rfl (ja_cons (o1 := .val _) (j_fld T.f_sizes (j_var (pv 0))) (ja_cons (o1 := .val _) (j_var (pv 1)) ja_nil))))
      (ss_cons (s_set (i := 2) nd (j_make (n := 1) (mk_Run T) tk hr (by decide) rfl (fun _ _ _ _ _ z => z) (ja_cons (o1 := .val _) (j_var (pv 1)) ja_nil)))
      (ss_cons (s_set (i := 3) nd (j_lst (fs := []) ja_nil))
      (ss_cons (s_for hp rfl (i_seq (j_fld T.f_statements (j_var (pv 0)))) (g_nm nd (i := 4))
      (ss_cons (s_set (i := 5) nd (j_meth (c := 1) (mt_Run_step T) T.kc_Run tk hr (by decide) rfl (fun _ _ _ _ _ z => z) (pv 2) (ja_cons (o1 := .val _) (j_var (pv 4)) ja_nil)))
      (ss_cons (s_expr (j_append (pv 3) (ja_cons (o1 := .val _) (j_tup (fs := [(fN (gFld own_flag "flag") [(.slot 2)]), (fVar 5)]) (ja_cons (o1 := .val _) (j_fld T.f_flag (pv 2)) (ja_cons (o1 := .val _) (j_var (pv 5)) ja_nil))) ja_nil)))
      ss_nil)))
      (ss_cons (s_ret (j_move (pv 3)))
      ss_nil)))))
abbrev c__law_hand_1 : Ev := (fN gAbs [(.val (fN gIntC [(.val (fVar 2))]))])
def b__law_hand : Sv := (sSeq (sAsg (bNm 1) (fComp [2] (iSeq (fSl (fVar 0) none (some (fK (.int 63))))) (bNm 2) bTrue c__law_hand_1))
    (sSeq (sRet (fLst [(fVar 1), (fK (.int 0)), (fK (.int 0)), (fN gAdd [(.val (fK (.int 1))), (.val (fN gLen [(.val (fVar 1))]))]), (fK (.int 0))]))
    sNil))
def h__law_hand : List D → Rf := runB 3 [] b__law_hand
theorem ok__law_hand (T : Txt K mg cl) : FnD P w K mg base cl "_law_hand" 1 1 [] h__law_hand := by
  obtain ⟨f, fd, gm, F, hb⟩ := T.F__law_hand
  refine def_ok (k := 0) F sc__law_hand gm hb (by decide) (by decide) (by decide) fun cdv A outer s H E hr tk hp => ?_
  have nd : N__law_hand.Nodup := by decide +kernel
  exact (ss_cons (s_setLc (i := 1) (own := [("cell", 2)]) rfl nd rfl rfl (sw_true rfl rfl rfl rfl) (i_seq (j_sl (j_var (pv 0)) part_none (part_some j_int))) (blkOk_by (own := [("cell", 2)]) (N := N__law_hand) (sc := defScope s__law_hand) (by decide +kernel)) (fun _ _ _ _ _ => (g_nm nd (i := 2))) (fun _ _ _ _ _ => c_nil) (fun _ _ _ _ _ => (j_callB call_abs s_abs T.z_abs (by decide +kernel) (ja_cons (j_callTy call_int1 s_intC T.z_int (by decide +kernel) (ja_cons (j_var (pv 2)) ja_nil)) ja_nil))) (by decide))
      (ss_cons (s_ret (j_lst (fs := [(fVar 1), (fK (.int 0)), (fK (.int 0)), (fN gAdd [(.val (fK (.int 1))), (.val (fN gLen [(.val (fVar 1))]))]), (fK (.int 0))]) (ja_cons (o1 := .val _) (j_var (pv 1)) (ja_cons (o1 := .val _) j_int (ja_cons (o1 := .val _) j_int (ja_cons (o1 := .val _) (j_bin op_addAll s_add j_int (j_callB cr_len s_len T.z_len (by decide +kernel) (ja_cons (j_var (pv 1)) ja_nil))) (ja_cons (o1 := .val _) j_int ja_nil)))))))
      ss_nil))
def b__law_draw : Sv := (sSeq (sIf (bAnd (bE (fN gEq [(.val (fN gIx [(.slot 0), (.val (fK (.int 2)))])), (.val (fK (.int 0)))])) (bE (fN gLt [(.val (fN gIx [(.slot 0), (.val (fK (.int 1)))])), (.val (fN gLen [(.val (fN gIx [(.slot 0), (.val (fK (.int 0)))]))]))]))) (sSeq (sAsg (bNm 2) (fN gIx [(.val (fN gIx [(.slot 0), (.val (fK (.int 0)))])), (.val (fN gIx [(.slot 0), (.val (fK (.int 1)))]))]))
    (sSeq (sStore 0 (fK (.int 1)) (fN gAdd [(.val (fN gIx [(.slot 0), (.val (fK (.int 1)))])), (.val (fK (.int 1)))]))
    (sSeq (sStore 0 (fK (.int 3)) (fN gMod [(.val (fN gIntC [(.val (fN gAdd [(.val (fN gAdd [(.val (fN gMul [(.val (fN gIx [(.slot 0), (.val (fK (.int 3)))])), (.val (fK (.int 69621)))])), (.val (fVar 2))])), (.val (fK (.int 11)))]))])), (.val (fK (.int 2147483629)))]))
    (sSeq (sIf (bE (fN gGe [(.val (fVar 2)), (.val (fN gPow [(.val (fK (.int 10))), (.val (fK (.int 18)))]))])) (sSeq (sStore 0 (fK (.int 2)) (fVar 2))
    sNil) sNil)
    sNil)))) sNil)
    (sSeq (sIf (bE (fN gGt [(.val (fN gIx [(.slot 0), (.val (fK (.int 2)))])), (.val (fK (.int 0)))])) (sSeq (sAsg (bNm 3) (fN gMod [(.val (fN gIntC [(.val (fN gIx [(.slot 0), (.val (fK (.int 2)))]))])), (.val (fVar 1))]))
    (sSeq (sStore 0 (fK (.int 2)) (fN gFdiv [(.val (fN gIx [(.slot 0), (.val (fK (.int 2)))])), (.val (fVar 1))]))
    (sSeq (sRet (fMove 3))
    sNil))) sNil)
    (sSeq (sStore 0 (fK (.int 4)) (fN gAdd [(.val (fN gIx [(.slot 0), (.val (fK (.int 4)))])), (.val (fK (.int 1)))]))
    (sSeq (sAsg (bNm 4) (fN gMod [(.val (fN gIntC [(.val (fN gMul [(.val (fN gIntC [(.val (fN gAdd [(.val (fN gIx [(.slot 0), (.val (fK (.int 3)))])), (.val (fN gMul [(.val (fK (.int 7919))), (.val (fN gIx [(.slot 0), (.val (fK (.int 4)))]))]))]))])), (.val (fK (.int 48271)))]))])), (.val (fK (.int 2147483647)))]))
    (sSeq (sAsg (bNm 4) (fN gMod [(.val (fN gIntC [(.val (fN gMul [(.val (fVar 4)), (.val (fN gAdd [(.val (fN gFdiv [(.val (fVar 4)), (.val (fK (.int 1009)))])), (.val (fK (.int 69621)))]))]))])), (.val (fK (.int 2147483647)))]))
    (sSeq (sAsg (bNm 4) (fN gMod [(.val (fN gIntC [(.val (fN gMul [(.val (fVar 4)), (.val (fN gAdd [(.val (fN gFdiv [(.val (fVar 4)), (.val (fK (.int 2003)))])), (.val (fK (.int 40692)))]))]))])), (.val (fK (.int 2147483399)))]))
    (sSeq (sRet (fN gMod [(.val (fN gIntC [(.val (fN gFdiv [(.val (fVar 4)), (.val (fK (.int 16)))]))])), (.val (fVar 1))]))
    sNil)))))))
def h__law_draw : List D → Rf := runB 5 [0] b__law_draw
theorem ok__law_draw (T : Txt K mg cl) : FnD P w K mg base cl "_law_draw" 1 2 [0] h__law_draw := by
  obtain ⟨f, fd, gm, F, hb⟩ := T.F__law_draw
  refine def_ok (k := 0) F sc__law_draw gm hb (by decide) (by decide) (by decide) fun cdv A outer s H E hr tk hp => ?_
  have nd : N__law_draw.Nodup := by decide +kernel
  exact (ss_cons (s_if (PW.pt (t_and (t_cmp (op_eqD hr.units) s_eq (fun _ _ z => eq_bl z) (nomark _) (j_ix ix_seq s_ix (fun _ _ => rfl) (pv 0) j_int) j_int) (t_and1 (t_cmp op_ltA s_lt (fun _ _ z => cmp_bl z) (nomark _) (j_ix ix_seq s_ix (fun _ _ => rfl) (pv 0) j_int) (j_callB cr_len s_len T.z_len (by decide +kernel) (ja_cons (j_ix ix_seq s_ix (fun _ _ => rfl) (pv 0) j_int) ja_nil)))))) (ss_cons (s_set (i := 2) nd (j_ix ix_seq s_ix (fun _ _ => rfl) (j_ix ix_seq s_ix (fun _ _ => rfl) (pv 0) j_int) (j_ix ix_seq s_ix (fun _ _ => rfl) (pv 0) j_int)))
      (ss_cons (s_store (i := 0) (pg_sub (pv 0) j_int set_list) (j_bin op_addAll s_add (j_ix ix_seq s_ix (fun _ _ => rfl) (pv 0) j_int) j_int))
      (ss_cons (s_store (i := 0) (pg_sub (pv 0) j_int set_list) (j_bin op_modN s_mod (j_callTy call_int1 s_intC T.z_int (by decide +kernel) (ja_cons (j_bin op_addAll s_add (j_bin op_addAll s_add (j_bin op_mulAll s_mul (j_ix ix_seq s_ix (fun _ _ => rfl) (pv 0) j_int) j_int) (j_var (pv 2))) j_int) ja_nil)) j_int))
      (ss_cons (s_if (t_cmp op_geA s_ge (fun _ _ z => cmp_bl z) (nomark _) (j_var (pv 2)) (j_bin op_pow s_pow j_int j_int)) (ss_cons (s_store (i := 0) (pg_sub (pv 0) j_int set_list) (j_var (pv 2)))
      ss_nil) ss_nil)
      ss_nil)))) ss_nil)
      (ss_cons (s_if (t_cmp op_gtA s_gt (fun _ _ z => cmp_bl z) (nomark _) (j_ix ix_seq s_ix (fun _ _ => rfl) (pv 0) j_int) j_int) (ss_cons (s_set (i := 3) nd (j_bin op_modN s_mod (j_callTy call_int1 s_intC T.z_int (by decide +kernel) (ja_cons (j_ix ix_seq s_ix (fun _ _ => rfl) (pv 0) j_int) ja_nil)) (j_var (pv 1))))
      (ss_cons (s_store (i := 0) (pg_sub (pv 0) j_int set_list) (j_bin op_fdivN s_fdiv (j_ix ix_seq s_ix (fun _ _ => rfl) (pv 0) j_int) (j_var (pv 1))))
      (ss_cons (s_ret (j_move (pv 3)))
      ss_nil))) ss_nil)
      (ss_cons (s_store (i := 0) (pg_sub (pv 0) j_int set_list) (j_bin op_addAll s_add (j_ix ix_seq s_ix (fun _ _ => rfl) (pv 0) j_int) j_int))
      (ss_cons (s_set (i := 4) nd (j_bin op_modN s_mod (j_callTy call_int1 s_intC T.z_int (by decide +kernel) (ja_cons (j_bin op_mulAll s_mul (j_callTy call_int1 s_intC T.z_int (by decide +kernel) (ja_cons (j_bin op_addAll s_add (j_ix ix_seq s_ix (fun _ _ => rfl) (pv 0) j_int) (j_bin op_mulAll s_mul j_int (j_ix ix_seq s_ix (fun _ _ => rfl) (pv 0) j_int))) ja_nil)) j_int) ja_nil)) j_int))
      (ss_cons (s_set (i := 4) nd (j_bin op_modN s_mod (j_callTy call_int1 s_intC T.z_int (by decide +kernel) (ja_cons (j_bin op_mulAll s_mul (j_var (pv 4)) (j_bin op_addAll s_add (j_bin op_fdivN s_fdiv (j_var (pv 4)) j_int) j_int)) ja_nil)) j_int))
      (ss_cons (s_set (i := 4) nd (j_bin op_modN s_mod (j_callTy call_int1 s_intC T.z_int (by decide +kernel) (ja_cons (j_bin op_mulAll s_mul (j_var (pv 4)) (j_bin op_addAll s_add (j_bin op_fdivN s_fdiv (j_var (pv 4)) j_int) j_int)) ja_nil)) j_int))
      (ss_cons (s_ret (j_bin op_modN s_mod (j_callTy call_int1 s_intC T.z_int (by decide +kernel) (ja_cons (j_bin op_fdivN s_fdiv (j_var (pv 4)) j_int) ja_nil)) (j_var (pv 1))))
      ss_nil)))))))
def b__law_any : Sv := (sSeq (sRet (fN gIx [(.val (fVar 1)), (.val (fCall [0] h__law_draw [(.slot 0), (.val (fN gLen [(.val (fVar 1))]))]))]))
    sNil)
def h__law_any : List D → Rf := runB 2 [0] b__law_any
theorem ok__law_any (T : Txt K mg cl) : FnD P w K mg base cl "_law_any" 2 2 [0] h__law_any := by
  obtain ⟨f, fd, gm, F, hb⟩ := T.F__law_any
  refine def_ok (k := 1) F sc__law_any gm hb (by decide) (by decide) (by decide) fun cdv A outer s H E hr tk hp => ?_
  have nd : N__law_any.Nodup := by decide +kernel
  exact (ss_cons (s_ret (j_ix ix_seq s_ix (fun _ _ => rfl) (j_var (pv 1)) (j_call (ok__law_draw T) tk hr (by decide) rfl (ja_cons (o1 := .slot _) (pv 0) (ja_cons (o1 := .val _) (j_callB cr_len s_len T.z_len (by decide +kernel) (ja_cons (j_var (pv 1)) ja_nil)) ja_nil)))))
      ss_nil)
abbrev c__law_all_1 : Ev := (fN gAdd [(.val (fVar 4)), (.val (fTup [(fVar 5)]))])
abbrev l__law_all_1 : Sv := (sSeq (sExpr (fMt1 3 gExtend (fComp [5] (iRng [(fVar 2)]) (bNm 5) bTrue c__law_all_1)))
    sNil)
abbrev l__law_all_2 : Sv := (sSeq (sAsg (bNm 3) (fLst []))
    (sSeq (sFor (iSeq (fVar 1)) (bNm 4) l__law_all_1)
    (sSeq (sAsg (bNm 1) (fVar 3))
    sNil)))
def b__law_all : Sv := (sSeq (sAsg (bNm 1) (fLst [(fTup [])]))
    (sSeq (sFor (iSeq (fVar 0)) (bNm 2) l__law_all_2)
    (sSeq (sRet (fMove 1))
    sNil)))
def h__law_all : List D → Rf := runB 6 [] b__law_all
theorem ok__law_all (T : Txt K mg cl) : FnD P w K mg base cl "_law_all" 1 1 [] h__law_all := by
  obtain ⟨f, fd, gm, F, hb⟩ := T.F__law_all
  refine def_ok (k := 0) F sc__law_all gm hb (by decide) (by decide) (by decide) fun cdv A outer s H E hr tk hp => ?_
  have nd : N__law_all.Nodup := by decide +kernel
  exact (ss_cons (s_set (i := 1) nd (j_lst (fs := [(fTup [])]) (ja_cons (o1 := .val _) (j_tup (fs := []) ja_nil) ja_nil)))
      (ss_cons (s_for hp rfl (i_seq (j_var (pv 0))) (g_nm nd (i := 2))
      (ss_cons (s_set (i := 3) nd (j_lst (fs := []) ja_nil))
      (ss_cons (s_for hp rfl (i_seq (j_var (pv 1))) (g_nm nd (i := 4))
      (ss_cons (s_expr (j_extend (pv 3) (ja_cons (o1 := .val _) (j_comp (own := [("worth", 5)]) rfl nd (i_rng1 T.z_range (ja_cons (o1 := .val _) (j_var (pv 2)) ja_nil)) (blkOk_by (own := [("worth", 5)]) (N := N__law_all) (sc := defScope s__law_all) (by decide +kernel)) (fun _ _ _ _ _ => (g_nm nd (i := 5))) (fun _ _ _ _ _ => c_nil) (fun _ _ _ _ _ => (j_bin op_addAll s_add (j_var (pv 4)) (j_tup (fs := [(fVar 5)]) (ja_cons (o1 := .val _) (j_var (pv 5)) ja_nil)))) (by decide)) ja_nil)))
      ss_nil))
      (ss_cons (s_set (i := 1) nd (j_var (pv 3)))
      ss_nil))))
      (ss_cons (s_ret (j_move (pv 1)))
      ss_nil)))
abbrev l__law_sizes_1 : Sv := (sSeq (sAsg (bNm 6) (fN gAdd [(.val (fK (.int 2))), (.val (fCall [0] h__law_any [(.slot 0), (.val (fLst [(fK (.int 0)), (fK (.int 0)), (fK (.int 1)), (fK (.int 2))]))]))]))
    (sSeq (sIf (bE (fN gLe [(.val (fN gMul [(.val (fVar 4)), (.val (fVar 6))])), (.val (fVar 2))])) (sSeq (sPar 3 4 (fN gAdd [(.val (fVar 3)), (.val (fTup [(fVar 6)]))]) (fN gMul [(.val (fVar 4)), (.val (fVar 6))]))
    sNil) sNil)
    sNil))
def b__law_sizes : Sv := (sSeq (sAsg (bTp (bCons (bNm 3) (bCons (bNm 4) bNil))) (fTup [(fTup []), (fK (.int 1))]))
    (sSeq (sFor (iRng [(fN gAdd [(.val (fK (.int 1))), (.val (fCall [0] h__law_draw [(.slot 0), (.val (fVar 1))]))])]) (bNm 5) l__law_sizes_1)
    (sSeq (sRet (fMove 3))
    sNil)))
def h__law_sizes : List D → Rf := runB 7 [0] b__law_sizes
theorem ok__law_sizes (T : Txt K mg cl) : FnD P w K mg base cl "_law_sizes" 3 3 [0] h__law_sizes := by
  obtain ⟨f, fd, gm, F, hb⟩ := T.F__law_sizes
  refine def_ok (k := 2) F sc__law_sizes gm hb (by decide) (by decide) (by decide) fun cdv A outer s H E hr tk hp => ?_
  have nd : N__law_sizes.Nodup := by decide +kernel
  exact (ss_cons (s_asg (j_tup (fs := [(fTup []), (fK (.int 1))]) (ja_cons (o1 := .val _) (j_tup (fs := []) ja_nil) (ja_cons (o1 := .val _) j_int ja_nil))) (g_tp (n := 2) rfl (gs_cons (g_nm nd (i := 3)) (gs_cons (g_nm nd (i := 4)) gs_nil)) (fun _ _ _ z => bCons_len (fun _ _ _ z => bCons_len (fun _ _ _ z => bNil_len z) z) z)))
      (ss_cons (s_for hp rfl (i_rng1 T.z_range (ja_cons (o1 := .val _) (j_bin op_addAll s_add j_int (j_call (ok__law_draw T) tk hr (by decide) rfl (ja_cons (o1 := .slot _) (pv 0) (ja_cons (o1 := .val _) (j_var (pv 1)) ja_nil)))) ja_nil)) (g_nm nd (i := 5))
      (ss_cons (s_set (i := 6) nd (j_bin op_addAll s_add j_int (j_call (ok__law_any T) tk hr (by decide) rfl (ja_cons (o1 := .slot _) (pv 0) (ja_cons (o1 := .val _) (j_lst (fs := [(fK (.int 0)), (fK (.int 0)), (fK (.int 1)), (fK (.int 2))]) (ja_cons (o1 := .val _) j_int (ja_cons (o1 := .val _) j_int (ja_cons (o1 := .val _) j_int (ja_cons (o1 := .val _) j_int ja_nil))))) ja_nil)))))
      (ss_cons (s_if (t_cmp op_leA s_le (fun _ _ z => cmp_bl z) (nomark _) (j_bin op_mulAll s_mul (j_var (pv 4)) (j_var (pv 6))) (j_var (pv 2))) (ss_cons (s_par (i := 3) (j := 4) rfl nd (j_bin op_addAll s_add (j_var (pv 3)) (j_tup (fs := [(fVar 6)]) (ja_cons (o1 := .val _) (j_var (pv 6)) ja_nil))) (j_bin op_mulAll s_mul (j_var (pv 4)) (j_var (pv 6))))
      ss_nil) ss_nil)
      ss_nil)))
      (ss_cons (s_ret (j_move (pv 3)))
      ss_nil)))
abbrev l__law_lot_1 : Sv := (sSeq (sExpr (fMt1 4 gAppend (fMt1 3 gPopAt (fCall [0] h__law_draw [(.slot 0), (.val (fN gLen [(.slot 3)]))]))))
    sNil)
def b__law_lot : Sv := (sSeq (sPar 3 4 (fLRg false (fVar 1)) (fLst []))
    (sSeq (sFor (iRng [(fN gMin2 [(.val (fVar 1)), (.val (fCall [0] h__law_draw [(.slot 0), (.val (fN gAdd [(.val (fVar 2)), (.val (fK (.int 1)))]))]))])]) (bNm 5) l__law_lot_1)
    (sSeq (sRet (fN gTuple [(.val (fN gSorted2 [(.slot 4)]))]))
    sNil)))
def h__law_lot : List D → Rf := runB 6 [0] b__law_lot
theorem ok__law_lot (T : Txt K mg cl) : FnD P w K mg base cl "_law_lot" 2 3 [0] h__law_lot := by
  obtain ⟨f, fd, gm, F, hb⟩ := T.F__law_lot
  refine def_ok (k := 1) F sc__law_lot gm hb (by decide) (by decide) (by decide) fun cdv A outer s H E hr tk hp => ?_
  have nd : N__law_lot.Nodup := by decide +kernel
  exact (ss_cons (s_par (i := 3) (j := 4) rfl nd (j_listRg rfl T.z_list T.z_range (j_var (pv 1))) (j_lst (fs := []) ja_nil))
      (ss_cons (s_for hp rfl (i_rng1 T.z_range (ja_cons (o1 := .val _) (j_callB (call_min2 rfl) s_min2 T.z_min (by decide +kernel) (ja_cons (j_var (pv 1)) (ja_cons (j_call (ok__law_draw T) tk hr (by decide) rfl (ja_cons (o1 := .slot _) (pv 0) (ja_cons (o1 := .val _) (j_bin op_addAll s_add (j_var (pv 2)) j_int) ja_nil))) ja_nil))) ja_nil)) (g_nm nd (i := 5))
      (ss_cons (s_expr (j_append (pv 4) (ja_cons (o1 := .val _) (j_popAt (pv 3) (ja_cons (o1 := .val _) (j_call (ok__law_draw T) tk hr (by decide) rfl (ja_cons (o1 := .slot _) (pv 0) (ja_cons (o1 := .val _) (j_callB cr_len s_len T.z_len (by decide +kernel) (ja_cons (pv 3) ja_nil)) ja_nil))) ja_nil)) ja_nil)))
      ss_nil))
      (ss_cons (s_ret (j_callTy call_tupleF s_tuple T.z_tuple (by decide +kernel) (ja_cons (j_callB cr_sorted2 s_sorted2 T.z_sorted (by decide +kernel) (ja_cons (pv 4) ja_nil)) ja_nil)))
      ss_nil)))
abbrev c__law_joint_1 : Ev := (fN gIx [(.val (fVar 1)), (.val (fVar 2))])
def b__law_joint : Sv := (sSeq (sRet (fN gTuple [(.val (fComp [2] (iSeq (fVar 0)) (bNm 2) bTrue c__law_joint_1))]))
    sNil)
def h__law_joint : List D → Rf := runB 3 [] b__law_joint
theorem ok__law_joint (T : Txt K mg cl) : FnD P w K mg base cl "_law_joint" 1 2 [] h__law_joint := by
  obtain ⟨f, fd, gm, F, hb⟩ := T.F__law_joint
  refine def_ok (k := 0) F sc__law_joint gm hb (by decide) (by decide) (by decide) fun cdv A outer s H E hr tk hp => ?_
  have nd : N__law_joint.Nodup := by decide +kernel
  exact (ss_cons (s_ret (j_callTy call_tupleF s_tuple T.z_tuple (by decide +kernel) (ja_cons (j_comp (own := [("pin", 2)]) rfl nd (i_seq (j_var (pv 0))) (blkOk_by (own := [("pin", 2)]) (N := N__law_joint) (sc := defScope s__law_joint) (by decide +kernel)) (fun _ _ _ _ _ => (g_nm nd (i := 2))) (fun _ _ _ _ _ => c_nil) (fun _ _ _ _ _ => (j_ix ix_seq s_ix (fun _ _ => rfl) (j_var (pv 1)) (j_var (pv 2)))) (by decide)) ja_nil)))
      ss_nil)
abbrev c__law_test_1 : Ev := (fCall [0] h__law_draw [(.slot 0), (.val (fN gIx [(.val (fVar 1)), (.val (fVar 3))]))])
def b__law_test : Sv := (sSeq (sAsg (bNm 2) (fCall [0] h__law_lot [(.slot 0), (.val (fN gLen [(.val (fVar 1))])), (.val (fK (.int 3)))]))
    (sSeq (sRet (fTup [(fVar 2), (fN gTuple [(.val (fComp [3] (iSeq (fVar 2)) (bNm 3) bTrue c__law_test_1))])]))
    sNil))
def h__law_test : List D → Rf := runB 4 [0] b__law_test
theorem ok__law_test (T : Txt K mg cl) : FnD P w K mg base cl "_law_test" 3 2 [0] h__law_test := by
  obtain ⟨f, fd, gm, F, hb⟩ := T.F__law_test
  refine def_ok (k := 2) F sc__law_test gm hb (by decide) (by decide) (by decide) fun cdv A outer s H E hr tk hp => ?_
  have nd : N__law_test.Nodup := by decide +kernel
  exact (ss_cons (s_set (i := 2) nd (j_call (ok__law_lot T) tk hr (by decide) rfl (ja_cons (o1 := .slot _) (pv 0) (ja_cons (o1 := .val _) (j_callB cr_len s_len T.z_len (by decide +kernel) (ja_cons (j_var (pv 1)) ja_nil)) (ja_cons (o1 := .val _) j_int ja_nil)))))
      (ss_cons (s_ret (j_tup (fs := [(fVar 2), (fN gTuple [(.val (fComp [3] (iSeq (fVar 2)) (bNm 3) bTrue c__law_test_1))])]) (ja_cons (o1 := .val _) (j_var (pv 2)) (ja_cons (o1 := .val _) (j_callTy call_tupleF s_tuple T.z_tuple (by decide +kernel) (ja_cons (j_comp (own := [("pin", 3)]) rfl nd (i_seq (j_var (pv 2))) (blkOk_by (own := [("pin", 3)]) (N := N__law_test) (sc := defScope s__law_test) (by decide +kernel)) (fun _ _ _ _ _ => (g_nm nd (i := 3))) (fun _ _ _ _ _ => c_nil) (fun _ _ _ _ _ => (j_call (ok__law_draw T) takes0 hr (by decide) rfl (ja_cons (o1 := .slot _) (pv 0) (ja_cons (o1 := .val _) (j_ix ix_seq s_ix (fun _ _ => rfl) (j_var (pv 1)) (j_var (pv 3))) ja_nil)))) (by decide)) ja_nil)) ja_nil))))
      ss_nil))
def b__law_statement : Sv := (sSeq (sAsg (bNm 2) (fCall [0] h__law_draw [(.slot 0), (.val (fK (.int 10)))]))
    (sSeq (sIf (bE (fN gLt [(.val (fVar 2)), (.val (fK (.int 6)))])) (sSeq (sRet (fTup [(fN gIx [(.val (fLst [(fK (.str "set")), (fK (.str "clear")), (fK (.str "turn"))])), (.val (fN gFdiv [(.val (fVar 2)), (.val (fK (.int 2)))]))]), (fCall [0] h__law_test [(.slot 0), (.val (fVar 1))])]))
    sNil) sNil)
    (sSeq (sIf (bE (fN gLt [(.val (fVar 2)), (.val (fK (.int 8)))])) (sSeq (sRet (fTup [(fK (.str "skip")), (fN gAdd [(.val (fK (.int 1))), (.val (fCall [0] h__law_draw [(.slot 0), (.val (fK (.int 2)))]))]), (fCall [0] h__law_test [(.slot 0), (.val (fVar 1))])]))
    sNil) sNil)
    (sSeq (sRet (fTup [(fK (.str "deed")), (fCall [0] h__law_any [(.slot 0), (.val (fLst [(fK (.str "go")), (fK (.str "a")), (fK (.str "lamp")), (fK (.str "zzzzzzzz")), (fK (.str "set")), (fK (.str "b"))]))])]))
    sNil))))
def h__law_statement : List D → Rf := runB 3 [0] b__law_statement
theorem ok__law_statement (T : Txt K mg cl) : FnD P w K mg base cl "_law_statement" 4 2 [0] h__law_statement := by
  obtain ⟨f, fd, gm, F, hb⟩ := T.F__law_statement
  refine def_ok (k := 3) F sc__law_statement gm hb (by decide) (by decide) (by decide) fun cdv A outer s H E hr tk hp => ?_
  have nd : N__law_statement.Nodup := by decide +kernel
  exact (ss_cons (s_set (i := 2) nd (j_call (ok__law_draw T) tk hr (by decide) rfl (ja_cons (o1 := .slot _) (pv 0) (ja_cons (o1 := .val _) j_int ja_nil))))
      (ss_cons (s_if (t_cmp op_ltA s_lt (fun _ _ z => cmp_bl z) (nomark _) (j_var (pv 2)) j_int) (ss_cons (s_ret (j_tup (fs := [(fN gIx [(.val (fLst [(fK (.str "set")), (fK (.str "clear")), (fK (.str "turn"))])), (.val (fN gFdiv [(.val (fVar 2)), (.val (fK (.int 2)))]))]), (fCall [0] h__law_test [(.slot 0), (.val (fVar 1))])]) (ja_cons (o1 := .val _) (j_ix ix_seq s_ix (fun _ _ => rfl) (j_lst (fs := [(fK (.str "set")), (fK (.str "clear")), (fK (.str "turn"))]) (ja_cons (o1 := .val _) j_str (ja_cons (o1 := .val _) j_str (ja_cons (o1 := .val _) j_str ja_nil)))) (j_bin op_fdivN s_fdiv (j_var (pv 2)) j_int)) (ja_cons (o1 := .val _) (j_call (ok__law_test T) tk hr (by decide) rfl (ja_cons (o1 := .slot _) (pv 0) (ja_cons (o1 := .val _) (j_var (pv 1)) ja_nil))) ja_nil))))
      ss_nil) ss_nil)
      (ss_cons (s_if (t_cmp op_ltA s_lt (fun _ _ z => cmp_bl z) (nomark _) (j_var (pv 2)) j_int) (ss_cons (s_ret (j_tup (fs := [(fK (.str "skip")), (fN gAdd [(.val (fK (.int 1))), (.val (fCall [0] h__law_draw [(.slot 0), (.val (fK (.int 2)))]))]), (fCall [0] h__law_test [(.slot 0), (.val (fVar 1))])]) (ja_cons (o1 := .val _) j_str (ja_cons (o1 := .val _) (j_bin op_addAll s_add j_int (j_call (ok__law_draw T) tk hr (by decide) rfl (ja_cons (o1 := .slot _) (pv 0) (ja_cons (o1 := .val _) j_int ja_nil)))) (ja_cons (o1 := .val _) (j_call (ok__law_test T) tk hr (by decide) rfl (ja_cons (o1 := .slot _) (pv 0) (ja_cons (o1 := .val _) (j_var (pv 1)) ja_nil))) ja_nil)))))
      ss_nil) ss_nil)
      (ss_cons (s_ret (j_tup (fs := [(fK (.str "deed")), (fCall [0] h__law_any [(.slot 0), (.val (fLst [(fK (.str "go")), (fK (.str "a")), (fK (.str "lamp")), (fK (.str "zzzzzzzz")), (fK (.str "set")), (fK (.str "b"))]))])]) (ja_cons (o1 := .val _) j_str (ja_cons (o1 := .val _) (j_call (ok__law_any T) tk hr (by decide) rfl (ja_cons (o1 := .slot _) (pv 0) (ja_cons (o1 := .val _) (j_lst (fs := [(fK (.str "go")), (fK (.str "a")), (fK (.str "lamp")), (fK (.str "zzzzzzzz")), (fK (.str "set")), (fK (.str "b"))]) (ja_cons (o1 := .val _) j_str (ja_cons (o1 := .val _) j_str (ja_cons (o1 := .val _) j_str (ja_cons (o1 := .val _) j_str (ja_cons (o1 := .val _) j_str (ja_cons (o1 := .val _) j_str ja_nil))))))) ja_nil))) ja_nil))))
      ss_nil))))
def b__law_shows : Sv := (sSeq (sRet (fN gEq [(.val (fCall [] h__law_joint [(.val (fN gIx [(.val (fVar 1)), (.val (fK (.int 0)))])), (.val (fVar 0))])), (.val (fN gIx [(.val (fVar 1)), (.val (fK (.int 1)))]))]))
    sNil)
def h__law_shows : List D → Rf := runB 2 [] b__law_shows
theorem ok__law_shows (T : Txt K mg cl) : FnD P w K mg base cl "_law_shows" 2 2 [] h__law_shows := by
  obtain ⟨f, fd, gm, F, hb⟩ := T.F__law_shows
  refine def_ok (k := 1) F sc__law_shows gm hb (by decide) (by decide) (by decide) fun cdv A outer s H E hr tk hp => ?_
  have nd : N__law_shows.Nodup := by decide +kernel
  exact (ss_cons (s_ret (j_cmp (op_eqD hr.units) s_eq (nomark _) (j_call (ok__law_joint T) tk hr (by decide) rfl (ja_cons (o1 := .val _) (j_ix ix_seq s_ix (fun _ _ => rfl) (j_var (pv 1)) j_int) (ja_cons (o1 := .val _) (j_var (pv 0)) ja_nil))) (j_ix ix_seq s_ix (fun _ _ => rfl) (j_var (pv 1)) j_int)))
      ss_nil)
abbrev l__law_run_1 : Sv := (sSeq (sAsg (bNm 7) (fN gGt [(.val (fVar 3)), (.val (fK (.int 0)))]))
    (sSeq (sIf (bE (fVar 7)) (sSeq (sAsg (bNm 3) (fN gSub [(.val (fVar 3)), (.val (fK (.int 1)))]))
    sNil) (sSeq (sIf (bE (fN gEq [(.val (fN gIx [(.val (fVar 6)), (.val (fK (.int 0)))])), (.val (fK (.str "deed")))])) (sSeq (sIf (bE (fVar 2)) (sSeq (sExpr (fMt1 4 gAppend (fN gIx [(.val (fVar 6)), (.val (fK (.int 1)))])))
    sNil) sNil)
    sNil) (sSeq (sIf (bE (fCall [] h__law_shows [(.val (fVar 1)), (.val (fN gIx [(.val (fVar 6)), (.val (fN gNeg [(.val (fK (.int 1)))]))]))])) (sSeq (sIf (bE (fN gEq [(.val (fN gIx [(.val (fVar 6)), (.val (fK (.int 0)))])), (.val (fK (.str "skip")))])) (sSeq (sAsg (bNm 3) (fN gIx [(.val (fVar 6)), (.val (fK (.int 1)))]))
    sNil) (sSeq (sIf (bE (fN gEq [(.val (fN gIx [(.val (fVar 6)), (.val (fK (.int 0)))])), (.val (fK (.str "turn")))])) (sSeq (sAsg (bNm 2) (fNot (fVar 2)))
    sNil) (sSeq (sAsg (bNm 2) (fN gEq [(.val (fN gIx [(.val (fVar 6)), (.val (fK (.int 0)))])), (.val (fK (.str "set")))]))
    sNil))
    sNil))
    sNil) sNil)
    sNil))
    sNil))
    (sSeq (sExpr (fMt1 5 gAppend (fTup [(fVar 2), (fVar 7)])))
    sNil)))
def b__law_run : Sv := (sSeq (sAsg (bTp (bCons (bNm 2) (bCons (bNm 3) (bCons (bNm 4) (bCons (bNm 5) bNil))))) (fTup [(fK (.bl false)), (fK (.int 0)), (fLst []), (fLst [])]))
    (sSeq (sFor (iSeq (fVar 0)) (bNm 6) l__law_run_1)
    (sSeq (sRet (fTup [(fVar 2), (fVar 4), (fVar 5)]))
    sNil)))
def h__law_run : List D → Rf := runB 8 [] b__law_run
theorem ok__law_run (T : Txt K mg cl) : FnD P w K mg base cl "_law_run" 3 2 [] h__law_run := by
  obtain ⟨f, fd, gm, F, hb⟩ := T.F__law_run
  refine def_ok (k := 2) F sc__law_run gm hb (by decide) (by decide) (by decide) fun cdv A outer s H E hr tk hp => ?_
  have nd : N__law_run.Nodup := by decide +kernel
  exact (ss_cons (s_asg (j_tup (fs := [(fK (.bl false)), (fK (.int 0)), (fLst []), (fLst [])]) (ja_cons (o1 := .val _) j_bl (ja_cons (o1 := .val _) j_int (ja_cons (o1 := .val _) (j_lst (fs := []) ja_nil) (ja_cons (o1 := .val _) (j_lst (fs := []) ja_nil) ja_nil))))) (g_tp (n := 4) rfl (gs_cons (g_nm nd (i := 2)) (gs_cons (g_nm nd (i := 3)) (gs_cons (g_nm nd (i := 4)) (gs_cons (g_nm nd (i := 5)) gs_nil)))) (fun _ _ _ z => bCons_len (fun _ _ _ z => bCons_len (fun _ _ _ z => bCons_len (fun _ _ _ z => bCons_len (fun _ _ _ z => bNil_len z) z) z) z) z)))
      (ss_cons (s_for hp rfl (i_seq (j_var (pv 0))) (g_nm nd (i := 6))
      (ss_cons (s_set (i := 7) nd (j_cmp op_gtA s_gt (nomark _) (j_var (pv 3)) j_int))
      (ss_cons (s_if (t_e (j_var (pv 7))) (ss_cons (s_set (i := 3) nd (j_bin op_sub s_sub (j_var (pv 3)) j_int))
      ss_nil) (ss_cons (s_if (t_cmp (op_eqD hr.units) s_eq (fun _ _ z => eq_bl z) (nomark _) (j_ix ix_seq s_ix (fun _ _ => rfl) (j_var (pv 6)) j_int) j_str) (ss_cons (s_if (t_e (j_var (pv 2))) (ss_cons (s_expr (j_append (pv 4) (ja_cons (o1 := .val _) (j_ix ix_seq s_ix (fun _ _ => rfl) (j_var (pv 6)) j_int) ja_nil)))
      ss_nil) ss_nil)
      ss_nil) (ss_cons (s_if (t_e (j_call (ok__law_shows T) tk hr (by decide) rfl (ja_cons (o1 := .val _) (j_var (pv 1)) (ja_cons (o1 := .val _) (j_ix ix_seq s_ix (fun _ _ => rfl) (j_var (pv 6)) (j_un un_neg s_neg j_int)) ja_nil)))) (ss_cons (s_if (t_cmp (op_eqD hr.units) s_eq (fun _ _ z => eq_bl z) (nomark _) (j_ix ix_seq s_ix (fun _ _ => rfl) (j_var (pv 6)) j_int) j_str) (ss_cons (s_set (i := 3) nd (j_ix ix_seq s_ix (fun _ _ => rfl) (j_var (pv 6)) j_int))
      ss_nil) (ss_cons (s_if (t_cmp (op_eqD hr.units) s_eq (fun _ _ z => eq_bl z) (nomark _) (j_ix ix_seq s_ix (fun _ _ => rfl) (j_var (pv 6)) j_int) j_str) (ss_cons (s_set (i := 2) nd (j_not (j_var (pv 2))))
      ss_nil) (ss_cons (s_set (i := 2) nd (j_cmp (op_eqD hr.units) s_eq (nomark _) (j_ix ix_seq s_ix (fun _ _ => rfl) (j_var (pv 6)) j_int) j_str))
      ss_nil))
      ss_nil))
      ss_nil) ss_nil)
      ss_nil))
      ss_nil))
      (ss_cons (s_expr (j_append (pv 5) (ja_cons (o1 := .val _) (j_tup (fs := [(fVar 2), (fVar 7)]) (ja_cons (o1 := .val _) (j_var (pv 2)) (ja_cons (o1 := .val _) (j_var (pv 7)) ja_nil))) ja_nil)))
      ss_nil))))
      (ss_cons (s_ret (j_tup (fs := [(fVar 2), (fVar 4), (fVar 5)]) (ja_cons (o1 := .val _) (j_var (pv 2)) (ja_cons (o1 := .val _) (j_var (pv 4)) (ja_cons (o1 := .val _) (j_var (pv 5)) ja_nil)))))
      ss_nil)))
abbrev l_Program_init_1 : Sv := (sSeq (sIf (bNot (bE (fCall [] h_is_statement [(.val (fVar 1)), (.val (fVar 4))]))) (sSeq sNever
    sNil) sNil)
    sNil)
def b_Program_init : Sv := (sSeq (sExpr (fCall [] h_check_sizes [(.val (fVar 1))]))
    (sSeq (sIf (bOr (bNot (bE (fN (gIsi isa) [(.val (fVar 2)), (.val (fK (.ty "tuple")))]))) (bE (fN gGt [(.val (fN gLen [(.val (fVar 2))])), (.val (fK (.int 5000)))]))) (sSeq sNever
    sNil) sNil)
    (sSeq (sFor (iEnum [(fVar 2)]) (bTp (bCons (bNm 3) (bCons (bNm 4) bNil))) l_Program_init_1)
    (sSeq (sFSet 0 own_sizes "sizes" (fVar 1))
    (sSeq (sFSet 0 own_statements "statements" (fVar 2))
    sNil)))))
def h_Program_init : List D → Rf := runB 5 [0] b_Program_init
theorem ok_Program_init (T : Txt K mg cl) {f : Addr} (M : IsM K f "__init__" "Program.__init__" s_Program_init ["self", "sizes", "statements"]) : FnM P w K mg base cl f 6 3 [0] h_Program_init := by
  obtain ⟨fd, F, hb⟩ := M
  refine meth_ok (k := 5) F sc_Program_init hb (by decide) (by decide) (by decide) fun cdv A outer s H E hr tk hp => ?_
  have nd : N_Program_init.Nodup := by decide +kernel
  exact (ss_cons (s_expr (j_call (ok_check_sizes T) tk hr (by decide) rfl (ja_cons (o1 := .val _) (j_var (pv 1)) ja_nil)))
      (ss_cons (s_if (PW.pt (t_or (t_not (t_e (j_callB call_isi (s_isi T.isa) T.z_isinstance (by decide +kernel) (ja_cons (j_var (pv 2)) (ja_cons (j_ty T.z_tuple (by decide +kernel)) ja_nil))))) (t_or1 (t_cmp op_gtA s_gt (fun _ _ z => cmp_bl z) (nomark _) (j_callB cr_len s_len T.z_len (by decide +kernel) (ja_cons (j_var (pv 2)) ja_nil)) (j_gint T.c_MOST_STATEMENTS.choose_spec))))) (ss_cons s_never
      ss_nil) ss_nil)
      (ss_cons (s_for hp rfl (i_enum T.z_enumerate (ja_cons (o1 := .val _) (j_var (pv 2)) ja_nil)) (g_tp (n := 2) rfl (gs_cons (g_nm nd (i := 3)) (gs_cons (g_nm nd (i := 4)) gs_nil)) (fun _ _ _ z => bCons_len (fun _ _ _ z => bCons_len (fun _ _ _ z => bNil_len z) z) z))
      (ss_cons (s_if (t_not (t_e (j_call (ok_is_statement T) tk hr (by decide) rfl (ja_cons (o1 := .val _) (j_var (pv 1)) (ja_cons (o1 := .val _) (j_var (pv 4)) ja_nil))))) (ss_cons s_never
      ss_nil) ss_nil)
      ss_nil))
      (ss_cons (s_fset (i := 0) T.f_sizes (pv 0) (j_var (pv 1)))
      (ss_cons (s_fset (i := 0) T.f_statements (pv 0) (j_var (pv 2)))
      ss_nil)))))
theorem mk_Program (T : Txt K mg cl) : mg "Program" = some (.ref (cl 0)) ∧ ∃ f, Mk K (cl 0) f ∧ ∃ fd ps, Binds K fd ps [] ∧ FnOk P w K mg base (L2.CX P w) 6 f fd ps (spD K cl 3 [0] h_Program_init) := by
  obtain ⟨f, M, I⟩ := T.F_Program_init
  obtain ⟨fd, ps, hb, F⟩ := ok_Program_init (P := P) (w := w) (base := base) T I
  exact ⟨T.k_Program, f, M, fd, ps, hb, F⟩
abbrev c_law_1 : Ev := (fCall [0] h__law_statement [(.slot 1), (.val (fVar 3))])
abbrev l_law_1 : Sv := (sSeq (sAsg (bTp (bCons (bNm 10) (bCons (bNm 11) (bCons (bNm 12) bNil)))) (fCall [] h__law_run [(.val (fVar 5)), (.val (fVar 7))]))
    (sSeq (sAsg (bNm 8) (fCall [] h_run [(.val (fVar 6)), (.val (fVar 7))]))
    (sSeq (sAsg (bNm 9) (fCall [] h_traced [(.val (fVar 6)), (.val (fVar 7))]))
    (sSeq (sIf (bOr (bNot (bE (fN (gIsi isa) [(.slot 8), (.val (fK (.ty "tuple")))]))) (bE (fN gNe [(.val (fN gRepr [(.slot 8)])), (.val (fN gRepr [(.val (fTup [(fVar 10), (fVar 11)]))]))]))) (sSeq (sRet (fK (.bl false)))
    sNil) sNil)
    (sSeq (sIf (bOr (bNot (bE (fN (gIsi isa) [(.slot 9), (.val (fK (.ty "list")))]))) (bE (fN gNe [(.val (fN gRepr [(.slot 9)])), (.val (fN gRepr [(.val (fVar 12))]))]))) (sSeq (sRet (fK (.bl false)))
    sNil) sNil)
    (sSeq (sExpr (fTpA 8 1 "x"))
    (sSeq (sExpr (fMt1 9 gAppend (fK .non)))
    sNil)))))))
abbrev l_law_2 : Sv := (sSeq (sAsg (bNm 3) (fCall [0] h__law_sizes [(.slot 1), (.val (fK (.int 6))), (.val (fK (.int 130)))]))
    (sSeq (sAsg (bNm 4) (fCall [0] h__law_draw [(.slot 1), (.val (fN gIx [(.val (fLst [(fK (.int 6)), (fK (.int 14)), (fK (.int 31))])), (.val (fCall [0] h__law_draw [(.slot 1), (.val (fK (.int 3)))]))]))]))
    (sSeq (sAsg (bNm 5) (fN gTuple [(.val (fComp [13] (iRng [(fVar 4)]) (bNm 13) bTrue c_law_1))]))
    (sSeq (sAsg (bNm 6) (fMake 0 h_Program_init [(fVar 3), (fVar 5)]))
    (sSeq (sIf (bOr (bE (fN gNe [(.val (fN (gFld own_sizes "sizes") [(.val (fVar 6))])), (.val (fVar 3))])) (bE (fN gNe [(.val (fN (gFld own_statements "statements") [(.val (fVar 6))])), (.val (fVar 5))]))) (sSeq (sRet (fK (.bl false)))
    sNil) sNil)
    (sSeq (sFor (iSeq (fCall [] h__law_all [(.val (fVar 3))])) (bNm 7) l_law_1)
    (sSeq (sAsg (bNm 7) (fCall [0] h__law_any [(.slot 1), (.val (fCall [] h__law_all [(.val (fVar 3))]))]))
    (sSeq (sAsg (bTp (bCons (bNm 10) (bCons (bNm 11) (bCons (bNm 12) bNil)))) (fCall [] h__law_run [(.val (fVar 5)), (.val (fVar 7))]))
    (sSeq (sIf (bOr (bE (fN gNe [(.val (fCall [] h_run [(.val (fVar 6)), (.val (fVar 7))])), (.val (fTup [(fVar 10), (fVar 11)]))])) (bE (fN gNe [(.val (fCall [] h_traced [(.val (fVar 6)), (.val (fVar 7))])), (.val (fVar 12))]))) (sSeq (sRet (fK (.bl false)))
    sNil) sNil)
    sNil)))))))))
def b_law : Sv := (sSeq (sAsg (bNm 1) (fCall [] h__law_hand [(.val (fVar 0))]))
    (sSeq (sFor (iRng [(fK (.int 3))]) (bNm 2) l_law_2)
    (sSeq (sRet (fK (.bl true)))
    sNil)))
def h_law : List D → Rf := runB 14 [] b_law
theorem ok_law (T : Txt K mg cl) {f : Addr} {fd : FuncData} (F : Fun K "law" "law" s_law f fd) : RunAt P w K mg base callerA f fd ["script"] (spD K cl 1 [] h_law) := by
  refine def_at (k := 7) ⟨rfl, by decide, by decide⟩ F sc_law (by decide) (by decide) (by decide) fun cdv outer s H E hr tk hp => ?_
  have nd : N_law.Nodup := by decide +kernel
  exact (ss_cons (s_set (i := 1) nd (j_call (ok__law_hand T) tk hr (by decide) rfl (ja_cons (o1 := .val _) (j_var (pv 0)) ja_nil)))
      (ss_cons (s_for hp rfl (i_rng1 T.z_range (ja_cons (o1 := .val _) j_int ja_nil)) (g_nm nd (i := 2))
      (ss_cons (s_set (i := 3) nd (j_call (ok__law_sizes T) tk hr (by decide) rfl (ja_cons (o1 := .slot _) (pv 1) (ja_cons (o1 := .val _) j_int (ja_cons (o1 := .val _) j_int ja_nil)))))
      (ss_cons (s_set (i := 4) nd (j_call (ok__law_draw T) tk hr (by decide) rfl (ja_cons (o1 := .slot _) (pv 1) (ja_cons (o1 := .val _) (j_ix ix_seq s_ix (fun _ _ => rfl) (j_lst (fs := [(fK (.int 6)), (fK (.int 14)), (fK (.int 31))]) (ja_cons (o1 := .val _) j_int (ja_cons (o1 := .val _) j_int (ja_cons (o1 := .val _) j_int ja_nil)))) (j_call (ok__law_draw T) tk hr (by decide) rfl (ja_cons (o1 := .slot _) (pv 1) (ja_cons (o1 := .val _) j_int ja_nil)))) ja_nil))))
      (ss_cons (s_set (i := 5) nd (j_callTy call_tupleF s_tuple T.z_tuple (by decide +kernel) (ja_cons (j_comp (own := [("one", 13)]) rfl nd (i_rng1 T.z_range (ja_cons (o1 := .val _) (j_var (pv 4)) ja_nil)) (blkOk_by (own := [("one", 13)]) (N := N_law) (sc := defScope s_law) (by decide +kernel)) (fun _ _ _ _ _ => (g_nm nd (i := 13))) (fun _ _ _ _ _ => c_nil) (fun _ _ _ _ _ => (j_call (ok__law_statement T) takes0 hr (by decide) rfl (ja_cons (o1 := .slot _) (pv 1) (ja_cons (o1 := .val _) (j_var (pv 3)) ja_nil)))) (by decide)) ja_nil)))
      (ss_cons (s_set (i := 6) nd (j_make (n := 0) (mk_Program T) tk hr (by decide) rfl (fun _ _ _ _ _ z => z) (ja_cons (o1 := .val _) (j_var (pv 3)) (ja_cons (o1 := .val _) (j_var (pv 5)) ja_nil))))
      (ss_cons (s_if (PW.pt (t_or (t_cmp (op_neD hr.units) s_ne (fun _ _ z => ne_bl z) (nomark _) (j_fld T.f_sizes (j_var (pv 6))) (j_var (pv 3))) (t_or1 (t_cmp (op_neD hr.units) s_ne (fun _ _ z => ne_bl z) (nomark _) (j_fld T.f_statements (j_var (pv 6))) (j_var (pv 5)))))) (ss_cons (s_ret j_bl)
      ss_nil) ss_nil)
      (ss_cons (s_for hp rfl (i_seq (j_call (ok__law_all T) tk hr (by decide) rfl (ja_cons (o1 := .val _) (j_var (pv 3)) ja_nil))) (g_nm nd (i := 7))
      (ss_cons (s_asg (j_call (ok__law_run T) tk hr (by decide) rfl (ja_cons (o1 := .val _) (j_var (pv 5)) (ja_cons (o1 := .val _) (j_var (pv 7)) ja_nil))) (g_tp (n := 3) rfl (gs_cons (g_nm nd (i := 10)) (gs_cons (g_nm nd (i := 11)) (gs_cons (g_nm nd (i := 12)) gs_nil))) (fun _ _ _ z => bCons_len (fun _ _ _ z => bCons_len (fun _ _ _ z => bCons_len (fun _ _ _ z => bNil_len z) z) z) z)))
      (ss_cons (s_set (i := 8) nd (j_call (ok_run T) tk hr (by decide) rfl (ja_cons (o1 := .val _) (j_var (pv 6)) (ja_cons (o1 := .val _) (j_var (pv 7)) ja_nil))))
      (ss_cons (s_set (i := 9) nd (j_call (ok_traced T) tk hr (by decide) rfl (ja_cons (o1 := .val _) (j_var (pv 6)) (ja_cons (o1 := .val _) (j_var (pv 7)) ja_nil))))
      (ss_cons (s_if (PW.pt (t_or (t_not (t_e (j_callB call_isi (s_isi T.isa) T.z_isinstance (by decide +kernel) (ja_cons (pv 8) (ja_cons (j_ty T.z_tuple (by decide +kernel)) ja_nil))))) (t_or1 (t_cmp (op_neD hr.units) s_ne (fun _ _ z => ne_bl z) (nomark _) (j_callB (call_reprD (by rfl) hr.units) s_repr T.z_repr (by decide +kernel) (ja_cons (pv 8) ja_nil)) (j_callB (call_reprD (by rfl) hr.units) s_repr T.z_repr (by decide +kernel) (ja_cons (j_tup (fs := [(fVar 10), (fVar 11)]) (ja_cons (o1 := .val _) (j_var (pv 10)) (ja_cons (o1 := .val _) (j_var (pv 11)) ja_nil))) ja_nil)))))) (ss_cons (s_ret j_bl)
      ss_nil) ss_nil)
      (ss_cons (s_if (PW.pt (t_or (t_not (t_e (j_callB call_isi (s_isi T.isa) T.z_isinstance (by decide +kernel) (ja_cons (pv 9) (ja_cons (j_ty T.z_list (by decide +kernel)) ja_nil))))) (t_or1 (t_cmp (op_neD hr.units) s_ne (fun _ _ z => ne_bl z) (nomark _) (j_callB (call_reprD (by rfl) hr.units) s_repr T.z_repr (by decide +kernel) (ja_cons (pv 9) ja_nil)) (j_callB (call_reprD (by rfl) hr.units) s_repr T.z_repr (by decide +kernel) (ja_cons (j_var (pv 12)) ja_nil)))))) (ss_cons (s_ret j_bl)
      ss_nil) ss_nil)
      (ss_cons (s_expr (j_tpA (k := 1) rfl (pv 8) pe_int pe_str))
      (ss_cons (s_expr (j_append (pv 9) (ja_cons (o1 := .val _) j_non ja_nil)))
      ss_nil))))))))
      (ss_cons (s_set (i := 7) nd (j_call (ok__law_any T) tk hr (by decide) rfl (ja_cons (o1 := .slot _) (pv 1) (ja_cons (o1 := .val _) (j_call (ok__law_all T) tk hr (by decide) rfl (ja_cons (o1 := .val _) (j_var (pv 3)) ja_nil)) ja_nil))))
      (ss_cons (s_asg (j_call (ok__law_run T) tk hr (by decide) rfl (ja_cons (o1 := .val _) (j_var (pv 5)) (ja_cons (o1 := .val _) (j_var (pv 7)) ja_nil))) (g_tp (n := 3) rfl (gs_cons (g_nm nd (i := 10)) (gs_cons (g_nm nd (i := 11)) (gs_cons (g_nm nd (i := 12)) gs_nil))) (fun _ _ _ z => bCons_len (fun _ _ _ z => bCons_len (fun _ _ _ z => bCons_len (fun _ _ _ z => bNil_len z) z) z) z)))
      (ss_cons (s_if (PW.pt (t_or (t_cmp (op_neD hr.units) s_ne (fun _ _ z => ne_bl z) (nomark _) (j_call (ok_run T) tk hr (by decide) rfl (ja_cons (o1 := .val _) (j_var (pv 6)) (ja_cons (o1 := .val _) (j_var (pv 7)) ja_nil))) (j_tup (fs := [(fVar 10), (fVar 11)]) (ja_cons (o1 := .val _) (j_var (pv 10)) (ja_cons (o1 := .val _) (j_var (pv 11)) ja_nil)))) (t_or1 (t_cmp (op_neD hr.units) s_ne (fun _ _ z => ne_bl z) (nomark _) (j_call (ok_traced T) tk hr (by decide) rfl (ja_cons (o1 := .val _) (j_var (pv 6)) (ja_cons (o1 := .val _) (j_var (pv 7)) ja_nil))) (j_var (pv 12)))))) (ss_cons (s_ret j_bl)
      ss_nil) ss_nil)
      ss_nil))))))))))
      (ss_cons (s_ret j_bl)
      ss_nil)))
end K08
noncomputable section
namespace K08
open PySem PySem.Spec PyProof.Rows L2 Tw
theorem int_ok (a : Int) : h_is_integer [.int a] = .ret (.bl true) [] := by
  simp only [h_is_integer, b_is_integer, isa_int_int, isa_int_bool, Tw.ev, List.replicate, ne_eq, reduceCtorEq, Nat.reduceAdd, Nat.reduceSub, Nat.reduceLT, Nat.reduceLeDiff, Int.reduceEq, Int.reduceNeg, Int.reduceLT, Int.reduceLE, Int.reduceAdd, Int.reduceMul, Int.reduceSub]
theorem within_ok (a b c : Int) : h_is_within [.int a, .int b, .int c] = .ret (.bl (decide (b ≤ a) && decide (a ≤ c))) [] := by
  simp only [h_is_within, b_is_within, int_ok, Tw.ev, List.replicate, ne_eq, reduceCtorEq, Nat.reduceAdd, Nat.reduceSub, Nat.reduceLT, Nat.reduceLeDiff, Int.reduceEq, Int.reduceNeg, Int.reduceLT, Int.reduceLE, Int.reduceAdd, Int.reduceMul, Int.reduceSub]
  by_cases h : b ≤ a <;> simp only [h, decide_true, decide_false]
  · simp only [Tw.ev, List.replicate, ne_eq, reduceCtorEq, Nat.reduceAdd, Nat.reduceSub, Nat.reduceLT, Nat.reduceLeDiff, Int.reduceEq, Int.reduceNeg, Int.reduceLT, Int.reduceLE, Int.reduceAdd, Int.reduceMul, Int.reduceSub]
  · simp only [Tw.ev, List.replicate, ne_eq, reduceCtorEq, Nat.reduceAdd, Nat.reduceSub, Nat.reduceLT, Nat.reduceLeDiff, Int.reduceEq, Int.reduceNeg, Int.reduceLT, Int.reduceLE, Int.reduceAdd, Int.reduceMul, Int.reduceSub]
def Sz (ns : List Int) : Prop := 1 ≤ ns.length ∧ ns.length ≤ 6 ∧ ∀ n ∈ ns, 2 ≤ n ∧ n ≤ 4
theorem check_sizes_ok {ns : List Int} (h : Sz ns) : h_check_sizes [.tup (ns.map .int)] = .ret .non [] := by
  obtain ⟨h1, h2, h3⟩ := h
  have c1 : (1 : Int) ≤ (ns.length : Int) := by omega
  have c2 : (ns.length : Int) ≤ 6 := by omega
  have l : lenOk ns.length = true := lenOk_of (by omega)
  have key : compGo [1] (bNm 1) bTrue (fCall [] h_is_within [.val (fVar 1), .val (fK (.int 2)), .val (fK (.int 4))]) (ns.map .int) [] [some (.tup (ns.map .int)), none] = .ok (ns.map fun _ => .bl true) [some (.tup (ns.map .int)), none] := by
    refine comp_map1 (fun _ => .bl true) ns fun x hx ds acc => ?_
    have a1 := (h3 x hx).1
    have a2 := (h3 x hx).2
    simp only [within_ok, a1, a2, Tw.ev, List.replicate, ne_eq, reduceCtorEq, Nat.reduceAdd, Nat.reduceSub, Nat.reduceLT, Nat.reduceLeDiff, Int.reduceEq, Int.reduceNeg, Int.reduceLT, Int.reduceLE, Int.reduceAdd, Int.reduceMul, Int.reduceSub]
  simp only [h_check_sizes, b_check_sizes, isa_tuple_tuple, c1, c2, l, key, bools_mapP, Tw.ev, List.replicate, ne_eq, reduceCtorEq, Nat.reduceAdd, Nat.reduceSub, Nat.reduceLT, Nat.reduceLeDiff, Int.reduceEq, Int.reduceNeg, Int.reduceLT, Int.reduceLE, Int.reduceAdd, Int.reduceMul, Int.reduceSub]
  have e : (ns.map fun _ => true).all id = true := by simp
  simp only [e, Tw.ev, List.replicate, ne_eq, reduceCtorEq, Nat.reduceAdd, Nat.reduceSub, Nat.reduceLT, Nat.reduceLeDiff, Int.reduceEq, Int.reduceNeg, Int.reduceLT, Int.reduceLE, Int.reduceAdd, Int.reduceMul, Int.reduceSub]
def grow (acc : List (List Int)) (s : Int) : List (List Int) := acc.flatMap fun row => (List.range s.toNat).map fun w : Nat => row ++ [(w : Int)]
def allOf (sizes : List Int) : List (List Int) := sizes.foldl grow [[]]
theorem grow_len {s : Int} (acc : List (List Int)) : (grow acc s).length = acc.length * s.toNat := by
  unfold grow
  induction acc with
  | nil => simp
  | cons a acc ih => rw [List.flatMap_cons, List.length_append, ih]; simp [Nat.add_mul, Nat.add_comm]
theorem row_ok {acc : List (List Int)} {s : Int} {row : List Int} (h : row ∈ grow acc s) : ∃ r ∈ acc, ∃ w : Int, row = r ++ [w] ∧ 0 ≤ w ∧ w < s := by
  unfold grow at h
  obtain ⟨r, hr, h2⟩ := List.mem_flatMap.mp h
  obtain ⟨w, hw, rfl⟩ := List.mem_map.mp h2
  have := List.mem_range.mp hw
  exact ⟨r, hr, w, rfl, by omega, by omega⟩
theorem allOf_app (a : List Int) (s : Int) : allOf (a ++ [s]) = grow (allOf a) s := by unfold allOf; rw [List.foldl_append]; rfl
theorem foldl_len : ∀ (sizes : List Int) (acc : List (List Int)), (∀ s ∈ sizes, s ≤ 4) → (sizes.foldl grow acc).length ≤ acc.length * 4 ^ sizes.length
  | [], acc, _ => by simp
  | s :: r, acc, h => by
    have ih := foldl_len r (grow acc s) fun x hx => h x (List.mem_cons_of_mem _ hx)
    rw [grow_len] at ih
    have : s.toNat ≤ 4 := by have := h s List.mem_cons_self; omega
    rw [List.foldl_cons, List.length_cons, Nat.pow_succ]
    refine Nat.le_trans ih ?_
    rw [show acc.length * (4 ^ r.length * 4) = acc.length * 4 * 4 ^ r.length by rw [Nat.mul_comm (4 ^ r.length) 4, Nat.mul_assoc]]
    exact Nat.mul_le_mul_right _ (Nat.mul_le_mul_left _ this)
theorem allOf_len {sizes : List Int} (h : ∀ s ∈ sizes, s ≤ 4) (hl : sizes.length ≤ 6) : (allOf sizes).length ≤ 4096 := by
  have e := foldl_len sizes [[]] h
  have e2 : 4 ^ sizes.length ≤ 4 ^ 6 := Nat.pow_le_pow_right (by decide) hl
  have e3 : (4 : Nat) ^ 6 = 4096 := by decide
  rw [e3] at e2
  exact Nat.le_trans e (by rw [List.length_singleton, Nat.one_mul]; exact e2)
theorem take_more {sizes : List Int} {i : Nat} {s : Int} (e : sizes[i]? = some s) : allOf (sizes.take (i + 1)) = grow (allOf (sizes.take i)) s := by
  rw [List.take_add_one, e]
  exact allOf_app _ _
theorem row_len : ∀ (sizes : List Int) (row : List Int), row ∈ allOf sizes → row.length = sizes.length := by
  intro sizes
  have key : ∀ (r : List Int) (acc : List (List Int)) (n : Nat), (∀ x ∈ acc, x.length = n) → ∀ x ∈ r.foldl grow acc, x.length = n + r.length := by
    intro r
    induction r with
    | nil => intro acc n h x hx; exact h x hx
    | cons s r ih =>
      intro acc n h x hx
      have := ih (grow acc s) (n + 1) (fun y hy => by
        obtain ⟨q, hq, w, rfl, _⟩ := row_ok hy
        rw [List.length_append, h q hq]; rfl) x hx
      rw [List.length_cons]; omega
  intro row h
  have := key sizes [[]] 0 (fun x hx => by rw [List.mem_singleton.mp hx]; rfl) row h
  omega
theorem Sz.b {ns : List Int} (h : Sz ns) : ∀ s ∈ ns, 0 ≤ s ∧ s ≤ 4 := fun s hs => by have := h.2.2 s hs; omega
def atLot (sizes lot : List Int) : List Int := lot.map fun p => sizes.getD p.toNat 0
theorem at_comp {sizes lot : List Int} {vs : List Nat} (hl : ∀ p ∈ lot, 0 ≤ p ∧ p < sizes.length) : compGo [2] (bNm 2) bTrue (fN gIx [.val (fVar 0), .val (fVar 2)]) (lot.map .int) [] [some (.tup (sizes.map .int)), some (.tup (lot.map .int)), none] = .ok ((atLot sizes lot).map .int) [some (.tup (sizes.map .int)), some (.tup (lot.map .int)), none] := by
  unfold atLot
  rw [List.map_map]
  refine comp_map1 (fun p => .int (sizes.getD p.toNat 0)) lot fun x hx ds acc => ?_
  have a := atI_map (hl x hx).1 (hl x hx).2
  simp only [a, Tw.ev, List.replicate, ne_eq, reduceCtorEq, Nat.reduceAdd, Nat.reduceSub, Nat.reduceLT, Nat.reduceLeDiff, Int.reduceEq, Int.reduceNeg, Int.reduceLT, Int.reduceLE, Int.reduceAdd, Int.reduceMul, Int.reduceSub]
theorem sizes_at_ok {sizes lot : List Int} (hl : ∀ p ∈ lot, 0 ≤ p ∧ p < sizes.length) (l : lot.length ≤ 1000) : h_sizes_at [.tup (sizes.map .int), .tup (lot.map .int)] = .ret (.tup ((atLot sizes lot).map .int)) [] := by
  have l : lenOk lot.length = true := lenOk_of (by omega)
  have key := at_comp (vs := []) hl
  simp only [h_sizes_at, b_sizes_at, l, key, Tw.ev, List.replicate, ne_eq, reduceCtorEq, Nat.reduceAdd, Nat.reduceSub, Nat.reduceLT, Nat.reduceLeDiff, Int.reduceEq, Int.reduceNeg, Int.reduceLT, Int.reduceLE, Int.reduceAdd, Int.reduceMul, Int.reduceSub]
def Up : Int → List Int → Int → Prop
  | _, [], _ => True
  | a, x :: r, m => a + 1 ≤ x ∧ x ≤ m - 1 ∧ Up x r m
theorem is_lot_loop {m : Int} {A : D} : ∀ (lot : List Int) (a : Int) (y : Option D), Up a lot m → ∃ env', forGo (bNm 3) (sSeq (sIf (bNot (bE (fCall [] h_is_within [(.val (fVar 3)), (.val (fN gAdd [(.val (fVar 2)), (.val (fK (.int 1)))])), (.val (fN Tw.gSub [(.val (fVar 1)), (.val (fK (.int 1)))]))]))) (sSeq (sRet (fK (.bl false))) sNil) sNil) (sSeq (sAsg (bNm 2) (fVar 3)) sNil)) (lot.map .int) [some A, some (.int m), some (.int a), y] = .next env'
  | [], a, y, _ => ⟨_, rfl⟩
  | x :: r, a, y, h => by
    obtain ⟨h1, h2, h3⟩ := h
    obtain ⟨env', e⟩ := is_lot_loop (A := A) r x (some (.int x)) h3
    refine ⟨env', ?_⟩
    rw [List.map_cons]
    simp only [within_ok, h1, h2, e, Tw.ev, List.replicate, ne_eq, reduceCtorEq, Nat.reduceAdd, Nat.reduceSub, Nat.reduceLT, Nat.reduceLeDiff, Int.reduceEq, Int.reduceNeg, Int.reduceLT, Int.reduceLE, Int.reduceAdd, Int.reduceMul, Int.reduceSub]
theorem is_lot_ok {lot : List Int} {m : Int} (h : Up (-1) lot m) : h_is_lot [.tup (lot.map .int), .int m] = .ret (.bl true) [] := by
  obtain ⟨env', e⟩ := is_lot_loop (A := .tup (lot.map .int)) lot (-1) none h
  simp only [h_is_lot, b_is_lot, isa_tuple_tuple, e, Tw.ev, List.replicate, ne_eq, reduceCtorEq, Nat.reduceAdd, Nat.reduceSub, Nat.reduceLT, Nat.reduceLeDiff, Int.reduceEq, Int.reduceNeg, Int.reduceLT, Int.reduceLE, Int.reduceAdd, Int.reduceMul, Int.reduceSub]
theorem up_in : ∀ {lot : List Int} {a m : Int}, Up a lot m → ∀ p ∈ lot, a < p ∧ p < m
  | x :: r, a, m, h, p, hp => by
    obtain ⟨h1, h2, h3⟩ := h
    rcases List.mem_cons.mp hp with rfl | hp
    · omega
    · have := up_in h3 p hp; omega
theorem ext_lst (ds : List D) (m : Bool) (ys : List D) : gExtend ds (.lst m ys) = if D.oks ds && D.oks ys && lenOk (ds.length + ys.length) then some (.non, ds ++ ys) else none := rfl
theorem grow_more {acc : List (List Int)} {j : Nat} {row : List Int} {s : Int} (e : acc[j]? = some row) : grow (acc.take (j + 1)) s = grow (acc.take j) s ++ (List.range s.toNat).map fun w : Nat => row ++ [(w : Int)] := by
  unfold grow
  rw [List.take_add_one, e, List.flatMap_append]
  simp
theorem row_of {sizes : List Int} {i : Nat} {row : List Int} (il : i ≤ sizes.length) (h : row ∈ allOf (sizes.take i)) : row.length = i := by
  have := row_len _ _ h
  rw [List.length_take] at this
  omega
theorem range_rows (s : Int) (row : List Int) : rows ((List.range s.toNat).map fun w : Nat => row ++ [(w : Int)]) = (List.range s.toNat).map fun w : Nat => D.tup (row.map .int ++ [.int (w : Int)]) := by
  unfold rows
  rw [List.map_map]
  exact List.map_congr_left fun w _ => by simp
theorem all_ok {d d0 : D} {sizes : List Int} (hd : D.frz d = d0) (hi : D.items d0 = some (sizes.map .int)) (h : ∀ s ∈ sizes, 0 ≤ s ∧ s ≤ 4) (hl : sizes.length ≤ 6) : h__law_all [d] = .ret (.lst false (rows (allOf sizes))) [] ∨ h__law_all [d] = .ret (.lst true (rows (allOf sizes))) [] := by
  have loop := for_ind (bd := bNm 2) (g := D.int) (body := sSeq (sAsg (bNm 3) (fLst [])) (sSeq (sFor (iSeq (fVar 1)) (bNm 4) (sSeq (sExpr (fMt1 3 gExtend (fComp [5] (iRng [(fVar 2)]) (bNm 5) bTrue (fN gAdd [(.val (fVar 4)), (.val (fTup [(fVar 5)]))])))) sNil)) (sSeq (sAsg (bNm 1) (fVar 3)) sNil)))
    (fun i env => ∃ m y2 y3 y4, env = [some d0, some (.lst m (rows (allOf (sizes.take i)))), y2, y3, y4, none]) sizes 0 [some d0, some (.lst true (rows (allOf []))), none, none, none, none] ⟨true, none, none, none, by rw [List.take_zero]⟩ ?_
  · obtain ⟨env', ⟨m, y2, y3, y4, rfl⟩, e⟩ := loop
    rw [Nat.zero_add, List.take_length] at e
    have e0 : rows (allOf []) = [.tup []] := rfl
    rw [e0] at e
    cases m
    · left; simp only [h__law_all, b__law_all, hd, hi, e, Tw.ev, List.replicate, ne_eq, reduceCtorEq, Nat.reduceAdd, Nat.reduceSub, Nat.reduceLT, Nat.reduceLeDiff, Int.reduceEq, Int.reduceNeg, Int.reduceLT, Int.reduceLE, Int.reduceAdd, Int.reduceMul, Int.reduceSub]
    · right; simp only [h__law_all, b__law_all, hd, hi, e, Tw.ev, List.replicate, ne_eq, reduceCtorEq, Nat.reduceAdd, Nat.reduceSub, Nat.reduceLT, Nat.reduceLeDiff, Int.reduceEq, Int.reduceNeg, Int.reduceLT, Int.reduceLE, Int.reduceAdd, Int.reduceMul, Int.reduceSub]
  · rintro i s env his ⟨m, y2, y3, y4, rfl⟩
    rw [Nat.zero_add]
    have hs := h s (List.mem_of_getElem? his)
    have il : i < sizes.length := (List.getElem?_eq_some_iff.mp his).1
    have hr : rngOf [s] = some (0, s.toNat) := rngOf_1 (by omega)
    have lenA : (grow (allOf (sizes.take i)) s).length ≤ 4096 := by
      rw [← take_more his]
      exact allOf_len (fun x hx => (h x (List.mem_of_mem_take hx)).2) (by rw [List.length_take]; omega)
    rw [grow_len] at lenA
    have ls : lenOk s.toNat = true := lenOk_of (by omega)
    obtain ⟨env', ⟨z4, rfl⟩, e⟩ := for_ind (bd := bNm 4) (g := fun ns : List Int => D.tup (ns.map .int)) (body := sSeq (sExpr (fMt1 3 gExtend (fComp [5] (iRng [(fVar 2)]) (bNm 5) bTrue (fN gAdd [(.val (fVar 4)), (.val (fTup [(fVar 5)]))])))) sNil)
      (fun j env => ∃ y4, env = [some d0, some (.lst false (rows (allOf (sizes.take i)))), some (.int s), some (.lst true (rows (grow ((allOf (sizes.take i)).take j) s))), y4, none]) (allOf (sizes.take i)) 0
      [some d0, some (.lst false (rows (allOf (sizes.take i)))), some (.int s), some (.lst true []), y4, none] ⟨y4, by rw [List.take_zero]; rfl⟩ (by
        rintro j row env hj ⟨z4, rfl⟩
        rw [Nat.zero_add]
        have rl := row_of (by omega) (List.mem_of_getElem? hj)
        have jl : j < (allOf (sizes.take i)).length := (List.getElem?_eq_some_iff.mp hj).1
        refine ⟨_, ⟨some (.tup (row.map .int)), rfl⟩, fun ds => ?_⟩
        have l2 : lenOk (row.length + 1) = true := lenOk_of (by omega)
        have key := comp_map1 (vs := [5]) (b := bNm 5) (t := bTrue) (f := fN gAdd [.val (fVar 4), .val (fTup [fVar 5])]) (g := fun w : Nat => D.int (w : Int)) (env := [some d0, some (.lst false (rows (allOf (sizes.take i)))), some (.int s), some (.lst true (rows (grow ((allOf (sizes.take i)).take j) s))), some (.tup (row.map .int)), none])
          (fun w : Nat => D.tup (row.map .int ++ [.int (w : Int)])) (List.range s.toNat) fun w hw ds acc => by
            simp only [l2, Tw.ev, List.replicate, ne_eq, reduceCtorEq, Nat.reduceAdd, Nat.reduceSub, Nat.reduceLT, Nat.reduceLeDiff, Int.reduceEq, Int.reduceNeg, Int.reduceLT, Int.reduceLE, Int.reduceAdd, Int.reduceMul, Int.reduceSub]
        rw [← range_rows] at key
        have l3 : lenOk ((rows (grow ((allOf (sizes.take i)).take j) s)).length + (rows ((List.range s.toNat).map fun w : Nat => row ++ [(w : Int)])).length) = true := lenOk_of (by
          rw [rows_len, rows_len, grow_len, List.length_map, List.length_range, List.length_take]
          have : min j (allOf (sizes.take i)).length * s.toNat ≤ (allOf (sizes.take i)).length * s.toNat := Nat.mul_le_mul_right _ (Nat.min_le_right _ _)
          omega)
        rw [grow_more hj, rows_app]
        simp only [hr, rngD_0, ls, key, List.length_range, ext_lst, l3, List.length_map (f := fun w : Nat => D.int (w : Int)), Tw.ev0, Tw.all_lst, Tw.ix_lst, Tw.ixT_1, Tw.inN_2, Tw.sl_tup, Tw.sortT_1, Tw.putN2_1, Tw.mul_tup, Tw.ixN_1, Tw.sortIL_1, Tw.mul_lst, Tw.add_lst, Tw.sorted_2, Tw.mod_int, Tw.any_lst, List.replicate, ne_eq, reduceCtorEq, Nat.reduceAdd, Nat.reduceSub, Nat.reduceLT, Nat.reduceLeDiff, Int.reduceEq, Int.reduceNeg, Int.reduceLT, Int.reduceLE, Int.reduceAdd, Int.reduceMul, Int.reduceSub])
    rw [Nat.zero_add, List.take_length] at e
    have e' : forGo (bNm 4) (sSeq (sExpr (fMt1 3 gExtend (fComp [5] (iRng [(fVar 2)]) (bNm 5) bTrue (fN gAdd [(.val (fVar 4)), (.val (fTup [(fVar 5)]))])))) sNil) (rows (allOf (sizes.take i))) [some d0, some (.lst false (rows (allOf (sizes.take i)))), some (.int s), some (.lst true []), y4, none] = _ := e
    refine ⟨_, ⟨false, some (.int s), some (.lst false (rows (allOf (sizes.take (i + 1))))), z4, rfl⟩, fun ds => ?_⟩
    rw [take_more his]
    simp only [e', Tw.ev, List.replicate, ne_eq, reduceCtorEq, Nat.reduceAdd, Nat.reduceSub, Nat.reduceLT, Nat.reduceLeDiff, Int.reduceEq, Int.reduceNeg, Int.reduceLT, Int.reduceLE, Int.reduceAdd, Int.reduceMul, Int.reduceSub]
theorem all_ok' {d d0 : D} {sizes : List Int} (hd : D.frz d = d0) (hi : D.items d0 = some (sizes.map .int)) (h : ∀ s ∈ sizes, 0 ≤ s ∧ s ≤ 4) (hl : sizes.length ≤ 6) : ∃ m, h__law_all [d] = .ret (.lst m (rows (allOf sizes))) [] := by
  rcases all_ok hd hi h hl with e | e
  · exact ⟨_, e⟩
  · exact ⟨_, e⟩
def lots : Nat → List (List Int)
  | 0 => [[]]
  | k + 1 => lots k ++ (lots k).map fun l => l ++ [(k : Int)]
def countGo (sizes : List Int) (st : List Int × Int) : List Int × Int := sizes.foldl (fun st s => (st.1 ++ [st.2.fmod s], st.2.fdiv s)) st
def counted (sizes : List Int) (n : Int) : List Int := (countGo sizes.reverse ([], n)).1.reverse
theorem append_1 (ds : List D) (y : D) : gAppend ds y = if lenOk (ds.length + 1) then some (.non, ds ++ [y]) else none := rfl
def prodI (sizes : List Int) : Int := sizes.foldl (· * ·) 1
theorem prodI_app (a : List Int) (s : Int) : prodI (a ++ [s]) = prodI a * s := by unfold prodI; rw [List.foldl_append]; rfl
def numOf (sizes c : List Int) : Int := (sizes.zip c).foldl (fun a p => a * p.1 + p.2) 0
theorem zip_ints (a c : List Int) : zipOf [.tup (a.map .int), .tup (c.map .int)] = some (true, a.map .int, c.map .int) := by
  simp only [zipOf, Tw.seqK_tup, oks_int, if_true, Option.bind_some]
theorem zipD_ints (a c : List Int) : zipD (a.map .int) (c.map .int) = (a.zip c).map fun p => D.pr [.int p.1, .int p.2] := by
  unfold zipD
  rw [List.zip_map, List.map_map]
  rfl
theorem is_content_ok {sizes c : List Int} (hl : c.length = sizes.length) (l6 : sizes.length ≤ 6) (h : ∀ p ∈ sizes.zip c, 0 ≤ p.2 ∧ p.2 ≤ p.1 - 1) : h_is_content [.tup (sizes.map .int), .tup (c.map .int)] = .ret (.bl true) [] := by
  have l1 : lenOk (sizes.zip c).length = true := lenOk_of (by rw [List.length_zip]; omega)
  have key := comp_map1 (vs := [2, 3]) (b := bTp (bCons (bNm 2) (bCons (bNm 3) bNil))) (t := bTrue) (f := fCall [] h_is_within [(.val (fVar 3)), (.val (fK (.int 0))), (.val (fN Tw.gSub [(.val (fVar 2)), (.val (fK (.int 1)))]))]) (g := fun p : Int × Int => D.pr [.int p.1, .int p.2])
    (env := [some (.tup (sizes.map .int)), some (.tup (c.map .int)), none, none]) (fun _ => .bl true) (sizes.zip c) fun p hp ds acc => by
      have a1 := (h p hp).1
      have a2 := (h p hp).2
      simp only [within_ok, a1, a2, Tw.ev, List.replicate, ne_eq, reduceCtorEq, Nat.reduceAdd, Nat.reduceSub, Nat.reduceLT, Nat.reduceLeDiff, Int.reduceEq, Int.reduceNeg, Int.reduceLT, Int.reduceLE, Int.reduceAdd, Int.reduceMul, Int.reduceSub]
  have e : ((sizes.zip c).map fun _ => true).all id = true := by simp
  simp only [h_is_content, b_is_content, isa_tuple_tuple, hl, zip_ints, zipD_ints, l1, key, bools_mapP, e, Tw.ev, List.replicate, ne_eq, reduceCtorEq, Nat.reduceAdd, Nat.reduceSub, Nat.reduceLT, Nat.reduceLeDiff, Int.reduceEq, Int.reduceNeg, Int.reduceLT, Int.reduceLE, Int.reduceAdd, Int.reduceMul, Int.reduceSub]
theorem Sz.pos {ns : List Int} (h : Sz ns) : ∀ s ∈ ns, 0 < s := fun s hs => by have := h.2.2 s hs; omega
theorem fld_obj (own : Nat → Bool) (f : Str) (m : Bool) (c : Nat) (ns : List Str) (ds : List D) : gFld own f [.obj m c ns ds] = if own c then (lookD ns ds f).bind fun d => if D.ok d then some d else none else none := (rfl)
theorem look_1 (n : Str) (ns : List Str) (d : D) (ds : List D) (x : Str) : lookD (n :: ns) (d :: ds) x = if x = n then some d else lookD ns ds x := (rfl)
def hnd (cs : List Int) (i n s t : Int) : D := .lst true [.lst false (cs.map .int), .int i, .int n, .int s, .int t]
def Hand (d : D) : Prop := ∃ (cs : List Int) (i n s t : Int), d = hnd cs i n s t ∧ 0 ≤ i
theorem c_1 (a : Int) : CMul a 69621 := cm_lit _ _ (by decide)
theorem c_2 (a : Int) : CMul 7919 a := cm_left _ _ (by decide)
theorem c_3 (a : Int) : CMul a 48271 := cm_lit _ _ (by decide)
theorem d_1 (a : Int) : CDivN a 1009 := cd_lit _ _ (by decide)
theorem d_2 (a : Int) : CDivN a 2003 := cd_lit _ _ (by decide)
theorem d_3 (a : Int) : CDivN a 16 := cd_lit _ _ (by decide)
theorem p_1 : CPow 10 18 := by unfold CPow; decide
theorem ix_b {cs : List Int} {i : Int} (h0 : 0 ≤ i) (h1 : i < cs.length) : atI (cs.map D.int) i = some (.int (cs.getD i.toNat 0)) := atI_map h0 h1
theorem draw_x {cs : List Int} {i n s t many : Int} (h0 : 0 ≤ i) (h1 : 0 < many) (h2 : many < 1073741824) : ∃ (x i' n' s' t' : Int), h__law_draw [hnd cs i n s t, .int many] = .ret (.int (x.fmod many)) [hnd cs i' n' s' t'] ∧ 0 ≤ i' := by
  have m0 : many ≠ 0 := by omega
  have cd : ∀ a, CDivN a many := fun a => ⟨m0, by omega⟩
  have fin : ∀ x : Int, 0 ≤ x.fmod many ∧ x.fmod many < many := fun x => ⟨Int.fmod_nonneg_of_pos _ h1, Int.fmod_lt_of_pos _ h1⟩
  by_cases c : n = 0 ∧ i < cs.length
  · obtain ⟨rfl, hi⟩ := c
    have e := ix_b h0 hi
    generalize cs.getD i.toNat 0 = cell at e
    have q : ∃ z : Int, (10 : Int) ^ (18 : Int).toNat = z := ⟨_, rfl⟩
    obtain ⟨z, hz⟩ := q
    by_cases hc : z ≤ cell
    · by_cases hn : 0 < cell
      · refine ⟨?x1, ?i1, ?n1, ?s1, ?t1, ?m1, ?h1⟩
        case m1 =>
          simp only [h__law_draw, b__law_draw, hnd, hi, e, hz, hc, hn, m0, cd, c_1, p_1, Tw.ev, List.replicate, ne_eq, reduceCtorEq, Nat.reduceAdd, Nat.reduceSub, Nat.reduceLT, Nat.reduceLeDiff, Int.reduceEq, Int.reduceNeg, Int.reduceLT, Int.reduceLE, Int.reduceAdd, Int.reduceMul, Int.reduceSub]
          rfl
        case h1 => omega
      · refine ⟨?x2, ?i2, ?n2, ?s2, ?t2, ?m2, ?h2⟩
        case m2 =>
          simp only [h__law_draw, b__law_draw, hnd, hi, e, hz, hc, hn, m0, cd, c_1, c_2, c_3, cm_fm1, d_1, d_2, d_3, p_1, Tw.ev, List.replicate, ne_eq, reduceCtorEq, Nat.reduceAdd, Nat.reduceSub, Nat.reduceLT, Nat.reduceLeDiff, Int.reduceEq, Int.reduceNeg, Int.reduceLT, Int.reduceLE, Int.reduceAdd, Int.reduceMul, Int.reduceSub]
          rfl
        case h2 => omega
    · refine ⟨?x3, ?i3, ?n3, ?s3, ?t3, ?m3, ?h3⟩
      case m3 =>
        simp only [h__law_draw, b__law_draw, hnd, hi, e, hz, hc, m0, cd, c_1, c_2, c_3, cm_fm1, d_1, d_2, d_3, p_1, Int.lt_irrefl, Tw.ev, List.replicate, ne_eq, reduceCtorEq, Nat.reduceAdd, Nat.reduceSub, Nat.reduceLT, Nat.reduceLeDiff, Int.reduceEq, Int.reduceNeg, Int.reduceLT, Int.reduceLE, Int.reduceAdd, Int.reduceMul, Int.reduceSub]
        rfl
      case h3 => omega
  · have cc : (decide (n = 0) && decide (i < (cs.length : Int))) = false := by
      by_cases e : n = 0
      · have e2 : ¬ i < cs.length := fun z => c ⟨e, z⟩
        simp [e2]
      · simp [e]
    have c' : ∀ (A B : Sv) (env : Tw.Env), seqR B (if (decide (n = 0) = true) then A env else B env) = seqR B (if (decide (n = 0) = true) then A env else B env) := fun _ _ _ => rfl
    by_cases hn : 0 < n
    · have hn0 : n ≠ 0 := by omega
      refine ⟨n, i, n.fdiv many, s, t, ?_, h0⟩
      simp only [h__law_draw, b__law_draw, hnd, hn0, hn, m0, cd, Tw.ev, List.replicate, ne_eq, reduceCtorEq, Nat.reduceAdd, Nat.reduceSub, Nat.reduceLT, Nat.reduceLeDiff, Int.reduceEq, Int.reduceNeg, Int.reduceLT, Int.reduceLE, Int.reduceAdd, Int.reduceMul, Int.reduceSub]
    · by_cases hn0 : n = 0
      · have hi : ¬ i < cs.length := fun z => c ⟨hn0, z⟩
        subst hn0
        refine ⟨?x4, ?i4, ?n4, ?s4, ?t4, ?m4, ?h4⟩
        case m4 =>
          simp only [h__law_draw, b__law_draw, hnd, hi, hn, m0, cd, c_1, c_2, c_3, cm_fm1, d_1, d_2, d_3, p_1, Tw.ev, List.replicate, ne_eq, reduceCtorEq, Nat.reduceAdd, Nat.reduceSub, Nat.reduceLT, Nat.reduceLeDiff, Int.reduceEq, Int.reduceNeg, Int.reduceLT, Int.reduceLE, Int.reduceAdd, Int.reduceMul, Int.reduceSub]
          rfl
        case h4 => omega
      · refine ⟨?x5, ?i5, ?n5, ?s5, ?t5, ?m5, ?h5⟩
        case m5 =>
          simp only [h__law_draw, b__law_draw, hnd, hn0, hn, m0, cd, c_1, c_2, c_3, cm_fm1, d_1, d_2, d_3, p_1, Tw.ev, List.replicate, ne_eq, reduceCtorEq, Nat.reduceAdd, Nat.reduceSub, Nat.reduceLT, Nat.reduceLeDiff, Int.reduceEq, Int.reduceNeg, Int.reduceLT, Int.reduceLE, Int.reduceAdd, Int.reduceMul, Int.reduceSub]
          rfl
        case h5 => omega
theorem draw_ok {d : D} {many : Int} (hd : Hand d) (h1 : 0 < many) (h2 : many < 1073741824) : ∃ (r : Int) (d' : D), h__law_draw [d, .int many] = .ret (.int r) [d'] ∧ (0 ≤ r ∧ r < many) ∧ Hand d' := by
  obtain ⟨cs, i, n, s, t, rfl, h0⟩ := hd
  obtain ⟨x, i', n', s', t', e, h⟩ := draw_x (n := n) (s := s) (t := t) (cs := cs) h0 h1 h2
  exact ⟨_, _, e, ⟨Int.fmod_nonneg_of_pos _ h1, Int.fmod_lt_of_pos _ h1⟩, ⟨cs, i', n', s', t', rfl, h⟩⟩
theorem any_ok {d : D} {m : Bool} {ns : List Int} (hd : Hand d) (h1 : 0 < ns.length) (h2 : ns.length < 1073741824) : ∃ (r : Int) (d' : D), h__law_any [d, .lst m (ns.map .int)] = .ret (.int r) [d'] ∧ r ∈ ns ∧ Hand d' := by
  obtain ⟨r, d', e, ⟨b1, b2⟩, h⟩ := draw_ok (many := (ns.length : Int)) hd (by omega) (by omega)
  have a := atI_map (ns := ns) (i := r) b1 b2
  refine ⟨ns.getD r.toNat 0, d', ?_, ?_, h⟩
  · simp only [h__law_any, b__law_any, e, a, Tw.ev, List.replicate, ne_eq, reduceCtorEq, Nat.reduceAdd, Nat.reduceSub, Nat.reduceLT, Nat.reduceLeDiff, Int.reduceEq, Int.reduceNeg, Int.reduceLT, Int.reduceLE, Int.reduceAdd, Int.reduceMul, Int.reduceSub]
  · have h3 : r.toNat < ns.length := by omega
    rw [List.getD_eq_getElem?_getD, List.getElem?_eq_getElem h3]
    exact List.getElem_mem h3
theorem cut_len {α : Type} (xs : List α) (lo hi : Option Int) : (Tw.cutD xs lo hi).length ≤ xs.length := by
  unfold Tw.cutD
  rw [List.length_take, List.length_drop]
  omega
theorem hand_ok {ns : List Int} (h : ns.length ≤ 63) : ∃ d, h__law_hand [.scr ns] = .ret d [] ∧ Hand d := by
  obtain ⟨l, el⟩ : ∃ l, l = Tw.cutD ns none (some 63) := ⟨_, rfl⟩
  have hl : l.length ≤ 63 := by rw [el]; exact Nat.le_trans (cut_len ns none (some 63)) h
  have l1 : lenOk l.length = true := lenOk_of (by omega)
  have key := comp_map1 (vs := [2]) (b := bNm 2) (t := bTrue) (f := fN gAbs [.val (fN gIntC [.val (fVar 2)])]) (g := D.int) (env := [some (.scr ns), none, none]) (fun x : Int => D.int (if x < 0 then -x else x)) l fun x hx ds acc => by
    simp only [Tw.ev, List.replicate, ne_eq, reduceCtorEq, Nat.reduceAdd, Nat.reduceSub, Nat.reduceLT, Nat.reduceLeDiff, Int.reduceEq, Int.reduceNeg, Int.reduceLT, Int.reduceLE, Int.reduceAdd, Int.reduceMul, Int.reduceSub]
  have em : l.map (fun x : Int => D.int (if x < 0 then -x else x)) = (l.map fun x : Int => if x < 0 then -x else x).map .int := by rw [List.map_map]; rfl
  rw [em] at key
  refine ⟨hnd (l.map fun x : Int => if x < 0 then -x else x) 0 0 (1 + l.length) 0, ?_, ⟨_, _, _, _, _, rfl, by omega⟩⟩
  simp only [h__law_hand, b__law_hand, ← el, l1, key, hnd, Tw.ev, List.replicate, ne_eq, reduceCtorEq, Nat.reduceAdd, Nat.reduceSub, Nat.reduceLT, Nat.reduceLeDiff, Int.reduceEq, Int.reduceNeg, Int.reduceLT, Int.reduceLE, Int.reduceAdd, Int.reduceMul, Int.reduceSub]
def SzP (i : Nat) (ns : List Int) : Prop := ns.length ≤ i ∧ (∀ s ∈ ns, 2 ≤ s ∧ s ≤ 4) ∧ 0 < prodI ns ∧ prodI ns ≤ 300 ∧ (0 < i → 1 ≤ ns.length)
theorem pair_ok (a b : D) (ha : D.ok a = true) (hb : D.ok b = true) : h_is_pair [.tup [a, b]] = .ret (.bl true) [] := by
  have f1 : D.frz a = a := D.frz_ok ha
  have f2 : D.frz b = b := D.frz_ok hb
  simp only [h_is_pair, b_is_pair, isa_tuple_tuple, f1, f2, Tw.ev, List.replicate, ne_eq, reduceCtorEq, Nat.reduceAdd, Nat.reduceSub, Nat.reduceLT, Nat.reduceLeDiff, Int.reduceEq, Int.reduceNeg, Int.reduceLT, Int.reduceLE, Int.reduceAdd, Int.reduceMul, Int.reduceSub]
  rfl
theorem joint_ok {c lot : List Int} (hl : ∀ p ∈ lot, 0 ≤ p ∧ p < c.length) (l : lot.length ≤ 1000) : h_joint_of [.tup (lot.map .int), .tup (c.map .int)] = .ret (.tup ((atLot c lot).map .int)) [] := by
  have l1 : lenOk lot.length = true := lenOk_of (by omega)
  have key : compGo [2] (bNm 2) bTrue (fN gIx [.val (fVar 1), .val (fVar 2)]) (lot.map .int) [] [some (.tup (lot.map .int)), some (.tup (c.map .int)), none] = .ok ((atLot c lot).map .int) [some (.tup (lot.map .int)), some (.tup (c.map .int)), none] := by
    unfold atLot
    rw [List.map_map]
    refine comp_map1 (fun p => .int (c.getD p.toNat 0)) lot fun x hx ds acc => ?_
    have a := atI_map (hl x hx).1 (hl x hx).2
    simp only [a, Tw.ev, List.replicate, ne_eq, reduceCtorEq, Nat.reduceAdd, Nat.reduceSub, Nat.reduceLT, Nat.reduceLeDiff, Int.reduceEq, Int.reduceNeg, Int.reduceLT, Int.reduceLE, Int.reduceAdd, Int.reduceMul, Int.reduceSub]
  simp only [h_joint_of, b_joint_of, l1, key, Tw.ev, List.replicate, ne_eq, reduceCtorEq, Nat.reduceAdd, Nat.reduceSub, Nat.reduceLT, Nat.reduceLeDiff, Int.reduceEq, Int.reduceNeg, Int.reduceLT, Int.reduceLE, Int.reduceAdd, Int.reduceMul, Int.reduceSub]
def Mp (k : Int) (m : List Int) : Prop := (m.length : Int) = k ∧ ∀ x ∈ m, 0 ≤ x ∧ x ≤ k - 1
abbrev Look := List Int × List (List Int)
def lkD (l : Look) : D := .tup [.tup (l.1.map .int), .tup (rows l.2)]
def LookOk (sizes : List Int) (k : Int) (l : Look) : Prop := Up (-1) l.1 sizes.length ∧ l.1.length ≤ 3 ∧ (l.2.length : Int) = prodI (atLot sizes l.1) ∧ ∀ m ∈ l.2, Mp k m
theorem at2_0 (a b : D) : atI [a, b] 0 = some a := rfl
theorem at2_1 (a b : D) : atI [a, b] 1 = some b := rfl
def looksD (ls : List Look) : D := .tup (ls.map lkD)
def Ct (sizes c : List Int) : Prop := c.length = sizes.length ∧ ∀ p : Int, 0 ≤ p → p < sizes.length → 0 ≤ c.getD p.toNat 0 ∧ c.getD p.toNat 0 < sizes.getD p.toNat 0
theorem at_rows {ls : List (List Int)} {i : Int} (h0 : 0 ≤ i) (h1 : i < ls.length) : atI (rows ls) i = some (.tup ((ls.getD i.toNat []).map .int)) := by
  have hl : i.toNat < ls.length := by omega
  unfold atI ixN
  rw [rows_len, if_pos h0, if_pos h1, Option.bind_some]
  unfold rows
  rw [List.getElem?_map, List.getElem?_eq_getElem hl, List.getD_eq_getElem?_getD, List.getElem?_eq_getElem hl]
  rfl
def mapAt (sizes : List Int) (l : Look) (c : List Int) : List Int := l.2.getD (numOf (atLot sizes l.1) (atLot c l.1)).toNat []
def stp (sizes c : List Int) (s : Int) (l : Look) : Int := (mapAt sizes l c).getD s.toNat 0
def ledGo (sizes c : List Int) (ls : List Look) (st : List Int × Int) : List Int × Int := ls.foldl (fun st l => (st.1 ++ [st.2], stp sizes c st.2 l)) st
def ledL (sizes c : List Int) (ls : List Look) : List Int := (ledGo sizes c ls ([], 0)).1 ++ [(ledGo sizes c ls ([], 0)).2]
def partsD (sizes : List Int) (k : Int) (ls : List Look) : D := .tup [.tup (sizes.map .int), .int k, .tup (ls.map lkD)]
theorem at3_0 (a b c : D) : atI [a, b, c] 0 = some a := rfl
theorem at3_2 (a b c : D) : atI [a, b, c] 2 = some c := rfl
def lastOf (xs : List Int) : Int := xs.getLast?.getD 0
def toldL (sizes : List Int) (ls : List Look) : List Int := (allOf sizes).map fun c => lastOf (ledL sizes c ls)
theorem eqv_ints : ∀ (a b : List Int), PyData.eqv (.tuple (a.map .int)) (.tuple (b.map .int)) = decide (a = b) := by
  have key : ∀ (a b : List Int), PyData.eqvAll (a.map .int) (b.map .int) = decide (a = b) := by
    intro a
    induction a with
    | nil => intro b; cases b <;> simp [PyData.eqvAll]
    | cons x a ih =>
      intro b
      cases b with
      | nil => simp [PyData.eqvAll]
      | cons y b =>
        rw [List.map_cons, List.map_cons, PyData.eqvAll, ih]
        have e : PyData.eqv (.int x) (.int y) = decide (x = y) := rfl
        rw [e]
        by_cases h1 : x = y <;> by_cases h2 : a = b <;> simp [h1, h2]
  intro a b
  rw [PyData.eqv]
  exact key a b
theorem eq_ints2 (a b : List Int) : gEq [.tup (a.map .int), .tup (b.map .int)] = some (.bl (decide (a = b))) := by
  have py : ∀ ns : List Int, D.py (.tup (ns.map .int)) = some (.tuple (ns.map .int)) := fun ns => by
    have : D.pys (ns.map .int) = some (ns.map PyData.int) := by
      induction ns with
      | nil => rfl
      | cons n ns ih => rw [List.map_cons, D.pys, ih]; rfl
    rw [D.py, this]; rfl
  have sh : ∀ ns : List Int, SeqAt.shaped (.tuple (ns.map .int)) = true := fun ns => by
    obtain ⟨p, e, c, dp⟩ := num_py (num_tup (n := 0) (num_ints ns))
    rw [py ns] at e
    cases e
    unfold SeqAt.shaped
    rw [c, Bool.true_and]
    exact decide_eq_true (by omega)
  rw [Tw.eq_2, py, py, Option.bind_some, Option.bind_some, sh, sh, Bool.and_self, if_pos rfl, eqv_ints]
def turns (m : List Int) : Bool := decide ((nub m).length = m.length)
def ups (n : Nat) : List Int := (List.range n).map fun i : Nat => (i : Int)
theorem ups_nodup (n : Nat) : (ups n).Nodup := by
  show List.Pairwise _ _
  unfold ups
  rw [List.pairwise_map]
  exact List.Pairwise.imp (fun hab e => hab (by omega)) List.nodup_range
theorem rgN_n {n : Nat} (h : n ≤ 1000000) : rgN (.int (n : Int)) = some (ups n) := by
  unfold rgN
  have c1 : rngOk (n : Int) = true := rngOk_iff.mpr ⟨by omega, by omega⟩
  have c2 : lenOk ((n : Int).toNat) = true := lenOk_of (by omega)
  rw [show D.asI (.int (n : Int)) = some (n : Int) from rfl, Option.bind_some, c1, c2, Bool.and_self, if_pos rfl, Int.toNat_natCast]
  rfl
theorem erase_map : ∀ (xs : List Int) (i : Nat), (xs.map D.int).eraseIdx i = (xs.eraseIdx i).map D.int
  | [], _ => rfl
  | x :: xs, 0 => rfl
  | x :: xs, i + 1 => by
    show D.int x :: (xs.map D.int).eraseIdx i = D.int x :: (xs.eraseIdx i).map D.int
    rw [erase_map xs i]
theorem pop_at {xs : List Int} {q : Int} (h0 : 0 ≤ q) (h1 : q < xs.length) (hb : xs.length ≤ 1000000) : gPopAt (xs.map .int) (.int q) = some (.int (xs.getD q.toNat 0), (xs.eraseIdx q.toNat).map .int) := by
  have hl : q.toNat < xs.length := by omega
  have si : seqIndex? q (xs.map D.int).length = some q.toNat := by
    unfold seqIndex?
    rw [List.length_map]
    have e : (if q < 0 then q + (xs.length : Int) else q) = q := if_neg (by omega)
    simp only [e]
    rw [if_pos (by simp only [Bool.and_eq_true, decide_eq_true_eq]; exact ⟨h0, h1⟩)]
  have c : (D.oks (xs.map .int) && decide (-(2 ^ 63) ≤ q ∧ q < 2 ^ 63)) = true := by
    rw [oks_int, Bool.true_and]
    exact decide_eq_true ⟨by omega, by omega⟩
  unfold gPopAt
  rw [Tw.asI_int, Option.bind_some, if_pos c, si, Option.bind_some, List.getElem?_map, List.getElem?_eq_getElem hl, List.getD_eq_getElem?_getD, List.getElem?_eq_getElem hl]
  simp only [Option.map_some, Option.getD_some, Option.some.injEq, Prod.mk.injEq, true_and]
  exact erase_map xs q.toNat
theorem up_of_sorted : ∀ {l : List Int} {a m : Int}, l.Pairwise (· ≤ ·) → l.Nodup → (∀ x ∈ l, a + 1 ≤ x ∧ x ≤ m - 1) → Up a l m
  | [], _, _, _, _, _ => trivial
  | x :: r, a, m, hp, hn, hb => by
    rw [List.pairwise_cons] at hp
    rw [List.nodup_cons] at hn
    have hx := hb x List.mem_cons_self
    refine ⟨hx.1, hx.2, up_of_sorted hp.2 hn.2 fun y hy => ?_⟩
    have h1 := hp.1 y hy
    have h2 := (hb y (List.mem_cons_of_mem _ hy)).2
    have h3 : x ≠ y := fun e => hn.1 (e ▸ hy)
    exact ⟨by omega, h2⟩
theorem erase_perm : ∀ (xs : List Int) (i : Nat) (h : i < xs.length), (xs[i] :: xs.eraseIdx i).Perm xs
  | x :: xs, 0, _ => List.Perm.refl _
  | x :: xs, i + 1, h => by
    have hi : i < xs.length := by rw [List.length_cons] at h; omega
    have ih := erase_perm xs i hi
    show (xs[i] :: x :: xs.eraseIdx i).Perm (x :: xs)
    exact (List.Perm.swap x xs[i] _).trans (ih.cons x)
theorem mem_ups {n : Nat} {x : Int} : x ∈ ups n ↔ 0 ≤ x ∧ x < n := by
  unfold ups
  rw [List.mem_map]
  constructor
  · rintro ⟨i, hi, rfl⟩
    have := List.mem_range.mp hi
    omega
  · intro h
    exact ⟨x.toNat, List.mem_range.mpr (by omega), by omega⟩
theorem ups_len (n : Nat) : (ups n).length = n := by unfold ups; rw [List.length_map, List.length_range]
theorem llot_ok {hd : D} {n : Nat} (hh : Hand hd) (h0 : 1 ≤ n) (h6 : n ≤ 6) : ∃ hd' lot, h__law_lot [hd, .int n, .int 3] = .ret (.tup (lot.map .int)) [hd'] ∧ Hand hd' ∧ Up (-1) lot n ∧ lot.length ≤ 3 := by
  obtain ⟨r, h1, e1, ⟨r0, r1⟩, hh1⟩ := draw_ok (many := 4) hh (by omega) (by omega)
  have e2 := rgN_n (n := n) (by omega)
  obtain ⟨j, ej⟩ : ∃ j : Int, j = if r < (n : Int) then r else n := ⟨_, rfl⟩
  have jb : 0 ≤ j ∧ j ≤ 3 ∧ j ≤ n := by rw [ej]; split <;> omega
  have hr : rngOf [j] = some (0, j.toNat) := rngOf_1 (by omega)
  obtain ⟨env', ⟨h2, left, found, y, hh2, pm, fl, rfl⟩, e⟩ := for_ind (bd := bNm 5) (g := fun i : Nat => D.int (i : Int)) (body := sSeq (sExpr (fMt1 4 gAppend (fMt1 3 gPopAt (fCall [0] h__law_draw [(.slot 0), (.val (fN gLen [(.slot 3)]))])))) sNil)
    (fun i env => ∃ h2 left found y, Hand h2 ∧ (left ++ found).Perm (ups n) ∧ found.length = i ∧ env = [some h2, some (.int n), some (.int 3), some (.lst true (left.map .int)), some (.lst true (found.map .int)), y]) (List.range j.toNat) 0
    [some h1, some (.int n), some (.int 3), some (.lst true ((ups n).map .int)), some (.lst true []), none] ⟨h1, ups n, [], none, hh1, by rw [List.append_nil], rfl, rfl⟩ (by
      rintro i x env hi ⟨h2, left, found, y, hh2, pm, fl, rfl⟩
      rw [Nat.zero_add] at fl ⊢
      have il : i < j.toNat := by have := (List.getElem?_eq_some_iff.mp hi).1; rwa [List.length_range] at this
      have pl := pm.length_eq
      rw [List.length_append, ups_len] at pl
      have lp : 0 < left.length := by omega
      obtain ⟨q, h3, e3, ⟨q0, q1⟩, hh3⟩ := draw_ok (many := (left.length : Int)) hh2 (by omega) (by omega)
      have e4 := pop_at q0 q1 (by omega)
      have ql : q.toNat < left.length := by omega
      have l1 : lenOk (found.length + 1) = true := lenOk_of (by omega)
      refine ⟨_, ⟨h3, left.eraseIdx q.toNat, found ++ [left.getD q.toNat 0], some (.int x), hh3, ?_, by rw [List.length_append, fl]; rfl, rfl⟩, fun ds => ?_⟩
      · have p1 := erase_perm left q.toNat ql
        have eg : left.getD q.toNat 0 = left[q.toNat] := by rw [List.getD_eq_getElem?_getD, List.getElem?_eq_getElem ql]; rfl
        rw [eg]
        refine List.Perm.trans ?_ pm
        refine List.Perm.trans ?_ (List.Perm.append_right found p1)
        rw [← List.append_assoc]
        exact List.perm_append_comm.trans (List.Perm.refl _)
      · have em : (found ++ [left.getD q.toNat 0]).map D.int = found.map .int ++ [.int (left.getD q.toNat 0)] := by simp
        rw [em]
        simp only [e3, e4, append_1, l1, Tw.ev, List.replicate, ne_eq, reduceCtorEq, Nat.reduceAdd, Nat.reduceSub, Nat.reduceLT, Nat.reduceLeDiff, Int.reduceEq, Int.reduceNeg, Int.reduceLT, Int.reduceLE, Int.reduceAdd, Int.reduceMul, Int.reduceSub])
  rw [Nat.zero_add, List.length_range] at fl
  have nd : (left ++ found).Nodup := pm.nodup_iff.mpr (ups_nodup n)
  have fnd : found.Nodup := (List.nodup_append.mp nd).2.1
  have fin : ∀ x ∈ found, 0 ≤ x ∧ x < n := fun x hx => mem_ups.mp (pm.mem_iff.mp (List.mem_append_right _ hx))
  have sp := List.mergeSort_perm found fun a b => decide (a ≤ b)
  have so := List.pairwise_mergeSort (le := fun a b : Int => decide (a ≤ b)) (fun a b c h h' => by simp at h h' ⊢; omega) (fun a b => by simp; omega) found
  refine ⟨h2, found.mergeSort fun a b => decide (a ≤ b), ?_, hh2, up_of_sorted (so.imp fun h => of_decide_eq_true h) (sp.nodup_iff.mpr fnd) fun x hx => ?_, ?_⟩
  · simp only [h__law_lot, b__law_lot, e2, e1, ← ej, hr, rngD_0, e, Tw.ev, List.replicate, ne_eq, reduceCtorEq, Nat.reduceAdd, Nat.reduceSub, Nat.reduceLT, Nat.reduceLeDiff, Int.reduceEq, Int.reduceNeg, Int.reduceLT, Int.reduceLE, Int.reduceAdd, Int.reduceMul, Int.reduceSub]
  · have := fin x (sp.mem_iff.mp hx); omega
  · rw [sp.length_eq]; omega
def SzQ (i : Nat) (ns : List Int) : Prop := ns.length ≤ i ∧ (∀ s ∈ ns, 2 ≤ s ∧ s ≤ 4) ∧ 0 < prodI ns ∧ prodI ns ≤ 130 ∧ (0 < i → 1 ≤ ns.length)
theorem any_row {d : D} {m : Bool} {ls : List (List Int)} (hd : Hand d) (h1 : 0 < ls.length) (h2 : ls.length < 1073741824) : ∃ (r : List Int) (d' : D), h__law_any [d, .lst m (rows ls)] = .ret (.tup (r.map .int)) [d'] ∧ r ∈ ls ∧ Hand d' := by
  obtain ⟨r, d', e, ⟨b1, b2⟩, h⟩ := draw_ok (many := (ls.length : Int)) hd (by omega) (by omega)
  have a := at_rows (ls := ls) b1 b2
  refine ⟨ls.getD r.toNat [], d', ?_, ?_, h⟩
  · simp only [h__law_any, b__law_any, e, a, Tw.ev, List.replicate, ne_eq, reduceCtorEq, Nat.reduceAdd, Nat.reduceSub, Nat.reduceLT, Nat.reduceLeDiff, Int.reduceEq, Int.reduceNeg, Int.reduceLT, Int.reduceLE, Int.reduceAdd, Int.reduceMul, Int.reduceSub]
  · have h3 : r.toNat < ls.length := by omega
    rw [List.getD_eq_getElem?_getD, List.getElem?_eq_getElem h3]
    exact List.getElem_mem h3
theorem at3_1 (a b c : D) : atI [a, b, c] 1 = some b := rfl
abbrev Test := List Int × List Int
inductive Stm where | chg (w : Str) (t : Test) | skip (k : Int) (t : Test) | deed (n : Str)
def testD (t : Test) : D := .tup [.tup (t.1.map .int), .tup (t.2.map .int)]
def stmD : Stm → D
  | .chg w t => .tup [.str w, testD t]
  | .skip k t => .tup [.str "skip", .int k, testD t]
  | .deed n => .tup [.str "deed", .str n]
theorem stm_chg (w : Str) (t : Test) : stmD (.chg w t) = .tup [.str w, testD t] := rfl
theorem stm_skip (k : Int) (t : Test) : stmD (.skip k t) = .tup [.str "skip", .int k, testD t] := rfl
theorem stm_deed (n : Str) : stmD (.deed n) = .tup [.str "deed", .str n] := rfl
theorem testD_eq (t : Test) : testD t = .tup [.tup (t.1.map .int), .tup (t.2.map .int)] := rfl
theorem ok_test (t : Test) : D.ok (testD t) = true := by unfold testD; simp only [Tw.ev, List.replicate, ne_eq, reduceCtorEq, Nat.reduceAdd, Nat.reduceSub, Nat.reduceLT, Nat.reduceLeDiff, Int.reduceEq, Int.reduceNeg, Int.reduceLT, Int.reduceLE, Int.reduceAdd, Int.reduceMul, Int.reduceSub]
theorem frz_test (t : Test) : D.frz (testD t) = testD t := D.frz_ok (ok_test t)
theorem ok_stm (s : Stm) : D.ok (stmD s) = true := by cases s <;> simp only [stm_chg, stm_skip, stm_deed, ok_test, Tw.ev, List.replicate, ne_eq, reduceCtorEq, Nat.reduceAdd, Nat.reduceSub, Nat.reduceLT, Nat.reduceLeDiff, Int.reduceEq, Int.reduceNeg, Int.reduceLT, Int.reduceLE, Int.reduceAdd, Int.reduceMul, Int.reduceSub]
theorem frz_stm (s : Stm) : D.frz (stmD s) = stmD s := D.frz_ok (ok_stm s)
theorem oks_stms (ss : List Stm) : D.oks (ss.map stmD) = true := oks_mapD ok_stm ss
theorem frzs_stms (ss : List Stm) : D.frzs (ss.map stmD) = ss.map stmD := frzs_mapD ok_stm ss
def TestOk (sizes : List Int) (t : Test) : Prop := Up (-1) t.1 sizes.length ∧ t.1.length ≤ 3 ∧ t.2.length = t.1.length ∧ ∀ z ∈ (atLot sizes t.1).zip t.2, 0 ≤ z.2 ∧ z.2 ≤ z.1 - 1
def NameOk (n : Str) : Prop := PyData.strOk n = true ∧ h_is_name [.str n] = .ret (.bl true) []
def ChgOk (w : Str) : Prop := w = "set" ∨ w = "clear" ∨ w = "turn"
def StmOk (sizes : List Int) : Stm → Prop
  | .chg w t => ChgOk w ∧ TestOk sizes t
  | .skip k t => (1 ≤ k ∧ k ≤ 2) ∧ TestOk sizes t
  | .deed n => NameOk n
theorem k_skip : PyData.strOk ("skip" : Str) = true := by decide +kernel
theorem k_deed : PyData.strOk ("deed" : Str) = true := by decide +kernel
theorem k_turn : PyData.strOk ("turn" : Str) = true := by decide +kernel
theorem k_set : PyData.strOk ("set" : Str) = true := by decide +kernel
theorem ds_1 : ("skip" : Str) ≠ "deed" := by decide
theorem ds_2 : ("deed" : Str) ≠ "skip" := by decide
theorem ChgOk.ok {w : Str} (h : ChgOk w) : PyData.strOk w = true ∧ w ≠ "skip" ∧ w ≠ "deed" := by
  rcases h with rfl | rfl | rfl <;> decide +kernel
theorem lot_b {sizes : List Int} {lot : List Int} (h : Up (-1) lot sizes.length) : ∀ p ∈ lot, 0 ≤ p ∧ p < sizes.length := fun p hp => by have := up_in h p hp; omega
theorem is_test_ok {sizes : List Int} {t : Test} (sz : Sz sizes) (h : TestOk sizes t) : h_is_test [.tup (sizes.map .int), testD t] = .ret (.bl true) [] := by
  obtain ⟨h1, h2, h3, h4⟩ := h
  have e1 := pair_ok (.tup (t.1.map .int)) (.tup (t.2.map .int)) (by simp only [Tw.ev, List.replicate, ne_eq, reduceCtorEq, Nat.reduceAdd, Nat.reduceSub, Nat.reduceLT, Nat.reduceLeDiff, Int.reduceEq, Int.reduceNeg, Int.reduceLT, Int.reduceLE, Int.reduceAdd, Int.reduceMul, Int.reduceSub]) (by simp only [Tw.ev, List.replicate, ne_eq, reduceCtorEq, Nat.reduceAdd, Nat.reduceSub, Nat.reduceLT, Nat.reduceLeDiff, Int.reduceEq, Int.reduceNeg, Int.reduceLT, Int.reduceLE, Int.reduceAdd, Int.reduceMul, Int.reduceSub])
  have e2 := is_lot_ok h1
  have e3 := sizes_at_ok (lot_b h1) (show t.1.length ≤ 1000 by omega)
  have al : (atLot sizes t.1).length = t.1.length := by unfold atLot; rw [List.length_map]
  have e4 := is_content_ok (sizes := atLot sizes t.1) (c := t.2) (by rw [al, h3]) (by rw [al]; omega) h4
  have c3 : ¬ (3 : Int) < t.1.length := by omega
  simp only [h_is_test, b_is_test, testD_eq, e1, at2_0, at2_1, e2, c3, e3, e4, Tw.ev, List.replicate, ne_eq, reduceCtorEq, Nat.reduceAdd, Nat.reduceSub, Nat.reduceLT, Nat.reduceLeDiff, Int.reduceEq, Int.reduceNeg, Int.reduceLT, Int.reduceLE, Int.reduceAdd, Int.reduceMul, Int.reduceSub]
theorem is_statement_ok {sizes : List Int} {s : Stm} (sz : Sz sizes) (h : StmOk sizes s) : h_is_statement [.tup (sizes.map .int), stmD s] = .ret (.bl true) [] := by
  cases s with
  | chg w t =>
    obtain ⟨hw, ht⟩ := h
    obtain ⟨w1, w2, w3⟩ := hw.ok
    have e1 := is_test_ok sz ht
    have e2 : gIn [.str w, .tup [.str "set", .str "clear", .str "turn"]] = some (.bl true) := by rcases hw with rfl | rfl | rfl <;> rfl
    simp only [h_is_statement, b_is_statement, stm_chg, isa_tuple_tuple, isa_str_str, ok_test, frz_test, at2_0, at2_1, w1, w2, w3, k_skip, k_deed, e1, e2, Tw.cst_0, Tw.cst_1, Tw.cst_2, Tw.cst_3, Tw.cst_4, Tw.cst_5, Tw.ev, List.replicate, ne_eq, reduceCtorEq, Nat.reduceAdd, Nat.reduceSub, Nat.reduceLT, Nat.reduceLeDiff, Int.reduceEq, Int.reduceNeg, Int.reduceLT, Int.reduceLE, Int.reduceAdd, Int.reduceMul, Int.reduceSub]
  | skip k t =>
    obtain ⟨⟨k1, k2⟩, ht⟩ := h
    have e1 := is_test_ok sz ht
    simp only [h_is_statement, b_is_statement, stm_skip, isa_tuple_tuple, isa_str_str, ok_test, frz_test, at3_0, at3_1, at3_2, k_skip, k_deed, within_ok, k1, k2, e1, Tw.cst_0, Tw.cst_1, Tw.cst_2, Tw.cst_3, Tw.cst_4, Tw.cst_5, Tw.ev, List.replicate, ne_eq, reduceCtorEq, Nat.reduceAdd, Nat.reduceSub, Nat.reduceLT, Nat.reduceLeDiff, Int.reduceEq, Int.reduceNeg, Int.reduceLT, Int.reduceLE, Int.reduceAdd, Int.reduceMul, Int.reduceSub]
  | deed n =>
    obtain ⟨h1, h2⟩ := h
    simp only [h_is_statement, b_is_statement, stm_deed, isa_tuple_tuple, isa_str_str, at2_0, at2_1, k_skip, k_deed, ds_2, h2, Tw.cst_0, Tw.cst_1, Tw.cst_2, Tw.cst_3, Tw.cst_4, Tw.cst_5, Tw.ev, List.replicate, ne_eq, reduceCtorEq, Nat.reduceAdd, Nat.reduceSub, Nat.reduceLT, Nat.reduceLeDiff, Int.reduceEq, Int.reduceNeg, Int.reduceLT, Int.reduceLE, Int.reduceAdd, Int.reduceMul, Int.reduceSub]
def progD (m : Bool) (sizes : List Int) (ss : List Stm) : D := .obj m 0 ["sizes", "statements"] [.tup (sizes.map .int), .tup (ss.map stmD)]
theorem init_prog {sizes : List Int} {ss : List Stm} (sz : Sz sizes) (h : ∀ s ∈ ss, StmOk sizes s) (hn : ss.length ≤ 5000) : h_Program_init [.obj true 0 [] [], .tup (sizes.map .int), .tup (ss.map stmD)] = .ret .non [progD true sizes ss] := by
  have e1 := check_sizes_ok sz
  have c : ¬ (5000 : Int) < ss.length := by omega
  obtain ⟨env', ⟨y, z, rfl⟩, e⟩ := for_keep (bd := bTp (bCons (bNm 3) (bCons (bNm 4) bNil))) (body := l_Program_init_1) (g := fun p : Stm × Nat => D.pr [.int (p.2 : Int), stmD p.1])
    (fun env => ∃ y z, env = [some (.obj true 0 [] []), some (.tup (sizes.map .int)), some (.tup (ss.map stmD)), y, z]) ss.zipIdx [some (.obj true 0 [] []), some (.tup (sizes.map .int)), some (.tup (ss.map stmD)), none, none] ⟨none, none, rfl⟩ (by
      rintro p hp env ⟨y, z, rfl⟩
      have el := is_statement_ok sz (h p.1 (mem_zipIdx' hp))
      refine ⟨_, ⟨some (.int p.2), some (stmD p.1), rfl⟩, fun ds => ?_⟩
      simp only [l_Program_init_1, ok_stm, frz_stm, el, Tw.ev, List.replicate, ne_eq, reduceCtorEq, Nat.reduceAdd, Nat.reduceSub, Nat.reduceLT, Nat.reduceLeDiff, Int.reduceEq, Int.reduceNeg, Int.reduceLT, Int.reduceLE, Int.reduceAdd, Int.reduceMul, Int.reduceSub])
  have p1 : putN "sizes" [] = (["sizes"] : List Str) := rfl
  have p2 : putD "sizes" (.tup (sizes.map .int)) [] [] = [.tup (sizes.map .int)] := rfl
  have p3 : putN "statements" ["sizes"] = (["sizes", "statements"] : List Str) := by decide
  have p4 : putD "statements" (.tup (ss.map stmD)) ["sizes"] [.tup (sizes.map .int)] = [.tup (sizes.map .int), .tup (ss.map stmD)] := rfl
  have q1 : oldOk "sizes" [] [] = true := rfl
  have q2 : oldOk "statements" ["sizes"] [.tup (sizes.map .int)] = true := rfl
  have o1 : own_sizes 0 = true := rfl
  have o2 : own_statements 0 = true := rfl
  simp only [h_Program_init, b_Program_init, e1, isa_tuple_tuple, oks_stms, frzs_stms, c, enum_mapD, e, p1, p2, p3, p4, q1, q2, o1, o2, progD, Tw.ev, List.replicate, ne_eq, reduceCtorEq, Nat.reduceAdd, Nat.reduceSub, Nat.reduceLT, Nat.reduceLeDiff, Int.reduceEq, Int.reduceNeg, Int.reduceLT, Int.reduceLE, Int.reduceAdd, Int.reduceMul, Int.reduceSub]
theorem pfld_sizes {m : Bool} {sizes : List Int} {ss : List Stm} : gFld own_sizes "sizes" [progD m sizes ss] = some (.tup (sizes.map .int)) := by
  have o : own_sizes 0 = true := rfl
  unfold progD
  rw [fld_obj, o, if_pos rfl, look_1, if_pos rfl, Option.bind_some, ok_tI, if_pos rfl]
theorem pfld_statements {m : Bool} {sizes : List Int} {ss : List Stm} : gFld own_statements "statements" [progD m sizes ss] = some (.tup (ss.map stmD)) := by
  have o : own_statements 0 = true := rfl
  have n1 : ("statements" : Str) ≠ "sizes" := by decide
  unfold progD
  rw [fld_obj, o, if_pos rfl, look_1, if_neg n1, look_1, if_pos rfl, Option.bind_some, Tw.ok_tup, oks_stms, if_pos rfl]
theorem frz_prog {m : Bool} {sizes : List Int} {ss : List Stm} : D.frz (progD m sizes ss) = progD false sizes ss := by
  unfold progD
  simp only [frzs_stms, Tw.ev, List.replicate, ne_eq, reduceCtorEq, Nat.reduceAdd, Nat.reduceSub, Nat.reduceLT, Nat.reduceLeDiff, Int.reduceEq, Int.reduceNeg, Int.reduceLT, Int.reduceLE, Int.reduceAdd, Int.reduceMul, Int.reduceSub]
def shw (c : List Int) (t : Test) : Bool := decide (atLot c t.1 = t.2)
def chgd (f : Bool) (w : Str) : Bool := if w = "turn" then !f else decide (w = "set")
abbrev Mst := Bool × Int × List Str
def stepS (c : List Int) (st : Mst) (s : Stm) : Mst := if 0 < st.2.1 then (st.1, st.2.1 - 1, st.2.2) else match s with
  | .deed n => if st.1 then (st.1, st.2.1, st.2.2 ++ [n]) else st
  | .skip k t => if shw c t then (st.1, k, st.2.2) else st
  | .chg w t => if shw c t then (chgd st.1 w, st.2.1, st.2.2) else st
def runS (c : List Int) (ss : List Stm) : Mst := ss.foldl (stepS c) (false, 0, [])
theorem stepS_len (c : List Int) (st : Mst) (s : Stm) : (stepS c st s).2.2.length ≤ st.2.2.length + 1 := by
  unfold stepS
  split
  · simp
  · cases s with
    | deed n => by_cases h : st.1 = true <;> simp [h]
    | skip k t => by_cases h : shw c t = true <;> simp [h]
    | chg w t => by_cases h : shw c t = true <;> simp [h]
theorem fold_len (c : List Int) : ∀ (ss : List Stm) (st : Mst), (ss.foldl (stepS c) st).2.2.length ≤ st.2.2.length + ss.length
  | [], st => by simp
  | s :: ss, st => by
    rw [List.foldl_cons, List.length_cons]
    have h1 := fold_len c ss (stepS c st s)
    have h2 := stepS_len c st s
    omega
theorem shows_ok {c : List Int} {sizes : List Int} {t : Test} (hl : c.length = sizes.length) (h : TestOk sizes t) : h_shows [.tup (c.map .int), testD t] = .ret (.bl (shw c t)) [] := by
  have e1 := joint_ok (c := c) (lot := t.1) (fun p hp => by rw [hl]; exact lot_b h.1 p hp) (by have := h.2.1; omega)
  simp only [h_shows, b_shows, testD_eq, at2_0, at2_1, e1, eq_ints2, shw, Tw.ev, List.replicate, ne_eq, reduceCtorEq, Nat.reduceAdd, Nat.reduceSub, Nat.reduceLT, Nat.reduceLeDiff, Int.reduceEq, Int.reduceNeg, Int.reduceLT, Int.reduceLE, Int.reduceAdd, Int.reduceMul, Int.reduceSub]
theorem changed_ok {f : Bool} {w : Str} (hw : PyData.strOk w = true) : h_changed [.bl f, .str w] = .ret (.bl (chgd f w)) [] := by
  by_cases c : w = "turn"
  · simp only [h_changed, b_changed, hw, k_turn, c, chgd, Tw.ev, List.replicate, ne_eq, reduceCtorEq, Nat.reduceAdd, Nat.reduceSub, Nat.reduceLT, Nat.reduceLeDiff, Int.reduceEq, Int.reduceNeg, Int.reduceLT, Int.reduceLE, Int.reduceAdd, Int.reduceMul, Int.reduceSub]
  · simp only [h_changed, b_changed, hw, k_turn, k_set, c, chgd, Tw.ev, List.replicate, ne_eq, reduceCtorEq, Nat.reduceAdd, Nat.reduceSub, Nat.reduceLT, Nat.reduceLeDiff, Int.reduceEq, Int.reduceNeg, Int.reduceLT, Int.reduceLE, Int.reduceAdd, Int.reduceMul, Int.reduceSub]
abbrev rNs : List Str := ["content", "flag", "left", "names"]
def runD (m : Bool) (c : List Int) (st : Mst) : D := .obj m 1 ["content", "flag", "left", "names"] [.tup (c.map .int), .bl st.1, .int st.2.1, .lst m (st.2.2.map .str)]
theorem init_run (c : List Int) : h_Run_init [.obj true 1 [] [], .tup (c.map .int)] = .ret .non [runD true c (false, 0, [])] := by
  have p1 : putN "content" [] = (["content"] : List Str) := rfl
  have p2 : putD "content" (.tup (c.map .int)) [] [] = [.tup (c.map .int)] := rfl
  have p3 : putN "flag" ["content"] = (["content", "flag"] : List Str) := by decide
  have p4 : putD "flag" (.bl false) ["content"] [.tup (c.map .int)] = [.tup (c.map .int), .bl false] := rfl
  have p5 : putN "left" ["content", "flag"] = (["content", "flag", "left"] : List Str) := by decide
  have p6 : putD "left" (.int 0) ["content", "flag"] [.tup (c.map .int), .bl false] = [.tup (c.map .int), .bl false, .int 0] := rfl
  have p7 : putN "names" ["content", "flag", "left"] = (["content", "flag", "left", "names"] : List Str) := by decide
  have p8 : putD "names" (.lst true []) ["content", "flag", "left"] [.tup (c.map .int), .bl false, .int 0] = [.tup (c.map .int), .bl false, .int 0, .lst true []] := rfl
  have q1 : oldOk "content" [] [] = true := rfl
  have q2 : oldOk "flag" ["content"] [.tup (c.map .int)] = true := rfl
  have q3 : oldOk "left" ["content", "flag"] [.tup (c.map .int), .bl false] = true := rfl
  have q4 : oldOk "names" ["content", "flag", "left"] [.tup (c.map .int), .bl false, .int 0] = true := rfl
  have o1 : own_content 1 = true := rfl
  have o2 : own_flag 1 = true := rfl
  have o3 : own_left 1 = true := rfl
  have o4 : own_names 1 = true := rfl
  simp only [h_Run_init, b_Run_init, p1, p2, p3, p4, p5, p6, p7, p8, q1, q2, q3, q4, o1, o2, o3, o4, runD, Tw.ev, List.replicate, ne_eq, reduceCtorEq, Nat.reduceAdd, Nat.reduceSub, Nat.reduceLT, Nat.reduceLeDiff, Int.reduceEq, Int.reduceNeg, Int.reduceLT, Int.reduceLE, Int.reduceAdd, Int.reduceMul, Int.reduceSub]
theorem ufld_flag {m : Bool} {c : List Int} {st : Mst} : gFld own_flag "flag" [runD m c st] = some (.bl st.1) := rfl
theorem ufld_left {m : Bool} {c : List Int} {st : Mst} : gFld own_left "left" [runD m c st] = some (.int st.2.1) := rfl
theorem ufld_content {m : Bool} {c : List Int} {st : Mst} : gFld own_content "content" [runD m c st] = some (.tup (c.map .int)) := by
  have o : own_content 1 = true := rfl
  unfold runD
  rw [fld_obj, o, if_pos rfl, look_1, if_pos rfl, Option.bind_some, ok_tI, if_pos rfl]
theorem oo_run (c : List Int) (st : Mst) : ooR (some (some (runD true c st))) = some (1, (["content", "flag", "left", "names"] : List Str), ([D.tup (c.map .int), D.bl st.1, D.int st.2.1, D.lst true (st.2.2.map .str)] : List D)) := rfl
theorem step_ok {sizes c : List Int} {st : Mst} {s : Stm} (hl : c.length = sizes.length) (h : StmOk sizes s) (hn : st.2.2.length ≤ 1000000) : h_Run_step [runD true c st, stmD s] = .ret (.bl (decide (0 < st.2.1))) [runD true c (stepS c st s)] := by
  obtain ⟨f, l, ns⟩ := st
  have o2 : own_flag 1 = true := rfl
  have o3 : own_left 1 = true := rfl
  have o4 : own_names 1 = true := rfl
  have ln : ns.length ≤ 1000000 := hn
  have l1 : lenOk (ns.length + 1) = true := lenOk_of (by omega)
  have lk1 : Tw.lookD rNs [D.tup (c.map .int), .bl f, .int l, .lst true (ns.map .str)] "left" = some (.int l) := rfl
  have lk2 : Tw.lookD rNs [D.tup (c.map .int), .bl f, .int l, .lst true (ns.map .str)] "names" = some (.lst true (ns.map .str)) := rfl
  have pn1 : putN "left" rNs = rNs := by decide
  have pn2 : putN "flag" rNs = rNs := by decide
  have ol1 : oldOk "left" rNs [D.tup (c.map .int), .bl f, .int l, .lst true (ns.map .str)] = true := rfl
  have ol2 : oldOk "flag" rNs [D.tup (c.map .int), .bl f, .int l, .lst true (ns.map .str)] = true := rfl
  have pd1 : ∀ z, putD "left" z rNs [D.tup (c.map .int), .bl f, .int l, .lst true (ns.map .str)] = [.tup (c.map .int), .bl f, z, .lst true (ns.map .str)] := fun _ => rfl
  have pd2 : ∀ z, putD "flag" z rNs [D.tup (c.map .int), .bl f, .int l, .lst true (ns.map .str)] = [.tup (c.map .int), z, .int l, .lst true (ns.map .str)] := fun _ => rfl
  have pd3 : ∀ z, putD "names" z rNs [D.tup (c.map .int), .bl f, .int l, .lst true (ns.map .str)] = [.tup (c.map .int), .bl f, .int l, z] := fun _ => rfl
  by_cases c0 : 0 < l
  · simp only [h_Run_step, b_Run_step, ufld_left, c0, frz_stm, oo_run, o3, lk1, pn1, ol1, pd1, stepS, Tw.ev, List.replicate, ne_eq, reduceCtorEq, Nat.reduceAdd, Nat.reduceSub, Nat.reduceLT, Nat.reduceLeDiff, Int.reduceEq, Int.reduceNeg, Int.reduceLT, Int.reduceLE, Int.reduceAdd, Int.reduceMul, Int.reduceSub]
    rfl
  · cases s with
    | deed n =>
      obtain ⟨h1, h2⟩ := h
      cases f with
      | true =>
        simp only [h_Run_step, b_Run_step, ufld_left, ufld_flag, c0, stm_deed, at2_0, at2_1, k_deed, oo_run, o4, lk2, append_1, l1, pd3, stepS, Tw.ev, List.replicate, ne_eq, reduceCtorEq, Nat.reduceAdd, Nat.reduceSub, Nat.reduceLT, Nat.reduceLeDiff, Int.reduceEq, Int.reduceNeg, Int.reduceLT, Int.reduceLE, Int.reduceAdd, Int.reduceMul, Int.reduceSub]
        simp [runD]
      | false =>
        simp only [h_Run_step, b_Run_step, ufld_left, ufld_flag, c0, stm_deed, at2_0, at2_1, k_deed, stepS, Tw.ev, List.replicate, ne_eq, reduceCtorEq, Nat.reduceAdd, Nat.reduceSub, Nat.reduceLT, Nat.reduceLeDiff, Int.reduceEq, Int.reduceNeg, Int.reduceLT, Int.reduceLE, Int.reduceAdd, Int.reduceMul, Int.reduceSub]
    | skip k t =>
      obtain ⟨hk, ht⟩ := h
      have e1 := shows_ok hl ht
      by_cases c1 : shw c t = true
      · simp only [h_Run_step, b_Run_step, ufld_left, ufld_flag, ufld_content, c0, stm_skip, ok_test, frz_test, at3_0, at3_1, at3_m, k_deed, k_skip, ds_1, e1, c1, oo_run, o3, pn1, ol1, pd1, stepS, Tw.ev, List.replicate, ne_eq, reduceCtorEq, Nat.reduceAdd, Nat.reduceSub, Nat.reduceLT, Nat.reduceLeDiff, Int.reduceEq, Int.reduceNeg, Int.reduceLT, Int.reduceLE, Int.reduceAdd, Int.reduceMul, Int.reduceSub]
        rfl
      · simp only [h_Run_step, b_Run_step, ufld_left, ufld_flag, ufld_content, c0, stm_skip, ok_test, frz_test, at3_0, at3_1, at3_m, k_deed, k_skip, ds_1, e1, c1, stepS, Tw.ev, List.replicate, ne_eq, reduceCtorEq, Nat.reduceAdd, Nat.reduceSub, Nat.reduceLT, Nat.reduceLeDiff, Int.reduceEq, Int.reduceNeg, Int.reduceLT, Int.reduceLE, Int.reduceAdd, Int.reduceMul, Int.reduceSub]
    | chg w t =>
      obtain ⟨hw, ht⟩ := h
      obtain ⟨w1, w2, w3⟩ := hw.ok
      have e1 := shows_ok hl ht
      have e2 := changed_ok (f := f) w1
      by_cases c1 : shw c t = true
      · simp only [h_Run_step, b_Run_step, ufld_left, ufld_flag, ufld_content, c0, stm_chg, ok_test, frz_test, at2_0, at2_1, at2_m, w1, w2, w3, k_deed, k_skip, e1, c1, oo_run, o2, e2, pn2, ol2, pd2, stepS, Tw.ev, List.replicate, ne_eq, reduceCtorEq, Nat.reduceAdd, Nat.reduceSub, Nat.reduceLT, Nat.reduceLeDiff, Int.reduceEq, Int.reduceNeg, Int.reduceLT, Int.reduceLE, Int.reduceAdd, Int.reduceMul, Int.reduceSub]
        rfl
      · simp only [h_Run_step, b_Run_step, ufld_left, ufld_flag, ufld_content, c0, stm_chg, ok_test, frz_test, at2_0, at2_1, at2_m, w1, w2, w3, k_deed, k_skip, e1, c1, stepS, Tw.ev, List.replicate, ne_eq, reduceCtorEq, Nat.reduceAdd, Nat.reduceSub, Nat.reduceLT, Nat.reduceLeDiff, Int.reduceEq, Int.reduceNeg, Int.reduceLT, Int.reduceLE, Int.reduceAdd, Int.reduceMul, Int.reduceSub]
theorem list_choose {α : Type} {f : α → D} {P : α → Prop} : ∀ {ds : List D}, (∀ d ∈ ds, ∃ s, P s ∧ d = f s) → ∃ ss : List α, ds = ss.map f ∧ ∀ s ∈ ss, P s
  | [], _ => ⟨[], rfl, by simp⟩
  | d :: ds, h => by
    obtain ⟨s, hs, rfl⟩ := h d List.mem_cons_self
    obtain ⟨ss, rfl, hss⟩ := list_choose (f := f) (P := P) fun d hd => h d (List.mem_cons_of_mem _ hd)
    exact ⟨s :: ss, rfl, fun z hz => (List.mem_cons.mp hz).elim (fun e => e ▸ hs) (hss z)⟩
theorem nm_step : ("step" : Str) ∉ (["content", "flag", "left", "names"] : List Str) := by decide
def preS (c : List Int) (ss : List Stm) (i : Nat) : Mst := (ss.take i).foldl (stepS c) (false, 0, [])
theorem preS_succ {c : List Int} {ss : List Stm} {i : Nat} {s : Stm} (e : ss[i]? = some s) : preS c ss (i + 1) = stepS c (preS c ss i) s := take_fold _ e _
theorem preS_all (c : List Int) (ss : List Stm) : preS c ss ss.length = runS c ss := by unfold preS runS; rw [List.take_length]
theorem preS_len (c : List Int) (ss : List Stm) (i : Nat) : (preS c ss i).2.2.length ≤ ss.length := by
  have h := fold_len c (ss.take i) (false, 0, [])
  have h2 := List.length_take_le' (i := i) (l := ss)
  unfold preS
  simp only [List.length_nil, Nat.zero_add] at h
  omega
theorem run_of_ok {m : Bool} {sizes c : List Int} {ss : List Stm} (hl : c.length = sizes.length) (h : ∀ s ∈ ss, StmOk sizes s) (hn : ss.length ≤ 1000000) : h_run_of [progD m sizes ss, .tup (c.map .int)] = .ret (runD true c (runS c ss)) [] := by
  obtain ⟨y', e⟩ := for_fx (bd := bNm 3) (body := l_run_of_1) (g := stmD) (fun (st : Mst) (y : Option D) => [some (progD false sizes ss), some (.tup (c.map .int)), some (runD true c st), y]) (stepS c) ss (false, 0, []) none (by
    intro i s y hi
    have hs := h s (List.mem_of_getElem? hi)
    have e1 := step_ok (c := c) (st := preS c ss i) hl hs (by have := preS_len c ss i; omega)
    unfold preS at e1
    refine ⟨_, some (stmD s), rfl, .inl ?_⟩
    simp only [l_run_of_1, frz_stm, oo_run, nm_step, e1, Tw.ev, List.replicate, ne_eq, reduceCtorEq, Nat.reduceAdd, Nat.reduceSub, Nat.reduceLT, Nat.reduceLeDiff, Int.reduceEq, Int.reduceNeg, Int.reduceLT, Int.reduceLE, Int.reduceAdd, Int.reduceMul, Int.reduceSub])
  have e0 := init_run c
  simp only [h_run_of, b_run_of, frz_prog, e0, pfld_statements, oks_stms, e, runS, Tw.ev, List.replicate, ne_eq, reduceCtorEq, Nat.reduceAdd, Nat.reduceSub, Nat.reduceLT, Nat.reduceLeDiff, Int.reduceEq, Int.reduceNeg, Int.reduceLT, Int.reduceLE, Int.reduceAdd, Int.reduceMul, Int.reduceSub]
def b01 (b : Bool) : Int := if b then 1 else 0
def flagsL (sizes : List Int) (ss : List Stm) : List Int := (allOf sizes).map fun c => b01 (runS c ss).1
def mapS (s : Stm) (b : Bool) (x : Int) : Int := if 1 < x then x - 2 else match s with
  | .deed _ => x
  | .skip k _ => if b then x + 2 * k else x
  | .chg w _ => if b then b01 (chgd (decide (x = 1)) w) else x
def mapL (n : Nat) (s : Stm) (b : Bool) : List Int := (List.range n).map fun i : Nat => mapS s b (i : Int)
def lookOf (sizes : List Int) (n : Nat) : Stm → Look
  | .deed nm => ([], [mapL n (.deed nm) false])
  | .skip k t => (t.1, (allOf (atLot sizes t.1)).map fun one => mapL n (.skip k t) (decide (one = t.2)))
  | .chg w t => (t.1, (allOf (atLot sizes t.1)).map fun one => mapL n (.chg w t) (decide (one = t.2)))
def skipOf : Stm → List Int
  | .skip k _ => [k]
  | _ => []
def skipsOf (ss : List Stm) : List Int := ss.flatMap skipOf
def mostOf (ss : List Stm) : Int := maxOr 0 (skipsOf ss)
theorem mem_all : ∀ {sizes c : List Int}, c.length = sizes.length → (∀ z ∈ sizes.zip c, 0 ≤ z.2 ∧ z.2 ≤ z.1 - 1) → c ∈ allOf sizes := by
  have key : ∀ (sizes : List Int) (c p : List Int) (acc : List (List Int)), p ∈ acc → c.length = sizes.length → (∀ z ∈ sizes.zip c, 0 ≤ z.2 ∧ z.2 ≤ z.1 - 1) → p ++ c ∈ sizes.foldl grow acc := by
    intro sizes
    induction sizes with
    | nil => intro c p acc hp hl _; rw [List.length_eq_zero_iff.mp hl, List.append_nil]; exact hp
    | cons s sizes ih =>
      intro c p acc hp hl h
      cases c with
      | nil => simp at hl
      | cons x c =>
        have hx := h (s, x) (by simp)
        simp only at hx
        have e : p ++ x :: c = (p ++ [x]) ++ c := by simp
        rw [e, List.foldl_cons]
        refine ih c (p ++ [x]) _ ?_ (by simpa using hl) fun z hz => h z (by simp [hz])
        unfold grow
        exact List.mem_flatMap.mpr ⟨p, hp, List.mem_map.mpr ⟨x.toNat, List.mem_range.mpr (by omega), by rw [Int.toNat_of_nonneg hx.1]⟩⟩
  intro sizes c hl h
  exact key sizes c [] [[]] (by simp) hl h
def svM (st : Mst) : Int := b01 st.1 + 2 * st.2.1
def shwS (c : List Int) : Stm → Bool
  | .deed _ => false
  | .skip _ t => shw c t
  | .chg _ t => shw c t
def svsL (c : List Int) (ss : List Stm) (k : Nat) : List Int := (List.range k).map fun i => svM (preS c ss i)
theorem any_mapD {α : Type} {f : α → D} {d : D} {m : Bool} {xs : List α} (hf : ∀ x, D.ok (f x) = true) (hd : Hand d) (h1 : 0 < xs.length) (h2 : xs.length < 1073741824) : ∃ (x : α) (d' : D), h__law_any [d, .lst m (xs.map f)] = .ret (f x) [d'] ∧ x ∈ xs ∧ Hand d' := by
  obtain ⟨r, d', e, ⟨b1, b2⟩, h⟩ := draw_ok (many := (xs.length : Int)) hd (by omega) (by omega)
  have h3 : r.toNat < xs.length := by omega
  have a := atI_mapD (f := f) b1 (List.getElem?_eq_getElem h3)
  have fz := frzs_mapD hf xs
  have ok := oks_mapD hf xs
  refine ⟨xs[r.toNat], d', ?_, List.getElem_mem h3, h⟩
  simp only [h__law_any, b__law_any, fz, ok, e, a, Tw.ev, List.replicate, ne_eq, reduceCtorEq, Nat.reduceAdd, Nat.reduceSub, Nat.reduceLT, Nat.reduceLeDiff, Int.reduceEq, Int.reduceNeg, Int.reduceLT, Int.reduceLE, Int.reduceAdd, Int.reduceMul, Int.reduceSub]
theorem ljoint_ok {c lot : List Int} (hl : ∀ p ∈ lot, 0 ≤ p ∧ p < c.length) (l : lot.length ≤ 1000) : h__law_joint [.tup (lot.map .int), .tup (c.map .int)] = .ret (.tup ((atLot c lot).map .int)) [] := by
  have l1 : lenOk lot.length = true := lenOk_of (by omega)
  have key : compGo [2] (bNm 2) bTrue c__law_joint_1 (lot.map .int) [] [some (.tup (lot.map .int)), some (.tup (c.map .int)), none] = .ok ((atLot c lot).map .int) [some (.tup (lot.map .int)), some (.tup (c.map .int)), none] := by
    unfold atLot
    rw [List.map_map]
    refine comp_map1 (fun p => .int (c.getD p.toNat 0)) lot fun x hx ds acc => ?_
    have a := atI_map (hl x hx).1 (hl x hx).2
    simp only [c__law_joint_1, a, Tw.ev, List.replicate, ne_eq, reduceCtorEq, Nat.reduceAdd, Nat.reduceSub, Nat.reduceLT, Nat.reduceLeDiff, Int.reduceEq, Int.reduceNeg, Int.reduceLT, Int.reduceLE, Int.reduceAdd, Int.reduceMul, Int.reduceSub]
  simp only [h__law_joint, b__law_joint, l1, key, Tw.ev, List.replicate, ne_eq, reduceCtorEq, Nat.reduceAdd, Nat.reduceSub, Nat.reduceLT, Nat.reduceLeDiff, Int.reduceEq, Int.reduceNeg, Int.reduceLT, Int.reduceLE, Int.reduceAdd, Int.reduceMul, Int.reduceSub]
theorem lshows_ok {c : List Int} {sizes : List Int} {t : Test} (hl : c.length = sizes.length) (h : TestOk sizes t) : h__law_shows [.tup (c.map .int), testD t] = .ret (.bl (shw c t)) [] := by
  have e1 := ljoint_ok (c := c) (lot := t.1) (fun p hp => by rw [hl]; exact lot_b h.1 p hp) (by have := h.2.1; omega)
  simp only [h__law_shows, b__law_shows, testD_eq, at2_0, at2_1, e1, eq_ints2, shw, Tw.ev, List.replicate, ne_eq, reduceCtorEq, Nat.reduceAdd, Nat.reduceSub, Nat.reduceLT, Nat.reduceLeDiff, Int.reduceEq, Int.reduceNeg, Int.reduceLT, Int.reduceLE, Int.reduceAdd, Int.reduceMul, Int.reduceSub]
theorem ltest_ok {hd : D} {sizes : List Int} (hh : Hand hd) (sz : Sz sizes) : ∃ (hd' : D) (t : Test), h__law_test [hd, .tup (sizes.map .int)] = .ret (testD t) [hd'] ∧ Hand hd' ∧ TestOk sizes t := by
  obtain ⟨hd1, lot, e1, hh1, up, l3⟩ := llot_ok (n := sizes.length) hh (by have := sz.1; omega) sz.2.1
  have b := lot_b up
  have l1 : lenOk lot.length = true := lenOk_of (by omega)
  obtain ⟨ds, hd2, hh2, dl, dr, e2⟩ := comp_st (vs := [3]) (b := bNm 3) (f := c__law_test_1) (g := D.int) (fun hd : D => [some hd, some (.tup (sizes.map .int)), some (.tup (lot.map .int)), none]) Hand (fun p d => ∃ x : Int, d = .int x ∧ 0 ≤ x ∧ x < sizes.getD p.toNat 0) lot [] hd1 hh1 (fun _ => rfl) fun p hp hd hh => by
    have bp := b p hp
    have a := atI_map bp.1 bp.2
    have hs : sizes.getD p.toNat 0 ∈ sizes := by
      have : p.toNat < sizes.length := by omega
      rw [List.getD_eq_getElem?_getD, List.getElem?_eq_getElem this]; exact List.getElem_mem this
    have s4 := sz.b _ hs
    have s0 := sz.pos _ hs
    obtain ⟨r, hd', e, ⟨r0, r1⟩, hh'⟩ := draw_ok (many := sizes.getD p.toNat 0) hh s0 (by omega)
    refine ⟨_, [some hd', some (.tup (sizes.map .int)), some (.tup (lot.map .int)), some (.int p)], hd', .int r, rfl, ?_, rfl, hh', r, rfl, r0, r1⟩
    simp only [c__law_test_1, a, e, Tw.ev, List.replicate, ne_eq, reduceCtorEq, Nat.reduceAdd, Nat.reduceSub, Nat.reduceLT, Nat.reduceLeDiff, Int.reduceEq, Int.reduceNeg, Int.reduceLT, Int.reduceLE, Int.reduceAdd, Int.reduceMul, Int.reduceSub]
  obtain ⟨joint, ej, _⟩ := list_choose (f := D.int) (P := fun _ => True) (ds := ds) fun d hd => by
    obtain ⟨i, hi⟩ := List.mem_iff_getElem?.mp hd
    obtain ⟨p, _, x, rfl, _⟩ := dr i d hi
    exact ⟨x, trivial, rfl⟩
  subst ej
  rw [List.length_map] at dl
  rw [List.nil_append] at e2
  refine ⟨hd2, (lot, joint), ?_, hh2, up, l3, dl, fun z hz => ?_⟩
  · simp only [h__law_test, b__law_test, e1, l1, e2, testD_eq, Tw.ev, List.replicate, ne_eq, reduceCtorEq, Nat.reduceAdd, Nat.reduceSub, Nat.reduceLT, Nat.reduceLeDiff, Int.reduceEq, Int.reduceNeg, Int.reduceLT, Int.reduceLE, Int.reduceAdd, Int.reduceMul, Int.reduceSub]
  · obtain ⟨i, hi⟩ := List.mem_iff_getElem?.mp hz
    obtain ⟨z1, z2⟩ := List.getElem?_zip_eq_some.mp hi
    obtain ⟨p, hp, x, ex, x0, x1⟩ := dr i (.int z.2) (by rw [List.getElem?_map, z2]; rfl)
    cases ex
    unfold atLot at z1
    rw [List.getElem?_map, hp] at z1
    have : z.1 = sizes.getD p.toNat 0 := (Option.some.inj z1).symm
    omega
theorem n_go : NameOk "go" := ⟨by decide +kernel, by rfl⟩
theorem n_a : NameOk "a" := ⟨by decide +kernel, by rfl⟩
theorem n_lamp : NameOk "lamp" := ⟨by decide +kernel, by rfl⟩
theorem n_z : NameOk "zzzzzzzz" := ⟨by decide +kernel, by rfl⟩
theorem n_set : NameOk "set" := ⟨by decide +kernel, by rfl⟩
theorem n_b : NameOk "b" := ⟨by decide +kernel, by rfl⟩
def prD (p : Bool × Bool) : D := .tup [.bl p.1, .bl p.2]
theorem ok_prD (p : Bool × Bool) : D.ok (prD p) = true := rfl
def stepT (c : List Int) (b : Mst × List (Bool × Bool)) (s : Stm) : Mst × List (Bool × Bool) := (stepS c b.1 s, b.2 ++ [((stepS c b.1 s).1, decide (0 < b.1.2.1))])
def trL (c : List Int) (ss : List Stm) (k : Nat) : List (Bool × Bool) := (List.range k).map fun i => ((preS c ss (i + 1)).1, decide (0 < (preS c ss i).2.1))
theorem trL_succ (c : List Int) (ss : List Stm) (k : Nat) : trL c ss (k + 1) = trL c ss k ++ [((preS c ss (k + 1)).1, decide (0 < (preS c ss k).2.1))] := by unfold trL; rw [List.range_succ, List.map_append]; rfl
theorem foldT {c : List Int} {ss : List Stm} : ∀ i, i ≤ ss.length → (ss.take i).foldl (stepT c) ((false, 0, []), []) = (preS c ss i, trL c ss i)
  | 0, _ => rfl
  | i + 1, hi => by
    have e := List.getElem?_eq_getElem (show i < ss.length by omega)
    rw [take_fold _ e, foldT i (by omega)]
    unfold stepT
    simp only
    rw [trL_succ, preS_succ e]
theorem trL_len (c : List Int) (ss : List Stm) (k : Nat) : (trL c ss k).length = k := by unfold trL; rw [List.length_map, List.length_range]
theorem lrun_ok {sizes c : List Int} {ss : List Stm} (hl : c.length = sizes.length) (h : ∀ s ∈ ss, StmOk sizes s) (hn : ss.length ≤ 1000000) : h__law_run [.tup (ss.map stmD), .tup (c.map .int)] = .ret (.tup [.bl (runS c ss).1, .lst false ((runS c ss).2.2.map .str), .lst false ((trL c ss ss.length).map prD)]) [] := by
  obtain ⟨y', e⟩ := for_fx (bd := bNm 6) (body := l__law_run_1) (g := stmD) (fun (b : Mst × List (Bool × Bool)) (y : Option D × Option D) => [some (.tup (ss.map stmD)), some (.tup (c.map .int)), some (.bl b.1.1), some (.int b.1.2.1), some (.lst true (b.1.2.2.map .str)), some (.lst true (b.2.map prD)), y.1, y.2]) (stepT c) ss ((false, 0, []), []) (none, none) (by
    intro i s y hi
    have hil : i < ss.length := (List.getElem?_eq_some_iff.mp hi).1
    rw [foldT i (by omega)]
    have hs := h s (List.mem_of_getElem? hi)
    have nl := preS_len c ss i
    have tl := trL_len c ss i
    generalize preS c ss i = st at nl
    generalize trL c ss i = tr at tl
    obtain ⟨f, l, ns⟩ := st
    simp only at nl
    have l1 : lenOk (ns.length + 1) = true := lenOk_of (by omega)
    have l2 : lenOk (tr.length + 1) = true := lenOk_of (by omega)
    have fz := frzs_mapD ok_prD tr
    have em : ∀ p, (tr ++ [p]).map prD = tr.map prD ++ [prD p] := fun p => by simp
    have en : ∀ p, (ns ++ [p]).map D.str = ns.map .str ++ [.str p] := fun p => by simp
    refine ⟨_, (some (stmD s), some (.bl (decide (0 < l)))), rfl, .inl ?_⟩
    by_cases c0 : 0 < l
    · simp only [l__law_run_1, c0, append_1, l2, stepT, stepS, em, prD, Tw.ev, List.replicate, ne_eq, reduceCtorEq, Nat.reduceAdd, Nat.reduceSub, Nat.reduceLT, Nat.reduceLeDiff, Int.reduceEq, Int.reduceNeg, Int.reduceLT, Int.reduceLE, Int.reduceAdd, Int.reduceMul, Int.reduceSub]
    · cases s with
      | deed n =>
        cases f with
        | true => simp only [l__law_run_1, c0, stm_deed, at2_0, at2_1, k_deed, append_1, l1, l2, stepT, stepS, em, en, prD, Tw.ev, List.replicate, ne_eq, reduceCtorEq, Nat.reduceAdd, Nat.reduceSub, Nat.reduceLT, Nat.reduceLeDiff, Int.reduceEq, Int.reduceNeg, Int.reduceLT, Int.reduceLE, Int.reduceAdd, Int.reduceMul, Int.reduceSub]
        | false => simp only [l__law_run_1, c0, stm_deed, at2_0, at2_1, k_deed, append_1, l1, l2, stepT, stepS, em, prD, Tw.ev, List.replicate, ne_eq, reduceCtorEq, Nat.reduceAdd, Nat.reduceSub, Nat.reduceLT, Nat.reduceLeDiff, Int.reduceEq, Int.reduceNeg, Int.reduceLT, Int.reduceLE, Int.reduceAdd, Int.reduceMul, Int.reduceSub]
      | skip k t =>
        have e1 := lshows_ok hl hs.2
        by_cases c1 : shw c t = true
        · simp only [l__law_run_1, c0, stm_skip, ok_test, frz_test, at3_0, at3_1, at3_m, k_deed, k_skip, ds_1, e1, c1, append_1, l2, stepT, stepS, em, prD, Tw.ev, List.replicate, ne_eq, reduceCtorEq, Nat.reduceAdd, Nat.reduceSub, Nat.reduceLT, Nat.reduceLeDiff, Int.reduceEq, Int.reduceNeg, Int.reduceLT, Int.reduceLE, Int.reduceAdd, Int.reduceMul, Int.reduceSub]
        · simp only [l__law_run_1, c0, stm_skip, ok_test, frz_test, at3_0, at3_1, at3_m, k_deed, k_skip, ds_1, e1, c1, append_1, l2, stepT, stepS, em, prD, Tw.ev, List.replicate, ne_eq, reduceCtorEq, Nat.reduceAdd, Nat.reduceSub, Nat.reduceLT, Nat.reduceLeDiff, Int.reduceEq, Int.reduceNeg, Int.reduceLT, Int.reduceLE, Int.reduceAdd, Int.reduceMul, Int.reduceSub]
      | chg w t =>
        obtain ⟨w1, w2, w3⟩ := hs.1.ok
        have e1 := lshows_ok hl hs.2
        by_cases c1 : shw c t = true
        · by_cases c2 : w = "turn"
          · subst c2
            simp only [l__law_run_1, c0, stm_chg, ok_test, frz_test, at2_0, at2_1, at2_m, k_deed, k_skip, k_turn, w1, w2, w3, e1, c1, append_1, l2, stepT, stepS, em, prD, chgd, Tw.ev, List.replicate, ne_eq, reduceCtorEq, Nat.reduceAdd, Nat.reduceSub, Nat.reduceLT, Nat.reduceLeDiff, Int.reduceEq, Int.reduceNeg, Int.reduceLT, Int.reduceLE, Int.reduceAdd, Int.reduceMul, Int.reduceSub]
          · simp only [l__law_run_1, c0, stm_chg, ok_test, frz_test, at2_0, at2_1, at2_m, k_deed, k_skip, k_turn, k_set, w1, w2, w3, e1, c1, c2, append_1, l2, stepT, stepS, em, prD, chgd, Tw.ev, List.replicate, ne_eq, reduceCtorEq, Nat.reduceAdd, Nat.reduceSub, Nat.reduceLT, Nat.reduceLeDiff, Int.reduceEq, Int.reduceNeg, Int.reduceLT, Int.reduceLE, Int.reduceAdd, Int.reduceMul, Int.reduceSub]
        · simp only [l__law_run_1, c0, stm_chg, ok_test, frz_test, at2_0, at2_1, at2_m, k_deed, k_skip, w1, w2, w3, e1, c1, append_1, l2, stepT, stepS, em, prD, Tw.ev, List.replicate, ne_eq, reduceCtorEq, Nat.reduceAdd, Nat.reduceSub, Nat.reduceLT, Nat.reduceLeDiff, Int.reduceEq, Int.reduceNeg, Int.reduceLT, Int.reduceLE, Int.reduceAdd, Int.reduceMul, Int.reduceSub])
  have e0 := foldT (c := c) (ss := ss) ss.length (Nat.le_refl _)
  rw [List.take_length] at e0
  rw [e0, preS_all] at e
  simp only [List.map_nil] at e
  have f1 := frzs_mapD ok_prD (trL c ss ss.length)
  have f2 : D.frzs ((runS c ss).2.2.map D.str) = (runS c ss).2.2.map D.str := frzs_mapD (fun _ => rfl) _
  simp only [h__law_run, b__law_run, frzs_stms, oks_stms, e, f1, f2, Tw.ev, List.replicate, ne_eq, reduceCtorEq, Nat.reduceAdd, Nat.reduceSub, Nat.reduceLT, Nat.reduceLeDiff, Int.reduceEq, Int.reduceNeg, Int.reduceLT, Int.reduceLE, Int.reduceAdd, Int.reduceMul, Int.reduceSub]
def SzG (B : Int) (i : Nat) (ns : List Int) : Prop := ns.length ≤ i ∧ (∀ s ∈ ns, 2 ≤ s ∧ s ≤ 4) ∧ 0 < prodI ns ∧ prodI ns ≤ B ∧ (0 < i → 1 ≤ ns.length)
theorem lsizesG {d : D} (hd : Hand d) (most : Int) (B : Int) (hm : 1 ≤ most ∧ most ≤ 6) (hB : 4 ≤ B ∧ B ≤ 4096) : ∃ ns d', h__law_sizes [d, .int most, .int B] = .ret (.tup (ns.map .int)) [d'] ∧ Hand d' ∧ Sz ns ∧ prodI ns ≤ B ∧ (ns.length : Int) ≤ most := by
  obtain ⟨r, d1, e1, ⟨b1, b2⟩, hd1⟩ := draw_ok (many := most) hd (by omega) (by omega)
  have hr : rngOf [1 + r] = some (0, (1 + r).toNat) := rngOf_1 (by omega)
  have s0 : SzG B 0 [] := ⟨Nat.le_refl 0, by simp, by decide, by show (1 : Int) ≤ B; omega, fun z => absurd z (Nat.lt_irrefl 0)⟩
  obtain ⟨env', ⟨d2, ns, y5, y6, hd2, hs, rfl⟩, e⟩ := for_ind (bd := bNm 5) (g := fun i : Nat => D.int (i : Int)) (body := l__law_sizes_1)
    (fun i env => ∃ d2 ns y5 y6, Hand d2 ∧ SzG B i ns ∧ env = [some d2, some (.int most), some (.int B), some (.tup (ns.map .int)), some (.int (prodI ns)), y5, y6]) (List.range (1 + r).toNat) 0 [some d1, some (.int most), some (.int B), some (.tup []), some (.int 1), none, none]
    ⟨d1, [], none, none, hd1, s0, rfl⟩ (by
      rintro i x env hi ⟨d2, ns, y5, y6, hd2, ⟨p1, p2, p3, p4, p5⟩, rfl⟩
      rw [Nat.zero_add] at p1 p5 ⊢
      have il : i < 6 := by have := (List.getElem?_eq_some_iff.mp hi).1; rw [List.length_range] at this; omega
      obtain ⟨q, d3, e3, hq, hd3⟩ := any_ok (m := true) (ns := [0, 0, 1, 2]) hd2 (by decide) (by decide)
      have q2 : 0 ≤ q ∧ q ≤ 2 := by
        simp only [List.mem_cons, List.not_mem_nil, or_false] at hq
        omega
      simp only [List.map_cons, List.map_nil] at e3
      have cm : CMul (prodI ns) (2 + q) := cm_lit _ _ (by omega)
      have l1 : lenOk (ns.length + 1) = true := lenOk_of (by omega)
      by_cases c : prodI ns * (2 + q) ≤ B
      · refine ⟨_, ⟨d3, ns ++ [2 + q], some (.int x), some (.int (2 + q)), hd3, ⟨by rw [List.length_append]; exact Nat.add_le_add_right p1 1, fun s hs => ?_, ?_, by rw [prodI_app]; exact c, fun _ => by rw [List.length_append]; exact Nat.le_add_left 1 _⟩, rfl⟩, fun ds => ?_⟩
        · rcases List.mem_append.mp hs with hs | hs
          · exact p2 s hs
          · rw [List.mem_singleton.mp hs]; omega
        · rw [prodI_app]; exact Int.mul_pos p3 (by omega)
        · have em : (ns ++ [2 + q]).map D.int = ns.map .int ++ [.int (2 + q)] := by simp
          rw [em, prodI_app]
          simp only [l__law_sizes_1, e3, cm, c, l1, Tw.ev, List.replicate, ne_eq, reduceCtorEq, Nat.reduceAdd, Nat.reduceSub, Nat.reduceLT, Nat.reduceLeDiff, Int.reduceEq, Int.reduceNeg, Int.reduceLT, Int.reduceLE, Int.reduceAdd, Int.reduceMul, Int.reduceSub]
      · have i0 : 0 < i := by
          rcases Nat.eq_zero_or_pos i with e0 | e0
          · subst e0
            have : ns = [] := List.length_eq_zero_iff.mp (by omega)
            subst this
            have : prodI [] = 1 := rfl
            rw [this] at c
            omega
          · exact e0
        refine ⟨_, ⟨d3, ns, some (.int x), some (.int (2 + q)), hd3, ⟨by omega, p2, p3, p4, fun _ => p5 i0⟩, rfl⟩, fun ds => ?_⟩
        simp only [l__law_sizes_1, e3, cm, c, Tw.ev, List.replicate, ne_eq, reduceCtorEq, Nat.reduceAdd, Nat.reduceSub, Nat.reduceLT, Nat.reduceLeDiff, Int.reduceEq, Int.reduceNeg, Int.reduceLT, Int.reduceLE, Int.reduceAdd, Int.reduceMul, Int.reduceSub])
  rw [Nat.zero_add, List.length_range] at hs
  obtain ⟨p1, p2, p3, p4, p5⟩ := hs
  refine ⟨ns, d2, ?_, hd2, ⟨p5 (by omega), by omega, p2⟩, p4, by omega⟩
  simp only [h__law_sizes, b__law_sizes, e1, hr, rngD_0, e, Tw.ev, List.replicate, ne_eq, reduceCtorEq, Nat.reduceAdd, Nat.reduceSub, Nat.reduceLT, Nat.reduceLeDiff, Int.reduceEq, Int.reduceNeg, Int.reduceLT, Int.reduceLE, Int.reduceAdd, Int.reduceMul, Int.reduceSub]
def keepS (most : Int) : Stm → Bool
  | .skip k _ => decide (k ≤ most)
  | _ => true
abbrev stT : Stm := .chg "turn" ([], [])
def wordOf (m : List Int) : Str := if m = [0, 0] then "clear" else if m = [1, 1] then "set" else "turn"
def stmsOf (lot : List Int) (zs : List (List Int × List Int)) : List Stm := zs.flatMap fun z => if z.2 = [0, 1] then [] else [.chg (wordOf z.2) (lot, z.1)]
def stmsL (sizes : List Int) (l : Look) : List Stm := stmsOf l.1 ((allOf (atLot sizes l.1)).zip l.2)
def progS (sizes : List Int) (ls : List Look) : List Stm := ls.flatMap (stmsL sizes)
def strB (x : Str) : Bool := (["a", "looks", "Go", "", "abcdefghi", "a b", "a1", "go", "Set", "skip", "deed", "turn", "set", "clear", "lamp", "zzzzzzzz", "b", "z", "abcdefgh", "A", "a-b", "1"] : List Str).contains x
def isStrB : D → Bool | .str _ => true | _ => false
theorem zip_self {α β : Type} (g : α → β) : ∀ xs : List α, xs.zip (xs.map g) = xs.map fun x => (x, g x)
  | [] => rfl
  | x :: xs => by rw [List.map_cons, List.zip_cons_cons, zip_self g xs, List.map_cons]
theorem all_pos {sizes : List Int} (sz : Sz sizes) : 0 < (allOf sizes).length := by
  refine List.length_pos_of_mem (a := sizes.map fun _ => 0) (mem_all (List.length_map _) fun z hz => ?_)
  rw [zip_self] at hz
  obtain ⟨s, hs, rfl⟩ := List.mem_map.mp hz
  have := sz.2.2 s hs
  show (0 : Int) ≤ 0 ∧ (0 : Int) ≤ s - 1
  omega
def YN (an : List Int) : Prop := ∀ a ∈ an, a = 0 ∨ a = 1
inductive Op where
  | stay | turn | down | up
  deriving DecidableEq
def Op.f : Op → Bool → Bool
  | .stay, b => b | .turn, b => !b | .down, _ => false | .up, _ => true
def Op.map : Op → List Int
  | .stay => [0, 1] | .turn => [1, 0] | .down => [0, 0] | .up => [1, 1]
structure Part (n : Nat) (row : List Nat) : Prop where
  lt : ∀ m ∈ row, m < 2 ^ n
  all : ∀ i, i < n → ∃ m ∈ row, m.testBit i = true
  one : row.Pairwise fun a b => ∀ i, ¬ (a.testBit i = true ∧ b.testBit i = true)
structure Mid (n : Nat) (st : List Nat × List Nat) : Prop where
  nd : st.1.Nodup
  lt : ∀ x ∈ st.1, x < n
  sub : ∀ x ∈ st.2, x ∈ st.1
  w : st.2.Nodup
theorem below_len : ∀ (n : Nat) (l : List Nat), l.Nodup → (∀ x ∈ l, x < n) → l.length ≤ n
  | 0, [], _, _ => Nat.le_refl _
  | 0, x :: _, _, h => absurd (h x List.mem_cons_self) (by omega)
  | n + 1, l, nd, h => by
    have h1 := below_len n (l.erase n) (nd.erase n) fun x hx => by
      have a := h x (List.mem_of_mem_erase hx)
      have b : x ≠ n := fun e => by rw [e] at hx; exact nd.not_mem_erase hx
      omega
    rw [List.length_erase] at h1
    split at h1 <;> omega
theorem Mid.len {n : Nat} {st : List Nat × List Nat} (g : Mid n st) : st.1.length ≤ n := by
  exact below_len n _ g.nd g.lt
theorem Mid.drop {n : Nat} {st : List Nat × List Nat} (g : Mid n st) : Mid n (st.1, st.2.dropLast) := ⟨g.nd, g.lt, fun x hx => g.sub x (List.dropLast_subset _ hx), g.w.sublist (List.dropLast_sublist _)⟩
structure Un (n : Nat) (f : List Nat) : Prop where
  nd : f.Nodup
  lt : ∀ x ∈ f, x < n
theorem Un.len {n : Nat} {f : List Nat} (u : Un n f) : f.length ≤ n := below_len n f u.nd u.lt
theorem Part.len {n : Nat} {row : List Nat} (h : Part n row) : ∀ m ∈ row, m < 2 ^ n := h.lt
def cAt (sizes : List Int) (n : Nat) : List Int := (allOf sizes).getD n []
def hitB (sizes l joint : List Int) (n : Nat) : Bool := decide (atLot (cAt sizes n) l = joint)
def sliceL (sizes l : List Int) (some' : List Nat) (joint : List Int) : List Nat := some'.filter (hitB sizes l joint)
structure AnS (N : Nat) (F : List Int) : Prop where
  len : F.length = N
  yn : YN F
theorem AnS.set {N : Nat} {F : List Int} (h : AnS N F) (n : Nat) {v : Int} (hv : v = 0 ∨ v = 1) : AnS N (F.set n v) := ⟨by rw [List.length_set]; exact h.len, fun a ha => (List.mem_or_eq_of_mem_set ha).elim (h.yn a) fun e => by rw [e]; exact hv⟩
def isTupB : D → Bool | .tup _ => true | _ => false
def isBlB : D → Bool | .bl _ => true | _ => false
def isIntB : D → Bool | .int _ => true | _ => false
def whB (a b : Int) : D → Bool
  | .int i => decide (a ≤ i) && decide (i ≤ b)
  | _ => false
theorem bools_map {α : Type} (p : α → Bool) : ∀ xs : List α, D.bools (xs.map fun x => D.bl (p x)) = some (xs.map p)
  | [] => rfl
  | x :: xs => by
    rw [List.map_cons, List.map_cons]
    show ((D.bools (xs.map fun x => D.bl (p x))).map (p x :: ·)) = _
    rw [bools_map p xs]; rfl
abbrev Sp := Nat × List Int × Nat
theorem in_all2 : ∀ (S : List Int) (acc : List (List Int)) (r : List Int), r ∈ S.foldl grow acc → ∃ p ∈ acc, ∃ q, r = p ++ q ∧ ∀ z ∈ S.zip q, 0 ≤ z.2 ∧ z.2 ≤ z.1 - 1
  | [], acc, r, h => ⟨r, h, [], by rw [List.append_nil], fun z hz => nomatch hz⟩
  | s :: S, acc, r, h => by
    obtain ⟨p, hp, q, rfl, hq⟩ := in_all2 S (grow acc s) r h
    obtain ⟨p0, hp0, w, rfl, w1, w2⟩ := row_ok hp
    refine ⟨p0, hp0, w :: q, by rw [List.append_assoc]; rfl, fun z hz => ?_⟩
    rw [List.zip_cons_cons] at hz
    rcases List.mem_cons.mp hz with rfl | hz
    · exact ⟨w1, by show w ≤ s - 1; omega⟩
    · exact hq z hz
theorem in_all {S r : List Int} (h : r ∈ allOf S) : ∀ z ∈ S.zip r, 0 ≤ z.2 ∧ z.2 ≤ z.1 - 1 := by
  obtain ⟨p, hp, q, rfl, hq⟩ := in_all2 S [[]] r h
  rw [List.mem_singleton.mp hp]
  exact hq
def jntB (S : List Int) : D → Bool
  | .tup ts => decide (ts.length = S.length) && (S.zip ts).all fun p => whB 0 (p.1 - 1) p.2
  | _ => false
def intOf (a : Int) : D → Int
  | .int i => i
  | _ => a
def lotB (many : Int) : Int → List D → Bool
  | _, [] => true
  | a, d :: ds => whB (a + 1) (many - 1) d && lotB many (intOf a d) ds
def isLotB (many : Int) : D → Bool
  | .tup ds => lotB many (-1) ds
  | _ => false
def anL (an : List Int) (ns : List Nat) : List Int := ns.map fun n => an.getD n 0
def ansU (an : List Int) (ns : List Nat) : List Int := (nub (anL an ns)).mergeSort fun a b => decide (a ≤ b)
def uniB (an : List Int) (ns : List Nat) : Bool := decide ((ansU an ns).length = 1)
inductive PStrk (sizes : List Int) (ws : List (List Int)) (an : List Int) : List Nat → List Sp → List Nat → Prop
  | nil (r : List Nat) : PStrk sizes ws an r [] r
  | cons {r : List Nat} {k : Nat} {l joint : List Int} {v : Nat} {steps : List Sp} {r' : List Nat} (h1 : ws[k]? = some l) (h2 : joint ∈ allOf (atLot sizes l)) (h3 : sliceL sizes l r joint ≠ []) (h4 : ∀ n ∈ sliceL sizes l r joint, an.getD n 0 = (v : Int))
      (h5 : PStrk sizes ws an (r.filter fun n => !hitB sizes l joint n) steps r') : PStrk sizes ws an r ((k, joint, v) :: steps) r'
structure PSt (sizes : List Int) (ws : List (List Int)) (an : List Int) (N : Nat) (P : List Sp) (R : List Nat) : Prop where
  strk : PStrk sizes ws an (List.range N) P R
  fil : ∃ p : Nat → Bool, R = (List.range N).filter p
  len : P.length + R.length ≤ N
theorem PSt.lt {N : Nat} {P : List Sp} {R : List Nat} (h : PSt sizes ws an N P R) : ∀ n ∈ R, n < N := fun n hn => by
  obtain ⟨p, e⟩ := h.fil
  rw [e] at hn
  exact List.mem_range.mp (List.mem_filter.mp hn).1
theorem PSt.nd {N : Nat} {P : List Sp} {R : List Nat} (h : PSt sizes ws an N P R) : R.Nodup := by
  obtain ⟨p, e⟩ := h.fil
  rw [e]
  exact List.nodup_range.sublist List.filter_sublist
def PStk (sizes : List Int) (ws : List (List Int)) (an : List Int) (R : List Nat) : Prop := ∀ l ∈ ws, ∀ j ∈ allOf (atLot sizes l), uniB an (sliceL sizes l R j) = false
structure LeftS (sizes : List Int) (ws : List (List Int)) (an : List Int) (N : Nat) (S : List Nat) : Prop where
  fil : ∃ p : Nat → Bool, S = (List.range N).filter p
  mx : ∀ T, (∀ n ∈ T, n < N) → PStk sizes ws an T → ∀ n ∈ T, n ∈ S
theorem LeftS.lt {N : Nat} {S : List Nat} (h : LeftS sizes ws an N S) : ∀ n ∈ S, n < N := fun n hn => by
  obtain ⟨p, e⟩ := h.fil
  rw [e] at hn
  exact List.mem_range.mp (List.mem_filter.mp hn).1
theorem LeftS.len {N : Nat} {S : List Nat} (h : LeftS sizes ws an N S) : S.length ≤ N := by
  obtain ⟨p, e⟩ := h.fil
  rw [e]
  have := List.length_filter_le p (List.range N)
  rwa [List.length_range] at this
def lets (b : Bool) (c : Nat) : Rf := match b with
  | true => .ret .non []
  | false => .exc c [] [] []
def szB : D → Bool
  | .tup xs => decide (1 ≤ xs.length) && decide (xs.length ≤ 6) && xs.all (whB 2 4)
  | _ => false
def adjB {α : Type} (r : α → α → Bool) (d : α) (L : List α) : Bool := (List.range (L.length - 1)).all fun i => r (L.getD i d) (L.getD (i + 1) d)
theorem ne_st (s : Str) (h : PyData.strOk s = true) : gNe [.str s, .str s] = some (.bl false) := by
  rw [Tw.ne_str _ _ h h, decide_eq_true rfl]; rfl
end K08
end
noncomputable section
namespace K08
open PySem PySem.Spec PyProof.Rows L2 Tw
abbrev L6 : List Str := ["go", "a", "lamp", "zzzzzzzz", "set", "b"]
def NmS : Stm → Prop
  | .deed n => n ∈ L6
  | _ => True
theorem lstm_N {hd : D} {sizes : List Int} (hh : Hand hd) (sz : Sz sizes) : ∃ (hd' : D) (s : Stm), h__law_statement [hd, .tup (sizes.map .int)] = .ret (stmD s) [hd'] ∧ Hand hd' ∧ StmOk sizes s ∧ NmS s := by
  obtain ⟨r, hd1, e1, ⟨r0, r1⟩, hh1⟩ := draw_ok (many := 10) hh (by omega) (by omega)
  by_cases c1 : r < 6
  · obtain ⟨hd2, t, e2, hh2, ht⟩ := ltest_ok hh1 sz
    have q0 : 0 ≤ r.fdiv 2 := Int.fdiv_nonneg r0 (by omega)
    have q1 : r.fdiv 2 < 3 := by rw [Int.fdiv_eq_ediv_of_nonneg _ (by omega)]; omega
    obtain ⟨w, hw, ew⟩ : ∃ w : Str, ChgOk w ∧ atI [D.str "set", .str "clear", .str "turn"] (r.fdiv 2) = some (.str w) := by
      obtain ⟨q, eq⟩ : ∃ q, q = r.fdiv 2 := ⟨_, rfl⟩
      rw [← eq] at q0 q1 ⊢
      rcases (show q = 0 ∨ q = 1 ∨ q = 2 by omega) with rfl | rfl | rfl
      · exact ⟨"set", .inl rfl, rfl⟩
      · exact ⟨"clear", .inr (.inl rfl), rfl⟩
      · exact ⟨"turn", .inr (.inr rfl), rfl⟩
    refine ⟨hd2, .chg w t, ?_, hh2, ⟨hw, ht⟩, trivial⟩
    have cd := cd_lit r 2 (by decide)
    simp only [h__law_statement, b__law_statement, e1, c1, cd, ew, e2, stm_chg, Tw.ev, List.replicate, ne_eq, reduceCtorEq, Nat.reduceAdd, Nat.reduceSub, Nat.reduceLT, Nat.reduceLeDiff, Int.reduceEq, Int.reduceNeg, Int.reduceLT, Int.reduceLE, Int.reduceAdd, Int.reduceMul, Int.reduceSub]
  · by_cases c2 : r < 8
    · obtain ⟨q, hd2, e2, ⟨q0, q1⟩, hh2⟩ := draw_ok (many := 2) hh1 (by omega) (by omega)
      obtain ⟨hd3, t, e3, hh3, ht⟩ := ltest_ok hh2 sz
      refine ⟨hd3, .skip (1 + q) t, ?_, hh3, ⟨⟨by omega, by omega⟩, ht⟩, trivial⟩
      simp only [h__law_statement, b__law_statement, e1, c1, c2, e2, e3, stm_skip, Tw.ev, List.replicate, ne_eq, reduceCtorEq, Nat.reduceAdd, Nat.reduceSub, Nat.reduceLT, Nat.reduceLeDiff, Int.reduceEq, Int.reduceNeg, Int.reduceLT, Int.reduceLE, Int.reduceAdd, Int.reduceMul, Int.reduceSub]
    · obtain ⟨x, hd2, e2, hx, hh2⟩ := any_mapD (f := D.str) (m := true) (xs := ["go", "a", "lamp", "zzzzzzzz", "set", "b"]) (fun _ => rfl) hh1 (by decide) (by decide)
      simp only [List.map_cons, List.map_nil] at e2
      refine ⟨hd2, .deed x, ?_, hh2, ?_, hx⟩
      · simp only [h__law_statement, b__law_statement, e1, c1, c2, e2, stm_deed, Tw.ev, List.replicate, ne_eq, reduceCtorEq, Nat.reduceAdd, Nat.reduceSub, Nat.reduceLT, Nat.reduceLeDiff, Int.reduceEq, Int.reduceNeg, Int.reduceLT, Int.reduceLE, Int.reduceAdd, Int.reduceMul, Int.reduceSub]
      · simp only [List.mem_cons, List.not_mem_nil, or_false] at hx
        rcases hx with rfl | rfl | rfl | rfl | rfl | rfl
        · exact n_go
        · exact n_a
        · exact n_lamp
        · exact n_z
        · exact n_set
        · exact n_b
theorem names_L6 {c : List Int} : ∀ (ss : List Stm) (st : Mst), (∀ s ∈ ss, NmS s) → (∀ n ∈ st.2.2, n ∈ L6) → ∀ n ∈ (ss.foldl (stepS c) st).2.2, n ∈ L6
  | [], st, _, h => h
  | s :: ss, st, hs, h => by
    rw [List.foldl_cons]
    refine names_L6 ss _ (fun x hx => hs x (List.mem_cons_of_mem _ hx)) fun n hn => ?_
    have h0 := hs s List.mem_cons_self
    unfold stepS at hn
    split at hn
    · exact h n hn
    · cases s with
      | chg w t => simp only at hn; split at hn <;> exact h n hn
      | skip k t => simp only at hn; split at hn <;> exact h n hn
      | deed m =>
        simp only at hn
        split at hn
        · rcases List.mem_append.mp hn with q | q
          · exact h n q
          · rw [List.mem_singleton.mp q]; exact h0
        · exact h n hn
theorem check_content_ok {sizes c : List Int} (sz : Sz sizes) (hc : c ∈ allOf sizes) : h_check_content [.tup (sizes.map .int), .tup (c.map .int)] = .ret .non [] := by
  have e := is_content_ok (row_len _ _ hc) sz.2.1 (in_all hc)
  have fS := Tw.frzs_int sizes
  have fc := Tw.frzs_int c
  simp only [h_check_content, b_check_content, fS, fc, e, Tw.ev, List.replicate, ne_eq, reduceCtorEq, Nat.reduceAdd, Nat.reduceSub, Nat.reduceLT, Nat.reduceLeDiff, Int.reduceEq, Int.reduceNeg, Int.reduceLT, Int.reduceLE, Int.reduceAdd, Int.reduceMul, Int.reduceSub]
theorem run_R {m : Bool} {sizes c : List Int} {ss : List Stm} (sz : Sz sizes) (hc : c ∈ allOf sizes) (hs : ∀ s ∈ ss, StmOk sizes s) (ln : ss.length ≤ 5000) : h_run [progD m sizes ss, .tup (c.map .int)] = .ret (.tup [.bl (runS c ss).1, .lst true ((runS c ss).2.2.map .str)]) [] := by
  have e := check_content_ok sz hc
  have e2 := run_of_ok (m := false) (row_len _ _ hc) hs (by omega)
  have fc := Tw.frzs_int c
  have u1 : gFld own_flag "flag" [runD true c (runS c ss)] = some (.bl (runS c ss).1) := ufld_flag
  have u2 : ∀ (A B : Option D), fFTk 2 own_names "names" [A, B, some (runD true c (runS c ss))] = .ok (.lst true ((runS c ss).2.2.map .str)) [A, B, none] := fun A B => by
    have n1 : ("names" : Str) ≠ "content" := by decide
    have n2 : ("names" : Str) ≠ "flag" := by decide
    have n3 : ("names" : Str) ≠ "left" := by decide
    have lk : lookD ["content", "flag", "left", "names"] [.tup (c.map .int), .bl (runS c ss).1, .int (runS c ss).2.1, .lst true ((runS c ss).2.2.map .str)] "names" = some (.lst true ((runS c ss).2.2.map .str)) := by
      rw [look_1, if_neg n1, look_1, if_neg n2, look_1, if_neg n3, look_1, if_pos rfl]
    show (if own_names 1 = true then ftkR 2 _ (lookD ["content", "flag", "left", "names"] [.tup (c.map .int), .bl (runS c ss).1, .int (runS c ss).2.1, .lst true ((runS c ss).2.2.map .str)] "names") else .stuck) = _
    rw [lk, if_pos (show own_names 1 = true from rfl), e_ftkR]
    rfl
  generalize runD true c (runS c ss) = RD at *
  simp only [h_run, b_run, frz_prog, pfld_sizes, fc, e, e2, u1, u2, Tw.ev, List.replicate, ne_eq, reduceCtorEq, Nat.reduceAdd, Nat.reduceSub, Nat.reduceLT, Nat.reduceLeDiff, Int.reduceEq, Int.reduceNeg, Int.reduceLT, Int.reduceLE, Int.reduceAdd, Int.reduceMul, Int.reduceSub]
theorem traced_R {m : Bool} {sizes c : List Int} {ss : List Stm} (sz : Sz sizes) (hc : c ∈ allOf sizes) (hs : ∀ s ∈ ss, StmOk sizes s) (ln : ss.length ≤ 5000) : h_traced [progD m sizes ss, .tup (c.map .int)] = .ret (.lst true ((trL c ss ss.length).map prD)) [] := by
  have e := check_content_ok sz hc
  have lc := row_len _ _ hc
  have fc := Tw.frzs_int c
  have e0 := init_run c
  obtain ⟨y', e2⟩ := for_fx (bd := bNm 4) (body := l_traced_1) (g := stmD) (fun (b : Mst × List (Bool × Bool)) (y : Option D × Option D) => [some (progD false sizes ss), some (.tup (c.map .int)), some (runD true c b.1), some (.lst true (b.2.map prD)), y.1, y.2]) (stepT c) ss ((false, 0, []), []) (none, none) (by
    intro i s y hi
    have hil : i < ss.length := (List.getElem?_eq_some_iff.mp hi).1
    rw [foldT i (by omega)]
    have hs' := hs s (List.mem_of_getElem? hi)
    have nl := preS_len c ss i
    have tl := trL_len c ss i
    generalize preS c ss i = st at nl
    generalize trL c ss i = tr at tl
    have e1 := step_ok (c := c) (st := st) lc hs' (by omega)
    have ub : gFld own_flag "flag" [runD true c (stepS c st s)] = some (.bl (stepS c st s).1) := ufld_flag
    have ap : gAppend (tr.map prD) (.tup [.bl (stepS c st s).1, .bl (decide (0 < st.2.1))]) = some (.non, (tr ++ [((stepS c st s).1, decide (0 < st.2.1))]).map prD) := by
      rw [append_1, List.length_map, lenOk_of (by omega), if_pos rfl, List.map_append]; rfl
    refine ⟨_, (some (stmD s), some (.bl (decide (0 < st.2.1)))), rfl, .inl ?_⟩
    show _ = Out.next [_, _, some (runD true c (stepS c st s)), some (.lst true ((tr ++ [((stepS c st s).1, decide (0 < st.2.1))]).map prD)), _, _]
    generalize (tr ++ [((stepS c st s).1, decide (0 < st.2.1))]).map prD = AC at *
    generalize tr.map prD = TR at *
    generalize stepS c st s = ST at *
    generalize decide (0 < st.2.1) = SB at *
    simp only [l_traced_1, frz_stm, oo_run, nm_step, e1, ub, ap, Tw.ev, List.replicate, ne_eq, reduceCtorEq, Nat.reduceAdd, Nat.reduceSub, Nat.reduceLT, Nat.reduceLeDiff, Int.reduceEq, Int.reduceNeg, Int.reduceLT, Int.reduceLE, Int.reduceAdd, Int.reduceMul, Int.reduceSub])
  have f0 := foldT (c := c) (ss := ss) ss.length (Nat.le_refl _)
  rw [List.take_length] at f0
  rw [f0] at e2
  simp only [List.map_nil] at e2
  simp only [h_traced, b_traced, frz_prog, pfld_sizes, pfld_statements, oks_stms, fc, e, e0, e2, Tw.ev, List.replicate, ne_eq, reduceCtorEq, Nat.reduceAdd, Nat.reduceSub, Nat.reduceLT, Nat.reduceLeDiff, Int.reduceEq, Int.reduceNeg, Int.reduceLT, Int.reduceLE, Int.reduceAdd, Int.reduceMul, Int.reduceSub]
/-! ### what is shown -/
theorem py_strs : ∀ ns : List Str, D.pys (ns.map .str) = some (ns.map PyData.str)
  | [] => rfl
  | n :: ns => by
    show (D.py (.str n)).bind (fun p => (D.pys (ns.map .str)).map fun ps => p :: ps) = _
    rw [py_strs ns]; rfl
def prP (p : Bool × Bool) : PyData := .tuple [.bool p.1, .bool p.2]
theorem py_prs : ∀ ps : List (Bool × Bool), D.pys (ps.map prD) = some (ps.map prP)
  | [] => rfl
  | p :: ps => by
    show (D.py (prD p)).bind (fun p => (D.pys (ps.map prD)).map fun ps => p :: ps) = _
    rw [py_prs ps]; rfl
theorem sh_name {n : Str} (h : n ∈ L6) : Sh 12 0 (.str n) := by
  simp only [List.mem_cons, List.not_mem_nil, or_false] at h
  rcases h with rfl | rfl | rfl | rfl | rfl | rfl <;> exact ⟨rfl, rfl, Nat.le_refl _, by decide +kernel, by decide +kernel⟩
def P1 (f : Bool) (ns : List Str) : PyData := .tuple [.bool f, .list (ns.map .str)]
theorem sh_P1 {f : Bool} {ns : List Str} (h : ∀ n ∈ ns, n ∈ L6) (l : ns.length ≤ 31) : Sh 879 2 (P1 f ns) := by
  have a : Sh 436 1 (.list (ns.map .str)) := Sh.list (B := 12) (k := 0) (L := 31) (fun p hp => by
    obtain ⟨n, hn, rfl⟩ := List.mem_map.mp hp
    exact sh_name (h n hn)) (by rw [List.length_map]; exact l)
  exact Sh.tuple (B := 436) (k := 1) (L := 2) (fun p hp => by
    rcases List.mem_cons.mp hp with e | e
    · rw [e]; exact ((Sh.bool f).mono (by omega)).up (by omega)
    · rw [List.mem_singleton.mp e]; exact a) (by simp)
def P2 (ps : List (Bool × Bool)) : PyData := .list (ps.map prP)
theorem sh_P2 {ps : List (Bool × Bool)} (l : ps.length ≤ 31) : Sh 591 2 (P2 ps) :=
  Sh.list (B := 17) (k := 1) (L := 31) (fun p hp => by
    obtain ⟨q, _, rfl⟩ := List.mem_map.mp hp
    exact Sh.tuple (B := 5) (k := 0) (L := 2) (fun p hp => by
      rcases List.mem_cons.mp hp with e | e
      · rw [e]; exact Sh.bool _
      · rw [List.mem_singleton.mp e]; exact Sh.bool _) (by simp)) (by rw [List.length_map]; exact l)
theorem py_1 (m : Bool) (f : Bool) (ns : List Str) : D.py (.tup [.bl f, .lst m (ns.map .str)]) = some (P1 f ns) := by
  show (D.pys [.bl f, .lst m (ns.map .str)]).map PyData.tuple = _
  show ((D.py (.bl f)).bind fun p => (D.pys [.lst m (ns.map .str)]).map fun ps => p :: ps).map PyData.tuple = _
  show (((D.py (.lst m (ns.map .str))).bind fun p => (D.pys []).map fun ps => p :: ps).map fun ps => PyData.bool f :: ps).map PyData.tuple = _
  show ((((D.pys (ns.map .str)).map PyData.list).bind fun p => (D.pys []).map fun ps => p :: ps).map fun ps => PyData.bool f :: ps).map PyData.tuple = _
  rw [py_strs]; rfl
theorem py_2 (m : Bool) (ps : List (Bool × Bool)) : D.py (.lst m (ps.map prD)) = some (P2 ps) := by
  show (D.pys (ps.map prD)).map PyData.list = _
  rw [py_prs]; rfl
theorem repr_T (m : Bool) {f : Bool} {ns : List Str} (h : ∀ n ∈ ns, n ∈ L6) (l : ns.length ≤ 31) : gRepr [.tup [.bl f, .lst m (ns.map .str)]] = some (.str (P1 f ns).shown) := repr_1 (py_1 m f ns) rfl (sh_P1 h l) (by omega) (small_line (by omega))
theorem repr_L (m : Bool) {ps : List (Bool × Bool)} (l : ps.length ≤ 31) : gRepr [.lst m (ps.map prD)] = some (.str (P2 ps).shown) := repr_1 (py_2 m ps) rfl (sh_P2 l) (by omega) (small_line (by omega))
theorem ok_L6 {n : Str} (h : n ∈ L6) : PyData.strOk n = true := by
  simp only [List.mem_cons, List.not_mem_nil, or_false] at h
  rcases h with rfl | rfl | rfl | rfl | rfl | rfl <;> decide +kernel
theorem ne_T {f : Bool} {ns : List Str} (h : ∀ n ∈ ns, n ∈ L6) : gNe [.tup [.bl f, .lst true (ns.map .str)], .tup [.bl f, .lst false (ns.map .str)]] = some (.bl false) :=
  (eq_sameD (n := 3) (dpt_tup (dpt_cons (dpt_bl 2 f) (dpt_cons (dpt_lst (dpt_map fun n hn => dpt_str 1 (ok_L6 (h n hn)))) dpt_nil))) (by omega) (by rw [py_1, py_1])).2
theorem ne_L {ps : List (Bool × Bool)} : gNe [.lst true (ps.map prD), .lst false (ps.map prD)] = some (.bl false) :=
  (eq_sameD (n := 3) (dpt_lst (dpt_map (f := prD) fun p _ => dpt_tup (dpt_cons (dpt_bl 1 _) (dpt_cons (dpt_bl 1 _) dpt_nil)))) (by omega) (by rw [py_2, py_2])).2
end K08
noncomputable section
namespace K08
open PySem PySem.Spec PyProof.Rows L2 Tw
theorem ne_same {n : Nat} {a : D} (h : Dpt n a) (hn : n ≤ 60) : gNe [a, a] = some (.bl false) := (eq_sameD h hn rfl).2
theorem dpt_stm {sizes : List Int} {s : Stm} (h : StmOk sizes s ∧ NmS s) : Dpt 3 (stmD s) := by
  have t : ∀ t : Test, Dpt 2 (testD t) := fun t => dpt_tup (dpt_cons (dpt_ints 0 _) (dpt_cons (dpt_ints 0 _) dpt_nil))
  cases s with
  | chg w t' =>
    obtain ⟨w1, _, _⟩ := h.1.1.ok
    exact dpt_tup (dpt_cons (dpt_str 2 w1) (dpt_cons (t t') dpt_nil))
  | skip k t' => exact dpt_tup (dpt_cons (dpt_str 2 k_skip) (dpt_cons (dpt_int 2 k) (dpt_cons (t t') dpt_nil)))
  | deed n => exact dpt_tup (dpt_cons (dpt_str 2 k_deed) (dpt_cons (dpt_str 2 (ok_L6 h.2)) dpt_nil))
theorem content_ok {sizes c : List Int} {ss : List Stm} (sz : Sz sizes) (hc : c ∈ allOf sizes) (hs : ∀ s ∈ ss, StmOk sizes s ∧ NmS s) (ln : ss.length ≤ 31) (A0 A1 A2 A4 y8 y9 y10 y11 y12 y13 : Option D) :
    ∃ z8 z9 z10 z11 z12, l_law_1 [A0, A1, A2, some (.tup (sizes.map .int)), A4, some (.tup (ss.map stmD)), some (progD false sizes ss), some (.tup (c.map .int)), y8, y9, y10, y11, y12, y13] = .next [A0, A1, A2, some (.tup (sizes.map .int)), A4, some (.tup (ss.map stmD)), some (progD false sizes ss), some (.tup (c.map .int)), z8, z9, z10, z11, z12, y13] := by
  have hs' : ∀ s ∈ ss, StmOk sizes s := fun s h => (hs s h).1
  have lc := row_len _ _ hc
  have e1 := lrun_ok lc hs' (by omega)
  have e2 := run_R (m := false) sz hc hs' (by omega)
  have e3 := traced_R (m := false) sz hc hs' (by omega)
  have nL : ∀ n ∈ (runS c ss).2.2, n ∈ L6 := names_L6 ss (false, 0, []) (fun s h => (hs s h).2) (fun n h => nomatch h)
  have ll : (runS c ss).2.2.length ≤ 31 := by
    have := fold_len c ss (false, 0, [])
    unfold runS
    simp only [List.length_nil, Nat.zero_add] at this
    omega
  have lt := trL_len c ss ss.length
  generalize (runS c ss).1 = f at *
  generalize (runS c ss).2.2 = ns at *
  generalize trL c ss ss.length = tr at *
  have r1 := repr_T true (f := f) nL ll
  have r2 := repr_T false (f := f) nL ll
  have r3 := repr_L true (ps := tr) (by omega)
  have r4 := repr_L false (ps := tr) (by omega)
  have n1 := ne_st _ (sh_P1 (f := f) nL ll).ok
  have n2 := ne_st _ (sh_P2 (ps := tr) (by omega)).ok
  have oN : D.oks (ns.map D.str) = true := oks_mapD (fun _ => rfl) ns
  have fN : D.frzs (ns.map D.str) = ns.map .str := frzs_mapD (fun _ => rfl) ns
  have oT := oks_mapD ok_prD tr
  have fT := frzs_mapD ok_prD tr
  have fS := frzs_stms ss
  have oS := oks_stms ss
  have fc := Tw.frzs_int c
  have lN : lenOk ((ns.map D.str).length + 1) = true := lenOk_of (by rw [List.length_map]; omega)
  have lT : lenOk ((tr.map prD).length + 1) = true := lenOk_of (by rw [List.length_map]; omega)
  have ap : gAppend (tr.map prD) .non = some (.non, tr.map prD ++ [.non]) := by rw [append_1, lT, if_pos rfl]
  have tp : tpApp [.bl f, .lst true (ns.map .str)] 1 (.str "x") = some [.bl f, .lst true (ns.map .str ++ [.str "x"])] := by
    show ((if lenOk ((ns.map D.str).length + 1) then some (D.lst true (ns.map .str ++ [.str "x"]) :: []) else none)).map (D.bl f :: ·) = _
    rw [lN]; rfl
  generalize (P1 f ns).shown = s1 at *
  generalize (P2 tr).shown = s2 at *
  generalize ns.map D.str = NS at *
  generalize tr.map prD = TR at *
  have tg : D.tag (.tup [.bl f, .lst true NS]) = some (.ty "tuple") := rfl
  refine ⟨some (.tup [.bl f, .lst true (NS ++ [.str "x"])]), some (.lst true (TR ++ [.non])), some (.bl f), some (.lst false NS), some (.lst false TR), ?_⟩
  have i1 : gIsi isa [.tup [.bl f, .lst true NS], .ty "tuple"] = some (.bl true) := rfl
  have i2 : gIsi isa [.lst true TR, .ty "list"] = some (.bl true) := rfl
  have fTA : ∀ (A0 A1 A2 A3 A4 A5 A6 A7 A9 A10 A11 A12 A13 : Option D), fTpA 8 1 "x" [A0, A1, A2, A3, A4, A5, A6, A7, some (.tup [.bl f, .lst true NS]), A9, A10, A11, A12, A13] = .ok .non [A0, A1, A2, A3, A4, A5, A6, A7, some (.tup [.bl f, .lst true (NS ++ [.str "x"])]), A9, A10, A11, A12, A13] := fun A0 A1 A2 A3 A4 A5 A6 A7 A9 A10 A11 A12 A13 => by
    rw [e_tpA]
    show tpR 8 _ (tpApp [.bl f, .lst true NS] 1 (.str "x")) = _
    rw [tp, e_tpR]
    rfl
  simp only [l_law_1, fS, oS, fc, e1, frz_prog, e2, e3, i1, i2, r1, r2, r3, r4, n1, n2, oN, fN, oT, fT, fTA, ap, Tw.ev, List.replicate, ne_eq, reduceCtorEq, Nat.reduceAdd, Nat.reduceSub, Nat.reduceLT, Nat.reduceLeDiff, Int.reduceEq, Int.reduceNeg, Int.reduceLT, Int.reduceLE, Int.reduceAdd, Int.reduceMul, Int.reduceSub]
theorem contents_go {sizes : List Int} {ss : List Stm} (sz : Sz sizes) (hs : ∀ s ∈ ss, StmOk sizes s ∧ NmS s) (ln : ss.length ≤ 31) (A0 A1 A2 A4 y13 : Option D) : ∀ (cs : List (List Int)) (_ : ∀ c ∈ cs, c ∈ allOf sizes) (y7 y8 y9 y10 y11 y12 : Option D),
    ∃ z7 z8 z9 z10 z11 z12, forGo (bNm 7) l_law_1 (rows cs) [A0, A1, A2, some (.tup (sizes.map .int)), A4, some (.tup (ss.map stmD)), some (progD false sizes ss), y7, y8, y9, y10, y11, y12, y13] = .next [A0, A1, A2, some (.tup (sizes.map .int)), A4, some (.tup (ss.map stmD)), some (progD false sizes ss), z7, z8, z9, z10, z11, z12, y13]
  | [], _, y7, y8, y9, y10, y11, y12 => ⟨y7, y8, y9, y10, y11, y12, rfl⟩
  | c :: cs, hc, y7, y8, y9, y10, y11, y12 => by
    obtain ⟨w8, w9, w10, w11, w12, e1⟩ := content_ok sz (hc c List.mem_cons_self) hs ln A0 A1 A2 A4 y8 y9 y10 y11 y12 y13
    obtain ⟨z7, z8, z9, z10, z11, z12, e2⟩ := contents_go sz hs ln A0 A1 A2 A4 y13 cs (fun x hx => hc x (List.mem_cons_of_mem _ hx)) (some (.tup (c.map .int))) w8 w9 w10 w11 w12
    refine ⟨z7, z8, z9, z10, z11, z12, ?_⟩
    rw [← e2]
    exact for_next rfl (.inl e1)
theorem turn_ok {hd : D} (hh : Hand hd) (A0 A2 y3 y4 y5 y6 y7 y8 y9 y10 y11 y12 : Option D) :
    ∃ hd' z3 z4 z5 z6 z7 z8 z9 z10 z11 z12, Hand hd' ∧ l_law_2 [A0, some hd, A2, y3, y4, y5, y6, y7, y8, y9, y10, y11, y12, none] = .next [A0, some hd', A2, z3, z4, z5, z6, z7, z8, z9, z10, z11, z12, none] := by
  obtain ⟨sizes, h1, e1, hh1, sz, pm, s6⟩ := lsizesG hh 6 130 (by omega) (by omega)
  have fS := Tw.frzs_int sizes
  have oS := Tw.oks_int sizes
  obtain ⟨q, h2, e2, ⟨q0, q1⟩, hh2⟩ := draw_ok (many := 3) hh1 (by omega) (by omega)
  obtain ⟨k, ek, k1, k31⟩ : ∃ k : Int, gIx [.lst true [.int 6, .int 14, .int 31], .int q] = some (.int k) ∧ 1 ≤ k ∧ k ≤ 31 := by
    rcases (show q = 0 ∨ q = 1 ∨ q = 2 by omega) with rfl | rfl | rfl
    · exact ⟨6, rfl, by omega, by omega⟩
    · exact ⟨14, rfl, by omega, by omega⟩
    · exact ⟨31, rfl, by omega, by omega⟩
  obtain ⟨r, h3, e3, ⟨r0, r1⟩, hh3⟩ := draw_ok (many := k) hh2 (by omega) (by omega)
  have hr : rngOf [r] = some (0, r.toNat) := rngOf_1 (by omega)
  obtain ⟨ds, h4, hh4, dl, dr, e4⟩ := comp_st (vs := [13]) (b := bNm 13) (f := c_law_1) (g := fun i : Nat => D.int (i : Int)) (fun hd : D => [A0, some hd, A2, some (.tup (sizes.map .int)), some (.int r), y5, y6, y7, y8, y9, y10, y11, y12, none]) Hand (fun _ d => ∃ s, (StmOk sizes s ∧ NmS s) ∧ d = stmD s) (List.range r.toNat) [] h3 hh3 (fun s => rfl) fun i hi hd hh => by
    obtain ⟨hd', s, e, hh', hs⟩ := lstm_N hh sz
    refine ⟨_, [A0, some hd', A2, some (.tup (sizes.map .int)), some (.int r), y5, y6, y7, y8, y9, y10, y11, y12, some (.int (i : Int))], hd', stmD s, rfl, ?_, rfl, hh', s, hs, rfl⟩
    simp only [c_law_1, fS, e, Tw.ev, List.replicate, ne_eq, reduceCtorEq, Nat.reduceAdd, Nat.reduceSub, Nat.reduceLT, Nat.reduceLeDiff, Int.reduceEq, Int.reduceNeg, Int.reduceLT, Int.reduceLE, Int.reduceAdd, Int.reduceMul, Int.reduceSub]
  obtain ⟨ss, es, hs⟩ := list_choose (f := stmD) (P := fun s => StmOk sizes s ∧ NmS s) (ds := ds) fun d hd => by
    obtain ⟨i, hi⟩ := List.mem_iff_getElem?.mp hd
    obtain ⟨_, _, s, hs, rfl⟩ := dr i d hi
    exact ⟨s, hs, rfl⟩
  subst es
  rw [List.length_map, List.length_range] at dl
  rw [List.nil_append, ← rngD_0] at e4
  have hs' : ∀ s ∈ ss, StmOk sizes s := fun s h => (hs s h).1
  have ln : ss.length ≤ 31 := by omega
  have lr : lenOk (rngD 0 r.toNat).length = true := lenOk_of (by rw [rngD_0, List.length_map, List.length_range]; omega)
  have oL := oks_stms ss
  have fL := frzs_stms ss
  have gT : ∀ m, gTuple [.lst m (ss.map stmD)] = some (.tup (ss.map stmD)) := fun m => by rw [Tw.tuple_lst, oL, if_pos rfl]
  have eP := init_prog (ss := ss) sz hs' (by omega)
  have fP : ∀ m, D.frz (progD m sizes ss) = progD false sizes ss := fun m => frz_prog
  have nS : gNe [.tup (sizes.map .int), .tup (sizes.map .int)] = some (.bl false) := ne_same (dpt_ints 2 sizes) (by omega)
  have nP : gNe [.tup (ss.map stmD), .tup (ss.map stmD)] = some (.bl false) := ne_same (n := 4) (dpt_tup (dpt_map fun s h => dpt_stm (hs s h))) (by omega)
  have b4 : ∀ s ∈ sizes, 0 ≤ s ∧ s ≤ 4 := fun s hs => ⟨by have := sz.2.2 s hs; omega, by have := sz.2.2 s hs; omega⟩
  obtain ⟨m, eA⟩ := all_ok' (d := .tup (sizes.map .int)) (d0 := .tup (sizes.map .int)) (sizes := sizes) (by simp only [fS, Tw.ev, List.replicate, ne_eq, reduceCtorEq, Nat.reduceAdd, Nat.reduceSub, Nat.reduceLT, Nat.reduceLeDiff, Int.reduceEq, Int.reduceNeg, Int.reduceLT, Int.reduceLE, Int.reduceAdd, Int.reduceMul, Int.reduceSub]) (by simp only [oS, Tw.ev, List.replicate, ne_eq, reduceCtorEq, Nat.reduceAdd, Nat.reduceSub, Nat.reduceLT, Nat.reduceLeDiff, Int.reduceEq, Int.reduceNeg, Int.reduceLT, Int.reduceLE, Int.reduceAdd, Int.reduceMul, Int.reduceSub]; try rfl) b4 sz.2.1
  have la := allOf_len (sizes := sizes) (fun s hs => (sz.2.2 s hs).2) sz.2.1
  have lA : lenOk (rows (allOf sizes)).length = true := lenOk_of (by rw [Tw.rows_len]; omega)
  have oA := Tw.oks_rows (allOf sizes)
  obtain ⟨z7, z8, z9, z10, z11, z12, e5⟩ := contents_go (sizes := sizes) (ss := ss) sz hs ln A0 (some h4) A2 (some (.int r)) none (allOf sizes) (fun c h => h) y7 y8 y9 y10 y11 y12
  obtain ⟨c, h6, e6, hc, hh6⟩ := any_row (m := m) (ls := allOf sizes) hh4 (all_pos sz) (by omega)
  have fc := Tw.frzs_int c
  have lc := row_len _ _ hc
  have e7 := lrun_ok lc hs' (by omega)
  have e8 := run_R (m := false) sz hc hs' (by omega)
  have e9 := traced_R (m := false) sz hc hs' (by omega)
  have nL : ∀ n ∈ (runS c ss).2.2, n ∈ L6 := names_L6 ss (false, 0, []) (fun s h => (hs s h).2) (fun n h => nomatch h)
  have n1 := ne_T (f := (runS c ss).1) nL
  have n2 := ne_L (ps := trL c ss ss.length)
  have oN : D.oks ((runS c ss).2.2.map D.str) = true := oks_mapD (fun _ => rfl) _
  have fN : D.frzs ((runS c ss).2.2.map D.str) = (runS c ss).2.2.map .str := frzs_mapD (fun _ => rfl) _
  have oT := oks_mapD ok_prD (trL c ss ss.length)
  have fT := frzs_mapD ok_prD (trL c ss ss.length)
  refine ⟨h6, some (.tup (sizes.map .int)), some (.int r), some (.tup (ss.map stmD)), some (progD false sizes ss), some (.tup (c.map .int)), z8, z9, some (.bl (runS c ss).1), some (.lst false ((runS c ss).2.2.map .str)), some (.lst false ((trL c ss ss.length).map prD)), hh6, ?_⟩
  generalize (runS c ss).1 = f at *
  generalize (runS c ss).2.2.map D.str = NS at *
  generalize (trL c ss ss.length).map prD = TR at *
  generalize rows (allOf sizes) = RW at *
  simp only [l_law_2, e1, e2, ek, e3, hr, lr, fS, e4, gT, oL, fL, eP, fP, pfld_sizes, pfld_statements, nS, nP, eA, oA, e5, e6, fc, e7, e8, e9, n1, n2, oN, fN, oT, fT, Tw.ev0, Tw.all_lst, Tw.ixT_1, Tw.rows_len, Tw.inN_2, Tw.sl_tup, Tw.sortT_1, Tw.putN2_1, Tw.mul_tup, Tw.ixN_1, Tw.sortIL_1, Tw.mul_lst, Tw.add_lst, Tw.sorted_2, Tw.mod_int, Tw.any_lst, List.length_map, List.replicate, ne_eq, reduceCtorEq, Nat.reduceAdd, Nat.reduceSub, Nat.reduceLT, Nat.reduceLeDiff, Int.reduceEq, Int.reduceNeg, Int.reduceLT, Int.reduceLE, Int.reduceAdd, Int.reduceMul, Int.reduceSub]
theorem turns_go (A0 : Option D) : ∀ (ts : List D) {hd : D} (_ : Hand hd) (y2 y3 y4 y5 y6 y7 y8 y9 y10 y11 y12 : Option D), ∃ hd' z2 z3 z4 z5 z6 z7 z8 z9 z10 z11 z12, Hand hd' ∧ forGo (bNm 2) l_law_2 ts [A0, some hd, y2, y3, y4, y5, y6, y7, y8, y9, y10, y11, y12, none] = .next [A0, some hd', z2, z3, z4, z5, z6, z7, z8, z9, z10, z11, z12, none]
  | [], hd, hh, y2, y3, y4, y5, y6, y7, y8, y9, y10, y11, y12 => ⟨hd, y2, y3, y4, y5, y6, y7, y8, y9, y10, y11, y12, hh, rfl⟩
  | t :: ts, hd, hh, y2, y3, y4, y5, y6, y7, y8, y9, y10, y11, y12 => by
    obtain ⟨h1, w3, w4, w5, w6, w7, w8, w9, w10, w11, w12, hh1, e1⟩ := turn_ok hh A0 (some t) y3 y4 y5 y6 y7 y8 y9 y10 y11 y12
    obtain ⟨h2, z2, z3, z4, z5, z6, z7, z8, z9, z10, z11, z12, hh2, e2⟩ := turns_go A0 ts hh1 (some t) w3 w4 w5 w6 w7 w8 w9 w10 w11 w12
    refine ⟨h2, z2, z3, z4, z5, z6, z7, z8, z9, z10, z11, z12, hh2, ?_⟩
    rw [← e2]
    exact for_next rfl (.inl e1)
theorem law_true (ns : List Int) (h : ns.length ≤ 63) : h_law [.scr ns] = .ret (.bl true) [] := by
  obtain ⟨d, e1, hd⟩ := hand_ok h
  have rg : rngOf [3] = some (0, 3) := rngOf_1 (by omega)
  obtain ⟨h1, z2, z3, z4, z5, z6, z7, z8, z9, z10, z11, z12, hh1, e2⟩ := turns_go (some (.scr ns)) (rngD 0 3) hd none none none none none none none none none none none
  have l4 : lenOk (rngD 0 3).length = true := rfl
  simp only [h_law, b_law, e1, rg, l4, e2, Tw.ev, List.replicate, ne_eq, reduceCtorEq, Nat.reduceAdd, Nat.reduceSub, Nat.reduceLT, Nat.reduceLeDiff, Int.reduceEq, Int.reduceNeg, Int.reduceLT, Int.reduceLE, Int.reduceAdd, Int.reduceMul, Int.reduceSub]
end K08
namespace K08
open PySem PySem.Spec PyProof.Rows L2 Tw
theorem all_mk {l : PySem.W.OpenLaw} {w : World} {K : PySem.W.Frag} {h : Heap} {mg : Str → Option Value} {fa : Addr} (X : K.In h) (G : h.Ns mainGlobals mg) (hfa : mg "law" = some (.ref fa))
    {t_LEAST_WORTHS : Tok}
    {t_MOST_LOOKED : Tok}
    {t_MOST_PINS : Tok}
    {t_MOST_STATEMENTS : Tok}
    {t_MOST_WORTHS : Tok}
    {C_Program : Addr}
    {C_Run : Addr}
    {A_CHANGES : Addr}
    {t_CHANGES_0 : Tok}
    {t_CHANGES_1 : Tok}
    {t_CHANGES_2 : Tok}
    {n_CHANGES : Nat} {q_CHANGES : Array (Option Value)}
    {g_is_integer : Addr} {od_is_integer an_is_integer : Option Addr} {sl_is_integer : Array (Option Value)} {oc_is_integer kV_is_integer dc_is_integer pm_is_integer ct_is_integer : Value} {cd_is_integer : Value}
    {g_is_within : Addr} {od_is_within an_is_within : Option Addr} {sl_is_within : Array (Option Value)} {oc_is_within kV_is_within dc_is_within pm_is_within ct_is_within : Value} {cd_is_within : Value}
    {g_is_lot : Addr} {od_is_lot an_is_lot : Option Addr} {sl_is_lot : Array (Option Value)} {oc_is_lot kV_is_lot dc_is_lot pm_is_lot ct_is_lot : Value} {cd_is_lot : Value}
    {g_is_pair : Addr} {od_is_pair an_is_pair : Option Addr} {sl_is_pair : Array (Option Value)} {oc_is_pair kV_is_pair dc_is_pair pm_is_pair ct_is_pair : Value} {cd_is_pair : Value}
    {g_is_name : Addr} {od_is_name an_is_name : Option Addr} {sl_is_name : Array (Option Value)} {oc_is_name kV_is_name dc_is_name pm_is_name ct_is_name : Value} {cd_is_name : Value}
    {g_check_sizes : Addr} {od_check_sizes an_check_sizes : Option Addr} {sl_check_sizes : Array (Option Value)} {oc_check_sizes kV_check_sizes dc_check_sizes pm_check_sizes ct_check_sizes : Value} {cd_check_sizes : Value}
    {g_is_content : Addr} {od_is_content an_is_content : Option Addr} {sl_is_content : Array (Option Value)} {oc_is_content kV_is_content dc_is_content pm_is_content ct_is_content : Value} {cd_is_content : Value}
    {g_check_content : Addr} {od_check_content an_check_content : Option Addr} {sl_check_content : Array (Option Value)} {oc_check_content kV_check_content dc_check_content pm_check_content ct_check_content : Value} {cd_check_content : Value}
    {g_sizes_at : Addr} {od_sizes_at an_sizes_at : Option Addr} {sl_sizes_at : Array (Option Value)} {oc_sizes_at kV_sizes_at dc_sizes_at pm_sizes_at ct_sizes_at : Value} {cd_sizes_at : Value}
    {g_joint_of : Addr} {od_joint_of an_joint_of : Option Addr} {sl_joint_of : Array (Option Value)} {oc_joint_of kV_joint_of dc_joint_of pm_joint_of ct_joint_of : Value} {cd_joint_of : Value}
    {g_is_test : Addr} {od_is_test an_is_test : Option Addr} {sl_is_test : Array (Option Value)} {oc_is_test kV_is_test dc_is_test pm_is_test ct_is_test : Value} {cd_is_test : Value}
    {g_is_statement : Addr} {od_is_statement an_is_statement : Option Addr} {sl_is_statement : Array (Option Value)} {oc_is_statement kV_is_statement dc_is_statement pm_is_statement ct_is_statement : Value} {cd_is_statement : Value}
    {g_shows : Addr} {od_shows an_shows : Option Addr} {sl_shows : Array (Option Value)} {oc_shows kV_shows dc_shows pm_shows ct_shows : Value} {cd_shows : Value}
    {g_changed : Addr} {od_changed an_changed : Option Addr} {sl_changed : Array (Option Value)} {oc_changed kV_changed dc_changed pm_changed ct_changed : Value} {cd_changed : Value}
    {g_Run_init : Addr} {od_Run_init an_Run_init : Option Addr} {sl_Run_init : Array (Option Value)} {oc_Run_init kV_Run_init dc_Run_init pm_Run_init ct_Run_init : Value} {cd_Run_init : Value}
    {g_Run_step : Addr} {od_Run_step an_Run_step : Option Addr} {sl_Run_step : Array (Option Value)} {oc_Run_step kV_Run_step dc_Run_step pm_Run_step ct_Run_step : Value} {cd_Run_step : Value}
    {g_run_of : Addr} {od_run_of an_run_of : Option Addr} {sl_run_of : Array (Option Value)} {oc_run_of kV_run_of dc_run_of pm_run_of ct_run_of : Value} {cd_run_of : Value}
    {g_run : Addr} {od_run an_run : Option Addr} {sl_run : Array (Option Value)} {oc_run kV_run dc_run pm_run ct_run : Value} {cd_run : Value}
    {g_traced : Addr} {od_traced an_traced : Option Addr} {sl_traced : Array (Option Value)} {oc_traced kV_traced dc_traced pm_traced ct_traced : Value} {cd_traced : Value}
    {g__law_hand : Addr} {od__law_hand an__law_hand : Option Addr} {sl__law_hand : Array (Option Value)} {oc__law_hand kV__law_hand dc__law_hand pm__law_hand ct__law_hand : Value} {cd__law_hand : Value}
    {g__law_draw : Addr} {od__law_draw an__law_draw : Option Addr} {sl__law_draw : Array (Option Value)} {oc__law_draw kV__law_draw dc__law_draw pm__law_draw ct__law_draw : Value} {cd__law_draw : Value}
    {g__law_any : Addr} {od__law_any an__law_any : Option Addr} {sl__law_any : Array (Option Value)} {oc__law_any kV__law_any dc__law_any pm__law_any ct__law_any : Value} {cd__law_any : Value}
    {g__law_all : Addr} {od__law_all an__law_all : Option Addr} {sl__law_all : Array (Option Value)} {oc__law_all kV__law_all dc__law_all pm__law_all ct__law_all : Value} {cd__law_all : Value}
    {g__law_sizes : Addr} {od__law_sizes an__law_sizes : Option Addr} {sl__law_sizes : Array (Option Value)} {oc__law_sizes kV__law_sizes dc__law_sizes pm__law_sizes ct__law_sizes : Value} {cd__law_sizes : Value}
    {g__law_lot : Addr} {od__law_lot an__law_lot : Option Addr} {sl__law_lot : Array (Option Value)} {oc__law_lot kV__law_lot dc__law_lot pm__law_lot ct__law_lot : Value} {cd__law_lot : Value}
    {g__law_joint : Addr} {od__law_joint an__law_joint : Option Addr} {sl__law_joint : Array (Option Value)} {oc__law_joint kV__law_joint dc__law_joint pm__law_joint ct__law_joint : Value} {cd__law_joint : Value}
    {g__law_test : Addr} {od__law_test an__law_test : Option Addr} {sl__law_test : Array (Option Value)} {oc__law_test kV__law_test dc__law_test pm__law_test ct__law_test : Value} {cd__law_test : Value}
    {g__law_statement : Addr} {od__law_statement an__law_statement : Option Addr} {sl__law_statement : Array (Option Value)} {oc__law_statement kV__law_statement dc__law_statement pm__law_statement ct__law_statement : Value} {cd__law_statement : Value}
    {g__law_shows : Addr} {od__law_shows an__law_shows : Option Addr} {sl__law_shows : Array (Option Value)} {oc__law_shows kV__law_shows dc__law_shows pm__law_shows ct__law_shows : Value} {cd__law_shows : Value}
    {g__law_run : Addr} {od__law_run an__law_run : Option Addr} {sl__law_run : Array (Option Value)} {oc__law_run kV__law_run dc__law_run pm__law_run ct__law_run : Value} {cd__law_run : Value}
    {g_Program_init : Addr} {od_Program_init an_Program_init : Option Addr} {sl_Program_init : Array (Option Value)} {oc_Program_init kV_Program_init dc_Program_init pm_Program_init ct_Program_init : Value} {cd_Program_init : Value}
    {g_law : Addr} {od_law an_law : Option Addr} {sl_law : Array (Option Value)} {oc_law kV_law dc_law pm_law ct_law : Value} {cd_law : Value}
    (z_abs : PySem.W.nsIn K mainGlobals "abs" = some none)
    (z_all : PySem.W.nsIn K mainGlobals "all" = some none)
    (z_bool : PySem.W.nsIn K mainGlobals "bool" = some none)
    (z_enumerate : PySem.W.nsIn K mainGlobals "enumerate" = some none)
    (z_int : PySem.W.nsIn K mainGlobals "int" = some none)
    (z_isinstance : PySem.W.nsIn K mainGlobals "isinstance" = some none)
    (z_len : PySem.W.nsIn K mainGlobals "len" = some none)
    (z_list : PySem.W.nsIn K mainGlobals "list" = some none)
    (z_min : PySem.W.nsIn K mainGlobals "min" = some none)
    (z_range : PySem.W.nsIn K mainGlobals "range" = some none)
    (z_repr : PySem.W.nsIn K mainGlobals "repr" = some none)
    (z_sorted : PySem.W.nsIn K mainGlobals "sorted" = some none)
    (z_str : PySem.W.nsIn K mainGlobals "str" = some none)
    (z_tuple : PySem.W.nsIn K mainGlobals "tuple" = some none)
    (z_zip : PySem.W.nsIn K mainGlobals "zip" = some none)
    (c_LEAST_WORTHS : PySem.W.nsIn K mainGlobals "LEAST_WORTHS" = some (some (.int 2 t_LEAST_WORTHS)))
    (c_MOST_LOOKED : PySem.W.nsIn K mainGlobals "MOST_LOOKED" = some (some (.int 3 t_MOST_LOOKED)))
    (c_MOST_PINS : PySem.W.nsIn K mainGlobals "MOST_PINS" = some (some (.int 6 t_MOST_PINS)))
    (c_MOST_STATEMENTS : PySem.W.nsIn K mainGlobals "MOST_STATEMENTS" = some (some (.int 5000 t_MOST_STATEMENTS)))
    (c_MOST_WORTHS : PySem.W.nsIn K mainGlobals "MOST_WORTHS" = some (some (.int 4 t_MOST_WORTHS)))
    (k_Program : PySem.W.nsIn K mainGlobals "Program" = some (some (.ref C_Program)))
    (pg_Program : PySem.W.plainGet K C_Program Str.empty = true)
    (hd_Program : PySem.W.hasDictIn K C_Program = true)
    (po_Program : PySem.W.plainOver K C_Program = true)
    (sa_Program : PySem.W.findIn K (.ref C_Program) "__setattr__" = some (some (.builtin "object.__setattr__")))
    (ha_Program : PySem.W.findIn K (.ref C_Program) "__class__" = some (some (.builtin "object.__class__")))
    (hm_Program : PySem.W.mroIn K C_Program (.type "object") = some true)
    (k_Run : PySem.W.nsIn K mainGlobals "Run" = some (some (.ref C_Run)))
    (pg_Run : PySem.W.plainGet K C_Run Str.empty = true)
    (hd_Run : PySem.W.hasDictIn K C_Run = true)
    (po_Run : PySem.W.plainOver K C_Run = true)
    (sa_Run : PySem.W.findIn K (.ref C_Run) "__setattr__" = some (some (.builtin "object.__setattr__")))
    (ha_Run : PySem.W.findIn K (.ref C_Run) "__class__" = some (some (.builtin "object.__class__")))
    (hm_Run : PySem.W.mroIn K C_Run (.type "object") = some true)
    (hn : PySem.W.specialIn K (.builtin "object.__class__") "__get__" = some (some (.builtin "getset_descriptor.__get__")))
    (ht : PySem.W.takesIn K (.builtin "object.__class__") = some true)
    (i0 : PySem.W.kitOne K (.type "int") (.type "int") = some true)
    (i1 : PySem.W.kitOne K (.type "bool") (.type "int") = some true)
    (i2 : PySem.W.kitOne K (.type "str") (.type "int") = some false)
    (i3 : PySem.W.kitOne K (.type "NoneType") (.type "int") = some false)
    (i4 : PySem.W.kitOne K (.type "tuple") (.type "int") = some false)
    (i5 : PySem.W.kitOne K (.type "list") (.type "int") = some false)
    (i6 : PySem.W.kitOne K (.type "dict") (.type "int") = some false)
    (i7 : PySem.W.kitOne K (.ref C_Program) (.type "int") = some false)
    (i8 : PySem.W.kitOne K (.ref C_Run) (.type "int") = some false)
    (i9 : PySem.W.kitOne K (.type "int") (.type "bool") = some false)
    (i10 : PySem.W.kitOne K (.type "bool") (.type "bool") = some true)
    (i11 : PySem.W.kitOne K (.type "str") (.type "bool") = some false)
    (i12 : PySem.W.kitOne K (.type "NoneType") (.type "bool") = some false)
    (i13 : PySem.W.kitOne K (.type "tuple") (.type "bool") = some false)
    (i14 : PySem.W.kitOne K (.type "list") (.type "bool") = some false)
    (i15 : PySem.W.kitOne K (.type "dict") (.type "bool") = some false)
    (i16 : PySem.W.kitOne K (.ref C_Program) (.type "bool") = some false)
    (i17 : PySem.W.kitOne K (.ref C_Run) (.type "bool") = some false)
    (i18 : PySem.W.kitOne K (.type "int") (.type "tuple") = some false)
    (i19 : PySem.W.kitOne K (.type "bool") (.type "tuple") = some false)
    (i20 : PySem.W.kitOne K (.type "str") (.type "tuple") = some false)
    (i21 : PySem.W.kitOne K (.type "NoneType") (.type "tuple") = some false)
    (i22 : PySem.W.kitOne K (.type "tuple") (.type "tuple") = some true)
    (i23 : PySem.W.kitOne K (.type "list") (.type "tuple") = some false)
    (i24 : PySem.W.kitOne K (.type "dict") (.type "tuple") = some false)
    (i25 : PySem.W.kitOne K (.ref C_Program) (.type "tuple") = some false)
    (i26 : PySem.W.kitOne K (.ref C_Run) (.type "tuple") = some false)
    (i27 : PySem.W.kitOne K (.type "int") (.type "str") = some false)
    (i28 : PySem.W.kitOne K (.type "bool") (.type "str") = some false)
    (i29 : PySem.W.kitOne K (.type "str") (.type "str") = some true)
    (i30 : PySem.W.kitOne K (.type "NoneType") (.type "str") = some false)
    (i31 : PySem.W.kitOne K (.type "tuple") (.type "str") = some false)
    (i32 : PySem.W.kitOne K (.type "list") (.type "str") = some false)
    (i33 : PySem.W.kitOne K (.type "dict") (.type "str") = some false)
    (i34 : PySem.W.kitOne K (.ref C_Program) (.type "str") = some false)
    (i35 : PySem.W.kitOne K (.ref C_Run) (.type "str") = some false)
    (i36 : PySem.W.kitOne K (.type "int") (.type "list") = some false)
    (i37 : PySem.W.kitOne K (.type "bool") (.type "list") = some false)
    (i38 : PySem.W.kitOne K (.type "str") (.type "list") = some false)
    (i39 : PySem.W.kitOne K (.type "NoneType") (.type "list") = some false)
    (i40 : PySem.W.kitOne K (.type "tuple") (.type "list") = some false)
    (i41 : PySem.W.kitOne K (.type "list") (.type "list") = some true)
    (i42 : PySem.W.kitOne K (.type "dict") (.type "list") = some false)
    (i43 : PySem.W.kitOne K (.ref C_Program) (.type "list") = some false)
    (i44 : PySem.W.kitOne K (.ref C_Run) (.type "list") = some false)
    (i45 : PySem.W.kitOne K (.type "int") (.ref C_Program) = some false)
    (i46 : PySem.W.kitOne K (.type "bool") (.ref C_Program) = some false)
    (i47 : PySem.W.kitOne K (.type "str") (.ref C_Program) = some false)
    (i48 : PySem.W.kitOne K (.type "NoneType") (.ref C_Program) = some false)
    (i49 : PySem.W.kitOne K (.type "tuple") (.ref C_Program) = some false)
    (i50 : PySem.W.kitOne K (.type "list") (.ref C_Program) = some false)
    (i51 : PySem.W.kitOne K (.type "dict") (.ref C_Program) = some false)
    (i52 : PySem.W.kitOne K (.ref C_Program) (.ref C_Program) = some true)
    (i53 : PySem.W.kitOne K (.ref C_Run) (.ref C_Program) = some false)
    (g_CHANGES : PySem.W.nsIn K mainGlobals "CHANGES" = some (some (.ref A_CHANGES)))
    (lk_CHANGES : K.lookup A_CHANGES = some ⟨.type "tuple", none, .seq #[.str "set" t_CHANGES_0, .str "clear" t_CHANGES_1, .str "turn" t_CHANGES_2] n_CHANGES, q_CHANGES⟩)
    (n_statements_Program : PySem.W.findIn K (.ref C_Program) "statements" = some none)
    (n_sizes_Program : PySem.W.findIn K (.ref C_Program) "sizes" = some none)
    (n_flag_Run : PySem.W.findIn K (.ref C_Run) "flag" = some none)
    (n_names_Run : PySem.W.findIn K (.ref C_Run) "names" = some none)
    (n_content_Run : PySem.W.findIn K (.ref C_Run) "content" = some none)
    (n_left_Run : PySem.W.findIn K (.ref C_Run) "left" = some none)
    (a_is_integer : PySem.W.nsIn K mainGlobals "is_integer" = some (some (.ref g_is_integer)))
    (l_is_integer : K.lookup g_is_integer = some ⟨oc_is_integer, od_is_integer, .func (PySem.W.fnOf "is_integer" "is_integer" (defArgs s_is_integer) (defBody s_is_integer) (defScope s_is_integer) .none kV_is_integer dc_is_integer pm_is_integer an_is_integer cd_is_integer ct_is_integer), sl_is_integer⟩)
    (c_is_integer : PySem.W.codeIn K cd_is_integer "is_integer" = true)
    (k_is_integer : PySem.W.keepIn K (.ref g_is_integer) = true)
    (a_is_within : PySem.W.nsIn K mainGlobals "is_within" = some (some (.ref g_is_within)))
    (l_is_within : K.lookup g_is_within = some ⟨oc_is_within, od_is_within, .func (PySem.W.fnOf "is_within" "is_within" (defArgs s_is_within) (defBody s_is_within) (defScope s_is_within) .none kV_is_within dc_is_within pm_is_within an_is_within cd_is_within ct_is_within), sl_is_within⟩)
    (c_is_within : PySem.W.codeIn K cd_is_within "is_within" = true)
    (k_is_within : PySem.W.keepIn K (.ref g_is_within) = true)
    (a_is_lot : PySem.W.nsIn K mainGlobals "is_lot" = some (some (.ref g_is_lot)))
    (l_is_lot : K.lookup g_is_lot = some ⟨oc_is_lot, od_is_lot, .func (PySem.W.fnOf "is_lot" "is_lot" (defArgs s_is_lot) (defBody s_is_lot) (defScope s_is_lot) .none kV_is_lot dc_is_lot pm_is_lot an_is_lot cd_is_lot ct_is_lot), sl_is_lot⟩)
    (c_is_lot : PySem.W.codeIn K cd_is_lot "is_lot" = true)
    (k_is_lot : PySem.W.keepIn K (.ref g_is_lot) = true)
    (a_is_pair : PySem.W.nsIn K mainGlobals "is_pair" = some (some (.ref g_is_pair)))
    (l_is_pair : K.lookup g_is_pair = some ⟨oc_is_pair, od_is_pair, .func (PySem.W.fnOf "is_pair" "is_pair" (defArgs s_is_pair) (defBody s_is_pair) (defScope s_is_pair) .none kV_is_pair dc_is_pair pm_is_pair an_is_pair cd_is_pair ct_is_pair), sl_is_pair⟩)
    (c_is_pair : PySem.W.codeIn K cd_is_pair "is_pair" = true)
    (k_is_pair : PySem.W.keepIn K (.ref g_is_pair) = true)
    (a_is_name : PySem.W.nsIn K mainGlobals "is_name" = some (some (.ref g_is_name)))
    (l_is_name : K.lookup g_is_name = some ⟨oc_is_name, od_is_name, .func (PySem.W.fnOf "is_name" "is_name" (defArgs s_is_name) (defBody s_is_name) (defScope s_is_name) .none kV_is_name dc_is_name pm_is_name an_is_name cd_is_name ct_is_name), sl_is_name⟩)
    (c_is_name : PySem.W.codeIn K cd_is_name "is_name" = true)
    (k_is_name : PySem.W.keepIn K (.ref g_is_name) = true)
    (a_check_sizes : PySem.W.nsIn K mainGlobals "check_sizes" = some (some (.ref g_check_sizes)))
    (l_check_sizes : K.lookup g_check_sizes = some ⟨oc_check_sizes, od_check_sizes, .func (PySem.W.fnOf "check_sizes" "check_sizes" (defArgs s_check_sizes) (defBody s_check_sizes) (defScope s_check_sizes) .none kV_check_sizes dc_check_sizes pm_check_sizes an_check_sizes cd_check_sizes ct_check_sizes), sl_check_sizes⟩)
    (c_check_sizes : PySem.W.codeIn K cd_check_sizes "check_sizes" = true)
    (k_check_sizes : PySem.W.keepIn K (.ref g_check_sizes) = true)
    (a_is_content : PySem.W.nsIn K mainGlobals "is_content" = some (some (.ref g_is_content)))
    (l_is_content : K.lookup g_is_content = some ⟨oc_is_content, od_is_content, .func (PySem.W.fnOf "is_content" "is_content" (defArgs s_is_content) (defBody s_is_content) (defScope s_is_content) .none kV_is_content dc_is_content pm_is_content an_is_content cd_is_content ct_is_content), sl_is_content⟩)
    (c_is_content : PySem.W.codeIn K cd_is_content "is_content" = true)
    (k_is_content : PySem.W.keepIn K (.ref g_is_content) = true)
    (a_check_content : PySem.W.nsIn K mainGlobals "check_content" = some (some (.ref g_check_content)))
    (l_check_content : K.lookup g_check_content = some ⟨oc_check_content, od_check_content, .func (PySem.W.fnOf "check_content" "check_content" (defArgs s_check_content) (defBody s_check_content) (defScope s_check_content) .none kV_check_content dc_check_content pm_check_content an_check_content cd_check_content ct_check_content), sl_check_content⟩)
    (c_check_content : PySem.W.codeIn K cd_check_content "check_content" = true)
    (k_check_content : PySem.W.keepIn K (.ref g_check_content) = true)
    (a_sizes_at : PySem.W.nsIn K mainGlobals "sizes_at" = some (some (.ref g_sizes_at)))
    (l_sizes_at : K.lookup g_sizes_at = some ⟨oc_sizes_at, od_sizes_at, .func (PySem.W.fnOf "sizes_at" "sizes_at" (defArgs s_sizes_at) (defBody s_sizes_at) (defScope s_sizes_at) .none kV_sizes_at dc_sizes_at pm_sizes_at an_sizes_at cd_sizes_at ct_sizes_at), sl_sizes_at⟩)
    (c_sizes_at : PySem.W.codeIn K cd_sizes_at "sizes_at" = true)
    (k_sizes_at : PySem.W.keepIn K (.ref g_sizes_at) = true)
    (a_joint_of : PySem.W.nsIn K mainGlobals "joint_of" = some (some (.ref g_joint_of)))
    (l_joint_of : K.lookup g_joint_of = some ⟨oc_joint_of, od_joint_of, .func (PySem.W.fnOf "joint_of" "joint_of" (defArgs s_joint_of) (defBody s_joint_of) (defScope s_joint_of) .none kV_joint_of dc_joint_of pm_joint_of an_joint_of cd_joint_of ct_joint_of), sl_joint_of⟩)
    (c_joint_of : PySem.W.codeIn K cd_joint_of "joint_of" = true)
    (k_joint_of : PySem.W.keepIn K (.ref g_joint_of) = true)
    (a_is_test : PySem.W.nsIn K mainGlobals "is_test" = some (some (.ref g_is_test)))
    (l_is_test : K.lookup g_is_test = some ⟨oc_is_test, od_is_test, .func (PySem.W.fnOf "is_test" "is_test" (defArgs s_is_test) (defBody s_is_test) (defScope s_is_test) .none kV_is_test dc_is_test pm_is_test an_is_test cd_is_test ct_is_test), sl_is_test⟩)
    (c_is_test : PySem.W.codeIn K cd_is_test "is_test" = true)
    (k_is_test : PySem.W.keepIn K (.ref g_is_test) = true)
    (a_is_statement : PySem.W.nsIn K mainGlobals "is_statement" = some (some (.ref g_is_statement)))
    (l_is_statement : K.lookup g_is_statement = some ⟨oc_is_statement, od_is_statement, .func (PySem.W.fnOf "is_statement" "is_statement" (defArgs s_is_statement) (defBody s_is_statement) (defScope s_is_statement) .none kV_is_statement dc_is_statement pm_is_statement an_is_statement cd_is_statement ct_is_statement), sl_is_statement⟩)
    (c_is_statement : PySem.W.codeIn K cd_is_statement "is_statement" = true)
    (k_is_statement : PySem.W.keepIn K (.ref g_is_statement) = true)
    (a_shows : PySem.W.nsIn K mainGlobals "shows" = some (some (.ref g_shows)))
    (l_shows : K.lookup g_shows = some ⟨oc_shows, od_shows, .func (PySem.W.fnOf "shows" "shows" (defArgs s_shows) (defBody s_shows) (defScope s_shows) .none kV_shows dc_shows pm_shows an_shows cd_shows ct_shows), sl_shows⟩)
    (c_shows : PySem.W.codeIn K cd_shows "shows" = true)
    (k_shows : PySem.W.keepIn K (.ref g_shows) = true)
    (a_changed : PySem.W.nsIn K mainGlobals "changed" = some (some (.ref g_changed)))
    (l_changed : K.lookup g_changed = some ⟨oc_changed, od_changed, .func (PySem.W.fnOf "changed" "changed" (defArgs s_changed) (defBody s_changed) (defScope s_changed) .none kV_changed dc_changed pm_changed an_changed cd_changed ct_changed), sl_changed⟩)
    (c_changed : PySem.W.codeIn K cd_changed "changed" = true)
    (k_changed : PySem.W.keepIn K (.ref g_changed) = true)
    (a_Run_init : PySem.W.findIn K (.ref C_Run) "__init__" = some (some (.ref g_Run_init)))
    (l_Run_init : K.lookup g_Run_init = some ⟨oc_Run_init, od_Run_init, .func (PySem.W.fnOf "__init__" "Run.__init__" (defArgs s_Run_init) (defBody s_Run_init) (defScope s_Run_init) .none kV_Run_init dc_Run_init pm_Run_init an_Run_init cd_Run_init ct_Run_init), sl_Run_init⟩)
    (c_Run_init : PySem.W.codeIn K cd_Run_init "Run.__init__" = true)
    (k_Run_init : PySem.W.keepIn K (.ref g_Run_init) = true)
    (i_Run_init : PySem.W.isFn K (.ref g_Run_init) = true)
    (mk_Run : PySem.W.makesIn K C_Run = true)
    (kc_Run : PySem.W.keepIn K (.ref C_Run) = true)
    (a_Run_step : PySem.W.findIn K (.ref C_Run) "step" = some (some (.ref g_Run_step)))
    (l_Run_step : K.lookup g_Run_step = some ⟨oc_Run_step, od_Run_step, .func (PySem.W.fnOf "step" "Run.step" (defArgs s_Run_step) (defBody s_Run_step) (defScope s_Run_step) .none kV_Run_step dc_Run_step pm_Run_step an_Run_step cd_Run_step ct_Run_step), sl_Run_step⟩)
    (c_Run_step : PySem.W.codeIn K cd_Run_step "Run.step" = true)
    (k_Run_step : PySem.W.keepIn K (.ref g_Run_step) = true)
    (i_Run_step : PySem.W.isFn K (.ref g_Run_step) = true)
    (a_run_of : PySem.W.nsIn K mainGlobals "run_of" = some (some (.ref g_run_of)))
    (l_run_of : K.lookup g_run_of = some ⟨oc_run_of, od_run_of, .func (PySem.W.fnOf "run_of" "run_of" (defArgs s_run_of) (defBody s_run_of) (defScope s_run_of) .none kV_run_of dc_run_of pm_run_of an_run_of cd_run_of ct_run_of), sl_run_of⟩)
    (c_run_of : PySem.W.codeIn K cd_run_of "run_of" = true)
    (k_run_of : PySem.W.keepIn K (.ref g_run_of) = true)
    (a_run : PySem.W.nsIn K mainGlobals "run" = some (some (.ref g_run)))
    (l_run : K.lookup g_run = some ⟨oc_run, od_run, .func (PySem.W.fnOf "run" "run" (defArgs s_run) (defBody s_run) (defScope s_run) .none kV_run dc_run pm_run an_run cd_run ct_run), sl_run⟩)
    (c_run : PySem.W.codeIn K cd_run "run" = true)
    (k_run : PySem.W.keepIn K (.ref g_run) = true)
    (a_traced : PySem.W.nsIn K mainGlobals "traced" = some (some (.ref g_traced)))
    (l_traced : K.lookup g_traced = some ⟨oc_traced, od_traced, .func (PySem.W.fnOf "traced" "traced" (defArgs s_traced) (defBody s_traced) (defScope s_traced) .none kV_traced dc_traced pm_traced an_traced cd_traced ct_traced), sl_traced⟩)
    (c_traced : PySem.W.codeIn K cd_traced "traced" = true)
    (k_traced : PySem.W.keepIn K (.ref g_traced) = true)
    (a__law_hand : PySem.W.nsIn K mainGlobals "_law_hand" = some (some (.ref g__law_hand)))
    (l__law_hand : K.lookup g__law_hand = some ⟨oc__law_hand, od__law_hand, .func (PySem.W.fnOf "_law_hand" "_law_hand" (defArgs s__law_hand) (defBody s__law_hand) (defScope s__law_hand) .none kV__law_hand dc__law_hand pm__law_hand an__law_hand cd__law_hand ct__law_hand), sl__law_hand⟩)
    (c__law_hand : PySem.W.codeIn K cd__law_hand "_law_hand" = true)
    (k__law_hand : PySem.W.keepIn K (.ref g__law_hand) = true)
    (a__law_draw : PySem.W.nsIn K mainGlobals "_law_draw" = some (some (.ref g__law_draw)))
    (l__law_draw : K.lookup g__law_draw = some ⟨oc__law_draw, od__law_draw, .func (PySem.W.fnOf "_law_draw" "_law_draw" (defArgs s__law_draw) (defBody s__law_draw) (defScope s__law_draw) .none kV__law_draw dc__law_draw pm__law_draw an__law_draw cd__law_draw ct__law_draw), sl__law_draw⟩)
    (c__law_draw : PySem.W.codeIn K cd__law_draw "_law_draw" = true)
    (k__law_draw : PySem.W.keepIn K (.ref g__law_draw) = true)
    (a__law_any : PySem.W.nsIn K mainGlobals "_law_any" = some (some (.ref g__law_any)))
    (l__law_any : K.lookup g__law_any = some ⟨oc__law_any, od__law_any, .func (PySem.W.fnOf "_law_any" "_law_any" (defArgs s__law_any) (defBody s__law_any) (defScope s__law_any) .none kV__law_any dc__law_any pm__law_any an__law_any cd__law_any ct__law_any), sl__law_any⟩)
    (c__law_any : PySem.W.codeIn K cd__law_any "_law_any" = true)
    (k__law_any : PySem.W.keepIn K (.ref g__law_any) = true)
    (a__law_all : PySem.W.nsIn K mainGlobals "_law_all" = some (some (.ref g__law_all)))
    (l__law_all : K.lookup g__law_all = some ⟨oc__law_all, od__law_all, .func (PySem.W.fnOf "_law_all" "_law_all" (defArgs s__law_all) (defBody s__law_all) (defScope s__law_all) .none kV__law_all dc__law_all pm__law_all an__law_all cd__law_all ct__law_all), sl__law_all⟩)
    (c__law_all : PySem.W.codeIn K cd__law_all "_law_all" = true)
    (k__law_all : PySem.W.keepIn K (.ref g__law_all) = true)
    (a__law_sizes : PySem.W.nsIn K mainGlobals "_law_sizes" = some (some (.ref g__law_sizes)))
    (l__law_sizes : K.lookup g__law_sizes = some ⟨oc__law_sizes, od__law_sizes, .func (PySem.W.fnOf "_law_sizes" "_law_sizes" (defArgs s__law_sizes) (defBody s__law_sizes) (defScope s__law_sizes) .none kV__law_sizes dc__law_sizes pm__law_sizes an__law_sizes cd__law_sizes ct__law_sizes), sl__law_sizes⟩)
    (c__law_sizes : PySem.W.codeIn K cd__law_sizes "_law_sizes" = true)
    (k__law_sizes : PySem.W.keepIn K (.ref g__law_sizes) = true)
    (a__law_lot : PySem.W.nsIn K mainGlobals "_law_lot" = some (some (.ref g__law_lot)))
    (l__law_lot : K.lookup g__law_lot = some ⟨oc__law_lot, od__law_lot, .func (PySem.W.fnOf "_law_lot" "_law_lot" (defArgs s__law_lot) (defBody s__law_lot) (defScope s__law_lot) .none kV__law_lot dc__law_lot pm__law_lot an__law_lot cd__law_lot ct__law_lot), sl__law_lot⟩)
    (c__law_lot : PySem.W.codeIn K cd__law_lot "_law_lot" = true)
    (k__law_lot : PySem.W.keepIn K (.ref g__law_lot) = true)
    (a__law_joint : PySem.W.nsIn K mainGlobals "_law_joint" = some (some (.ref g__law_joint)))
    (l__law_joint : K.lookup g__law_joint = some ⟨oc__law_joint, od__law_joint, .func (PySem.W.fnOf "_law_joint" "_law_joint" (defArgs s__law_joint) (defBody s__law_joint) (defScope s__law_joint) .none kV__law_joint dc__law_joint pm__law_joint an__law_joint cd__law_joint ct__law_joint), sl__law_joint⟩)
    (c__law_joint : PySem.W.codeIn K cd__law_joint "_law_joint" = true)
    (k__law_joint : PySem.W.keepIn K (.ref g__law_joint) = true)
    (a__law_test : PySem.W.nsIn K mainGlobals "_law_test" = some (some (.ref g__law_test)))
    (l__law_test : K.lookup g__law_test = some ⟨oc__law_test, od__law_test, .func (PySem.W.fnOf "_law_test" "_law_test" (defArgs s__law_test) (defBody s__law_test) (defScope s__law_test) .none kV__law_test dc__law_test pm__law_test an__law_test cd__law_test ct__law_test), sl__law_test⟩)
    (c__law_test : PySem.W.codeIn K cd__law_test "_law_test" = true)
    (k__law_test : PySem.W.keepIn K (.ref g__law_test) = true)
    (a__law_statement : PySem.W.nsIn K mainGlobals "_law_statement" = some (some (.ref g__law_statement)))
    (l__law_statement : K.lookup g__law_statement = some ⟨oc__law_statement, od__law_statement, .func (PySem.W.fnOf "_law_statement" "_law_statement" (defArgs s__law_statement) (defBody s__law_statement) (defScope s__law_statement) .none kV__law_statement dc__law_statement pm__law_statement an__law_statement cd__law_statement ct__law_statement), sl__law_statement⟩)
    (c__law_statement : PySem.W.codeIn K cd__law_statement "_law_statement" = true)
    (k__law_statement : PySem.W.keepIn K (.ref g__law_statement) = true)
    (a__law_shows : PySem.W.nsIn K mainGlobals "_law_shows" = some (some (.ref g__law_shows)))
    (l__law_shows : K.lookup g__law_shows = some ⟨oc__law_shows, od__law_shows, .func (PySem.W.fnOf "_law_shows" "_law_shows" (defArgs s__law_shows) (defBody s__law_shows) (defScope s__law_shows) .none kV__law_shows dc__law_shows pm__law_shows an__law_shows cd__law_shows ct__law_shows), sl__law_shows⟩)
    (c__law_shows : PySem.W.codeIn K cd__law_shows "_law_shows" = true)
    (k__law_shows : PySem.W.keepIn K (.ref g__law_shows) = true)
    (a__law_run : PySem.W.nsIn K mainGlobals "_law_run" = some (some (.ref g__law_run)))
    (l__law_run : K.lookup g__law_run = some ⟨oc__law_run, od__law_run, .func (PySem.W.fnOf "_law_run" "_law_run" (defArgs s__law_run) (defBody s__law_run) (defScope s__law_run) .none kV__law_run dc__law_run pm__law_run an__law_run cd__law_run ct__law_run), sl__law_run⟩)
    (c__law_run : PySem.W.codeIn K cd__law_run "_law_run" = true)
    (k__law_run : PySem.W.keepIn K (.ref g__law_run) = true)
    (a_Program_init : PySem.W.findIn K (.ref C_Program) "__init__" = some (some (.ref g_Program_init)))
    (l_Program_init : K.lookup g_Program_init = some ⟨oc_Program_init, od_Program_init, .func (PySem.W.fnOf "__init__" "Program.__init__" (defArgs s_Program_init) (defBody s_Program_init) (defScope s_Program_init) .none kV_Program_init dc_Program_init pm_Program_init an_Program_init cd_Program_init ct_Program_init), sl_Program_init⟩)
    (c_Program_init : PySem.W.codeIn K cd_Program_init "Program.__init__" = true)
    (k_Program_init : PySem.W.keepIn K (.ref g_Program_init) = true)
    (i_Program_init : PySem.W.isFn K (.ref g_Program_init) = true)
    (mk_Program : PySem.W.makesIn K C_Program = true)
    (kc_Program : PySem.W.keepIn K (.ref C_Program) = true)
    (a_law : PySem.W.nsIn K mainGlobals "law" = some (some (.ref g_law)))
    (l_law : K.lookup g_law = some ⟨oc_law, od_law, .func (PySem.W.fnOf "law" "law" (defArgs s_law) (defBody s_law) (defScope s_law) .none kV_law dc_law pm_law an_law cd_law ct_law), sl_law⟩)
    (c_law : PySem.W.codeIn K cd_law "law" = true)
    (k_law : PySem.W.keepIn K (.ref g_law) = true) :
    ∃ fd : FuncData, (∀ (s : Shared) (v : Value), BindsTo s fd ⟨[v], []⟩ [("script", v)]) ∧ ∀ base : Heap, K.In base → base.Ns mainGlobals mg → RunAt l.prog w K mg base callerA fa fd ["script"] (spD K (clOf K clNs) 1 [] h_law) := by
  have e := hfa.symm.trans (PySem.W.mg_of X G a_law)
  cases e
  have e_Program : clOf K clNs 0 = C_Program := clOf_eq rfl k_Program
  have f_Program : ClsF K (clOf K clNs 0) := by rw [e_Program]; exact ⟨⟨pg_Program, hd_Program, po_Program, sa_Program⟩, ha_Program, hn, ht, hm_Program⟩
  have e_Run : clOf K clNs 1 = C_Run := clOf_eq rfl k_Run
  have f_Run : ClsF K (clOf K clNs 1) := by rw [e_Run]; exact ⟨⟨pg_Run, hd_Run, po_Run, sa_Run⟩, ha_Run, hn, ht, hm_Run⟩
  have hI : ∀ z ∈ isaT, PySem.W.kitOne K (tgV (clOf K clNs) z.1) (tgV (clOf K clNs) z.2.1) = some z.2.2 := by
    simp only [isaT, List.forall_mem_cons, tgV, e_Program, e_Run]
    exact ⟨i0, i1, i2, i3, i4, i5, i6, i7, i8, i9, i10, i11, i12, i13, i14, i15, i16, i17, i18, i19, i20, i21, i22, i23, i24, i25, i26, i27, i28, i29, i30, i31, i32, i33, i34, i35, i36, i37, i38, i39, i40, i41, i42, i43, i44, i45, i46, i47, i48, i49, i50, i51, i52, i53,  fun _ z => by cases z⟩
  have hO : ∀ c u b, (Tg.cl c, u, b) ∈ isaT → ClsF K (clOf K clNs c) := by
    intro c u b z
    simp only [isaT, List.mem_cons, Prod.mk.injEq, Tg.cl.injEq, reduceCtorEq, false_and, false_or, List.not_mem_nil, or_false] at z
    rcases z with ⟨rfl, _⟩ | ⟨rfl, _⟩ | ⟨rfl, _⟩ | ⟨rfl, _⟩ | ⟨rfl, _⟩ | ⟨rfl, _⟩ | ⟨rfl, _⟩ | ⟨rfl, _⟩ | ⟨rfl, _⟩ | ⟨rfl, _⟩ | ⟨rfl, _⟩ | ⟨rfl, _⟩
    · exact f_Program
    · exact f_Run
    · exact f_Program
    · exact f_Run
    · exact f_Program
    · exact f_Run
    · exact f_Program
    · exact f_Run
    · exact f_Program
    · exact f_Run
    · exact f_Program
    · exact f_Run
  have fld_statements : FldOk K (clOf K clNs) own_statements "statements" := ⟨fun c z => by
    simp only [own_statements, Bool.or_eq_true, beq_iff_eq] at z
    rcases z with rfl
    · exact ⟨f_Program, by rw [e_Program]; exact n_statements_Program⟩⟩
  have fld_sizes : FldOk K (clOf K clNs) own_sizes "sizes" := ⟨fun c z => by
    simp only [own_sizes, Bool.or_eq_true, beq_iff_eq] at z
    rcases z with rfl
    · exact ⟨f_Program, by rw [e_Program]; exact n_sizes_Program⟩⟩
  have fld_flag : FldOk K (clOf K clNs) own_flag "flag" := ⟨fun c z => by
    simp only [own_flag, Bool.or_eq_true, beq_iff_eq] at z
    rcases z with rfl
    · exact ⟨f_Run, by rw [e_Run]; exact n_flag_Run⟩⟩
  have fld_names : FldOk K (clOf K clNs) own_names "names" := ⟨fun c z => by
    simp only [own_names, Bool.or_eq_true, beq_iff_eq] at z
    rcases z with rfl
    · exact ⟨f_Run, by rw [e_Run]; exact n_names_Run⟩⟩
  have fld_content : FldOk K (clOf K clNs) own_content "content" := ⟨fun c z => by
    simp only [own_content, Bool.or_eq_true, beq_iff_eq] at z
    rcases z with rfl
    · exact ⟨f_Run, by rw [e_Run]; exact n_content_Run⟩⟩
  have fld_left : FldOk K (clOf K clNs) own_left "left" := ⟨fun c z => by
    simp only [own_left, Bool.or_eq_true, beq_iff_eq] at z
    rcases z with rfl
    · exact ⟨f_Run, by rw [e_Run]; exact n_left_Run⟩⟩
  have F_is_integer := fun_mk (st := s_is_integer) l_is_integer c_is_integer k_is_integer
  have F_is_within := fun_mk (st := s_is_within) l_is_within c_is_within k_is_within
  have F_is_lot := fun_mk (st := s_is_lot) l_is_lot c_is_lot k_is_lot
  have F_is_pair := fun_mk (st := s_is_pair) l_is_pair c_is_pair k_is_pair
  have F_is_name := fun_mk (st := s_is_name) l_is_name c_is_name k_is_name
  have F_check_sizes := fun_mk (st := s_check_sizes) l_check_sizes c_check_sizes k_check_sizes
  have F_is_content := fun_mk (st := s_is_content) l_is_content c_is_content k_is_content
  have F_check_content := fun_mk (st := s_check_content) l_check_content c_check_content k_check_content
  have F_sizes_at := fun_mk (st := s_sizes_at) l_sizes_at c_sizes_at k_sizes_at
  have F_joint_of := fun_mk (st := s_joint_of) l_joint_of c_joint_of k_joint_of
  have F_is_test := fun_mk (st := s_is_test) l_is_test c_is_test k_is_test
  have F_is_statement := fun_mk (st := s_is_statement) l_is_statement c_is_statement k_is_statement
  have F_shows := fun_mk (st := s_shows) l_shows c_shows k_shows
  have F_changed := fun_mk (st := s_changed) l_changed c_changed k_changed
  have F_Run_init := fun_mk (st := s_Run_init) l_Run_init c_Run_init k_Run_init
  have F_Run_step := fun_mk (st := s_Run_step) l_Run_step c_Run_step k_Run_step
  have F_run_of := fun_mk (st := s_run_of) l_run_of c_run_of k_run_of
  have F_run := fun_mk (st := s_run) l_run c_run k_run
  have F_traced := fun_mk (st := s_traced) l_traced c_traced k_traced
  have F__law_hand := fun_mk (st := s__law_hand) l__law_hand c__law_hand k__law_hand
  have F__law_draw := fun_mk (st := s__law_draw) l__law_draw c__law_draw k__law_draw
  have F__law_any := fun_mk (st := s__law_any) l__law_any c__law_any k__law_any
  have F__law_all := fun_mk (st := s__law_all) l__law_all c__law_all k__law_all
  have F__law_sizes := fun_mk (st := s__law_sizes) l__law_sizes c__law_sizes k__law_sizes
  have F__law_lot := fun_mk (st := s__law_lot) l__law_lot c__law_lot k__law_lot
  have F__law_joint := fun_mk (st := s__law_joint) l__law_joint c__law_joint k__law_joint
  have F__law_test := fun_mk (st := s__law_test) l__law_test c__law_test k__law_test
  have F__law_statement := fun_mk (st := s__law_statement) l__law_statement c__law_statement k__law_statement
  have F__law_shows := fun_mk (st := s__law_shows) l__law_shows c__law_shows k__law_shows
  have F__law_run := fun_mk (st := s__law_run) l__law_run c__law_run k__law_run
  have F_Program_init := fun_mk (st := s_Program_init) l_Program_init c_Program_init k_Program_init
  have F_law := fun_mk (st := s_law) l_law c_law k_law
  have T : Txt K mg (clOf K clNs) := ⟨PySem.W.mg_none_of X G z_abs,
    PySem.W.mg_none_of X G z_all,
    PySem.W.mg_none_of X G z_bool,
    PySem.W.mg_none_of X G z_enumerate,
    PySem.W.mg_none_of X G z_int,
    PySem.W.mg_none_of X G z_isinstance,
    PySem.W.mg_none_of X G z_len,
    PySem.W.mg_none_of X G z_list,
    PySem.W.mg_none_of X G z_min,
    PySem.W.mg_none_of X G z_range,
    PySem.W.mg_none_of X G z_repr,
    PySem.W.mg_none_of X G z_sorted,
    PySem.W.mg_none_of X G z_str,
    PySem.W.mg_none_of X G z_tuple,
    PySem.W.mg_none_of X G z_zip,
    ⟨t_LEAST_WORTHS, PySem.W.mg_of X G c_LEAST_WORTHS⟩,
    ⟨t_MOST_LOOKED, PySem.W.mg_of X G c_MOST_LOOKED⟩,
    ⟨t_MOST_PINS, PySem.W.mg_of X G c_MOST_PINS⟩,
    ⟨t_MOST_STATEMENTS, PySem.W.mg_of X G c_MOST_STATEMENTS⟩,
    ⟨t_MOST_WORTHS, PySem.W.mg_of X G c_MOST_WORTHS⟩,
    by rw [e_Program]; exact PySem.W.mg_of X G k_Program,
    by rw [e_Run]; exact PySem.W.mg_of X G k_Run,
    ⟨_, PySem.W.mg_of X G g_CHANGES, ⟨_, _, [.str "set" t_CHANGES_0, .str "clear" t_CHANGES_1, .str "turn" t_CHANGES_2], _, rfl, lk_CHANGES, rfl, rfl, rfl, Nat.le_of_ble_eq_true rfl, ⟨_, _, rfl, ⟨_, rfl⟩, ⟨_, _, rfl, ⟨_, rfl⟩, ⟨_, _, rfl, ⟨_, rfl⟩, rfl⟩⟩⟩⟩⟩,
    f_Run,
    isaOk_of hI hO,
    fld_statements,
    fld_sizes,
    fld_flag,
    fld_names,
    fld_content,
    fld_left,
    ⟨g_is_integer, _, PySem.W.mg_of X G a_is_integer, F_is_integer, (F_is_integer.binds (ps := ["thing"]) fun _ _ _ _ _ _ us hl => match us, hl with | [_], _ => rfl)⟩,
    ⟨g_is_within, _, PySem.W.mg_of X G a_is_within, F_is_within, (F_is_within.binds (ps := ["thing", "least", "most"]) fun _ _ _ _ _ _ us hl => match us, hl with | [_, _, _], _ => rfl)⟩,
    ⟨g_is_lot, _, PySem.W.mg_of X G a_is_lot, F_is_lot, (F_is_lot.binds (ps := ["thing", "many"]) fun _ _ _ _ _ _ us hl => match us, hl with | [_, _], _ => rfl)⟩,
    ⟨g_is_pair, _, PySem.W.mg_of X G a_is_pair, F_is_pair, (F_is_pair.binds (ps := ["thing"]) fun _ _ _ _ _ _ us hl => match us, hl with | [_], _ => rfl)⟩,
    ⟨g_is_name, _, PySem.W.mg_of X G a_is_name, F_is_name, (F_is_name.binds (ps := ["thing"]) fun _ _ _ _ _ _ us hl => match us, hl with | [_], _ => rfl)⟩,
    ⟨g_check_sizes, _, PySem.W.mg_of X G a_check_sizes, F_check_sizes, (F_check_sizes.binds (ps := ["thing"]) fun _ _ _ _ _ _ us hl => match us, hl with | [_], _ => rfl)⟩,
    ⟨g_is_content, _, PySem.W.mg_of X G a_is_content, F_is_content, (F_is_content.binds (ps := ["sizes", "thing"]) fun _ _ _ _ _ _ us hl => match us, hl with | [_, _], _ => rfl)⟩,
    ⟨g_check_content, _, PySem.W.mg_of X G a_check_content, F_check_content, (F_check_content.binds (ps := ["sizes", "thing"]) fun _ _ _ _ _ _ us hl => match us, hl with | [_, _], _ => rfl)⟩,
    ⟨g_sizes_at, _, PySem.W.mg_of X G a_sizes_at, F_sizes_at, (F_sizes_at.binds (ps := ["sizes", "lot"]) fun _ _ _ _ _ _ us hl => match us, hl with | [_, _], _ => rfl)⟩,
    ⟨g_joint_of, _, PySem.W.mg_of X G a_joint_of, F_joint_of, (F_joint_of.binds (ps := ["lot", "content"]) fun _ _ _ _ _ _ us hl => match us, hl with | [_, _], _ => rfl)⟩,
    ⟨g_is_test, _, PySem.W.mg_of X G a_is_test, F_is_test, (F_is_test.binds (ps := ["sizes", "thing"]) fun _ _ _ _ _ _ us hl => match us, hl with | [_, _], _ => rfl)⟩,
    ⟨g_is_statement, _, PySem.W.mg_of X G a_is_statement, F_is_statement, (F_is_statement.binds (ps := ["sizes", "thing"]) fun _ _ _ _ _ _ us hl => match us, hl with | [_, _], _ => rfl)⟩,
    ⟨g_shows, _, PySem.W.mg_of X G a_shows, F_shows, (F_shows.binds (ps := ["content", "test"]) fun _ _ _ _ _ _ us hl => match us, hl with | [_, _], _ => rfl)⟩,
    ⟨g_changed, _, PySem.W.mg_of X G a_changed, F_changed, (F_changed.binds (ps := ["flag", "word"]) fun _ _ _ _ _ _ us hl => match us, hl with | [_, _], _ => rfl)⟩,
    ⟨g_Run_init, by rw [e_Run]; exact ⟨mk_Run, a_Run_init, i_Run_init, kc_Run⟩, _, F_Run_init, (F_Run_init.binds (ps := ["self", "content"]) fun _ _ _ _ _ _ us hl => match us, hl with | [_, _], _ => rfl)⟩,
    ⟨g_Run_step, by rw [e_Run]; exact ⟨a_Run_step, i_Run_step, k_Run_step⟩, _, F_Run_step, (F_Run_step.binds (ps := ["self", "statement"]) fun _ _ _ _ _ _ us hl => match us, hl with | [_, _], _ => rfl)⟩,
    ⟨g_run_of, _, PySem.W.mg_of X G a_run_of, F_run_of, (F_run_of.binds (ps := ["program", "content"]) fun _ _ _ _ _ _ us hl => match us, hl with | [_, _], _ => rfl)⟩,
    ⟨g_run, _, PySem.W.mg_of X G a_run, F_run, (F_run.binds (ps := ["program", "content"]) fun _ _ _ _ _ _ us hl => match us, hl with | [_, _], _ => rfl)⟩,
    ⟨g_traced, _, PySem.W.mg_of X G a_traced, F_traced, (F_traced.binds (ps := ["program", "content"]) fun _ _ _ _ _ _ us hl => match us, hl with | [_, _], _ => rfl)⟩,
    ⟨g__law_hand, _, PySem.W.mg_of X G a__law_hand, F__law_hand, (F__law_hand.binds (ps := ["script"]) fun _ _ _ _ _ _ us hl => match us, hl with | [_], _ => rfl)⟩,
    ⟨g__law_draw, _, PySem.W.mg_of X G a__law_draw, F__law_draw, (F__law_draw.binds (ps := ["hand", "many"]) fun _ _ _ _ _ _ us hl => match us, hl with | [_, _], _ => rfl)⟩,
    ⟨g__law_any, _, PySem.W.mg_of X G a__law_any, F__law_any, (F__law_any.binds (ps := ["hand", "some"]) fun _ _ _ _ _ _ us hl => match us, hl with | [_, _], _ => rfl)⟩,
    ⟨g__law_all, _, PySem.W.mg_of X G a__law_all, F__law_all, (F__law_all.binds (ps := ["sizes"]) fun _ _ _ _ _ _ us hl => match us, hl with | [_], _ => rfl)⟩,
    ⟨g__law_sizes, _, PySem.W.mg_of X G a__law_sizes, F__law_sizes, (F__law_sizes.binds (ps := ["hand", "most", "bound"]) fun _ _ _ _ _ _ us hl => match us, hl with | [_, _, _], _ => rfl)⟩,
    ⟨g__law_lot, _, PySem.W.mg_of X G a__law_lot, F__law_lot, (F__law_lot.binds (ps := ["hand", "many", "most"]) fun _ _ _ _ _ _ us hl => match us, hl with | [_, _, _], _ => rfl)⟩,
    ⟨g__law_joint, _, PySem.W.mg_of X G a__law_joint, F__law_joint, (F__law_joint.binds (ps := ["lot", "content"]) fun _ _ _ _ _ _ us hl => match us, hl with | [_, _], _ => rfl)⟩,
    ⟨g__law_test, _, PySem.W.mg_of X G a__law_test, F__law_test, (F__law_test.binds (ps := ["hand", "sizes"]) fun _ _ _ _ _ _ us hl => match us, hl with | [_, _], _ => rfl)⟩,
    ⟨g__law_statement, _, PySem.W.mg_of X G a__law_statement, F__law_statement, (F__law_statement.binds (ps := ["hand", "sizes"]) fun _ _ _ _ _ _ us hl => match us, hl with | [_, _], _ => rfl)⟩,
    ⟨g__law_shows, _, PySem.W.mg_of X G a__law_shows, F__law_shows, (F__law_shows.binds (ps := ["content", "test"]) fun _ _ _ _ _ _ us hl => match us, hl with | [_, _], _ => rfl)⟩,
    ⟨g__law_run, _, PySem.W.mg_of X G a__law_run, F__law_run, (F__law_run.binds (ps := ["statements", "content"]) fun _ _ _ _ _ _ us hl => match us, hl with | [_, _], _ => rfl)⟩,
    ⟨g_Program_init, by rw [e_Program]; exact ⟨mk_Program, a_Program_init, i_Program_init, kc_Program⟩, _, F_Program_init, (F_Program_init.binds (ps := ["self", "sizes", "statements"]) fun _ _ _ _ _ _ us hl => match us, hl with | [_, _, _], _ => rfl)⟩⟩
  exact ⟨PySem.W.fnOf "law" "law" (defArgs s_law) (defBody s_law) (defScope s_law) .none kV_law dc_law pm_law an_law cd_law ct_law, fun s v => .of_eq rfl, fun base _ _ => ok_law T F_law⟩
theorem walk {l : PySem.W.OpenLaw} {q : Program} {loose : List Str} {XP : (Str → Option Value) → Heap → Prop} {YP : World → Heap → Prop} {d : DefRec} {K : Params → PySem.W.Frag} (hn : l.most = some 63) (hdf : d.params.defaults = [])
    (hY : ∀ (w : World) (h : Heap), YP w h → (K w.params).In h)
    (F : ∀ (w : World) (mg : Str → Option Value) (fa : Addr) (h : Heap), (K w.params).In h → h.Ns mainGlobals mg → mg d.name = some (.ref fa) →
      ∃ fd : FuncData, (∀ (s : Shared) (u : Value), BindsTo s fd ⟨[u], []⟩ [("script", u)]) ∧ ∀ base : Heap, (K w.params).In base → base.Ns mainGlobals mg → RunAt l.prog w (K w.params) mg base callerA fa fd ["script"] (spD (K w.params) (clOf (K w.params) clNs) 1 [] h_law)) :
    PySem.W.WalkO q loose XP YP l.row.toRowW d [] (fun f vs => PySem.call f vs) :=
  walk_at (n := 63) (x := "script") (sp := fun w => spD (K w.params) (clOf (K w.params) clNs) 1 [] h_law) hn (by decide) hdf hY F (fun _ _ a ns hl _ hS => law_sp (law_true ns hl) hS)
end K08
open PySem PySem.W PyProof.Rows in
set_option maxRecDepth 100000 in
set_option maxHeartbeats 0 in
theorem PySem.Challenge.cw_twostandings_k08_whole_programs_run_holds : PySem.Challenge.rw_twostandings_k08_whole_programs_run.Holds := by
  w_on; o_law; k_head; (case hw => w_witness2)
  k_fill
  refine K08.walk (l := PySem.Challenge.rw_twostandings_k08_whole_programs_run) rfl rfl (fun w h Y => PySem.W.kIn_of Y) ?F
  case F =>
    intro w mg fa h KX G hmg
    refine' K08.all_mk KX G hmg ?z_abs ?z_all ?z_bool ?z_enumerate ?z_int ?z_isinstance ?z_len ?z_list ?z_min ?z_range ?z_repr ?z_sorted ?z_str ?z_tuple ?z_zip ?c_LEAST_WORTHS ?c_MOST_LOOKED ?c_MOST_PINS ?c_MOST_STATEMENTS ?c_MOST_WORTHS ?k_Program ?pg_Program ?hd_Program ?po_Program ?sa_Program ?ha_Program ?hm_Program ?k_Run ?pg_Run ?hd_Run ?po_Run ?sa_Run ?ha_Run ?hm_Run ?hn ?ht ?i0 ?i1 ?i2 ?i3 ?i4 ?i5 ?i6 ?i7 ?i8 ?i9 ?i10 ?i11 ?i12 ?i13 ?i14 ?i15 ?i16 ?i17 ?i18 ?i19 ?i20 ?i21 ?i22 ?i23 ?i24 ?i25 ?i26 ?i27 ?i28 ?i29 ?i30 ?i31 ?i32 ?i33 ?i34 ?i35 ?i36 ?i37 ?i38 ?i39 ?i40 ?i41 ?i42 ?i43 ?i44 ?i45 ?i46 ?i47 ?i48 ?i49 ?i50 ?i51 ?i52 ?i53 ?g_CHANGES ?lk_CHANGES ?n_statements_Program ?n_sizes_Program ?n_flag_Run ?n_names_Run ?n_content_Run ?n_left_Run ?a_is_integer ?l_is_integer ?c_is_integer ?k_is_integer ?a_is_within ?l_is_within ?c_is_within ?k_is_within ?a_is_lot ?l_is_lot ?c_is_lot ?k_is_lot ?a_is_pair ?l_is_pair ?c_is_pair ?k_is_pair ?a_is_name ?l_is_name ?c_is_name ?k_is_name ?a_check_sizes ?l_check_sizes ?c_check_sizes ?k_check_sizes ?a_is_content ?l_is_content ?c_is_content ?k_is_content ?a_check_content ?l_check_content ?c_check_content ?k_check_content ?a_sizes_at ?l_sizes_at ?c_sizes_at ?k_sizes_at ?a_joint_of ?l_joint_of ?c_joint_of ?k_joint_of ?a_is_test ?l_is_test ?c_is_test ?k_is_test ?a_is_statement ?l_is_statement ?c_is_statement ?k_is_statement ?a_shows ?l_shows ?c_shows ?k_shows ?a_changed ?l_changed ?c_changed ?k_changed ?a_Run_init ?l_Run_init ?c_Run_init ?k_Run_init ?i_Run_init ?mk_Run ?kc_Run ?a_Run_step ?l_Run_step ?c_Run_step ?k_Run_step ?i_Run_step ?a_run_of ?l_run_of ?c_run_of ?k_run_of ?a_run ?l_run ?c_run ?k_run ?a_traced ?l_traced ?c_traced ?k_traced ?a__law_hand ?l__law_hand ?c__law_hand ?k__law_hand ?a__law_draw ?l__law_draw ?c__law_draw ?k__law_draw ?a__law_any ?l__law_any ?c__law_any ?k__law_any ?a__law_all ?l__law_all ?c__law_all ?k__law_all ?a__law_sizes ?l__law_sizes ?c__law_sizes ?k__law_sizes ?a__law_lot ?l__law_lot ?c__law_lot ?k__law_lot ?a__law_joint ?l__law_joint ?c__law_joint ?k__law_joint ?a__law_test ?l__law_test ?c__law_test ?k__law_test ?a__law_statement ?l__law_statement ?c__law_statement ?k__law_statement ?a__law_shows ?l__law_shows ?c__law_shows ?k__law_shows ?a__law_run ?l__law_run ?c__law_run ?k__law_run ?a_Program_init ?l_Program_init ?c_Program_init ?k_Program_init ?i_Program_init ?mk_Program ?kc_Program ?a_law ?l_law ?c_law ?k_law
    (case z_abs => k_is)
    (case z_all => k_is)
    (case z_bool => k_is)
    (case z_enumerate => k_is)
    (case z_int => k_is)
    (case z_isinstance => k_is)
    (case z_len => k_is)
    (case z_list => k_is)
    (case z_min => k_is)
    (case z_range => k_is)
    (case z_repr => k_is)
    (case z_sorted => k_is)
    (case z_str => k_is)
    (case z_tuple => k_is)
    (case z_zip => k_is)
    (case c_LEAST_WORTHS => k_is)
    (case c_MOST_LOOKED => k_is)
    (case c_MOST_PINS => k_is)
    (case c_MOST_STATEMENTS => k_is)
    (case c_MOST_WORTHS => k_is)
    (case k_Program => k_is)
    (case pg_Program => k_is)
    (case hd_Program => k_is)
    (case po_Program => k_is)
    (case sa_Program => k_is)
    (case ha_Program => k_is)
    (case hm_Program => k_is)
    (case k_Run => k_is)
    (case pg_Run => k_is)
    (case hd_Run => k_is)
    (case po_Run => k_is)
    (case sa_Run => k_is)
    (case ha_Run => k_is)
    (case hm_Run => k_is)
    (case hn => k_is)
    (case ht => k_is)
    (case i0 => kit_is)
    (case i1 => kit_is)
    (case i2 => kit_is)
    (case i3 => kit_is)
    (case i4 => kit_is)
    (case i5 => kit_is)
    (case i6 => kit_is)
    (case i7 => kit_is)
    (case i8 => kit_is)
    (case i9 => kit_is)
    (case i10 => kit_is)
    (case i11 => kit_is)
    (case i12 => kit_is)
    (case i13 => kit_is)
    (case i14 => kit_is)
    (case i15 => kit_is)
    (case i16 => kit_is)
    (case i17 => kit_is)
    (case i18 => kit_is)
    (case i19 => kit_is)
    (case i20 => kit_is)
    (case i21 => kit_is)
    (case i22 => kit_is)
    (case i23 => kit_is)
    (case i24 => kit_is)
    (case i25 => kit_is)
    (case i26 => kit_is)
    (case i27 => kit_is)
    (case i28 => kit_is)
    (case i29 => kit_is)
    (case i30 => kit_is)
    (case i31 => kit_is)
    (case i32 => kit_is)
    (case i33 => kit_is)
    (case i34 => kit_is)
    (case i35 => kit_is)
    (case i36 => kit_is)
    (case i37 => kit_is)
    (case i38 => kit_is)
    (case i39 => kit_is)
    (case i40 => kit_is)
    (case i41 => kit_is)
    (case i42 => kit_is)
    (case i43 => kit_is)
    (case i44 => kit_is)
    (case i45 => kit_is)
    (case i46 => kit_is)
    (case i47 => kit_is)
    (case i48 => kit_is)
    (case i49 => kit_is)
    (case i50 => kit_is)
    (case i51 => kit_is)
    (case i52 => kit_is)
    (case i53 => kit_is)
    (case g_CHANGES => k_is)
    (case lk_CHANGES => k_is)
    (case n_statements_Program => k_is)
    (case n_sizes_Program => k_is)
    (case n_flag_Run => k_is)
    (case n_names_Run => k_is)
    (case n_content_Run => k_is)
    (case n_left_Run => k_is)
    (case a_is_integer => k_is)
    (case l_is_integer => k_is)
    (case c_is_integer => k_is)
    (case k_is_integer => k_is)
    (case a_is_within => k_is)
    (case l_is_within => k_is)
    (case c_is_within => k_is)
    (case k_is_within => k_is)
    (case a_is_lot => k_is)
    (case l_is_lot => k_is)
    (case c_is_lot => k_is)
    (case k_is_lot => k_is)
    (case a_is_pair => k_is)
    (case l_is_pair => k_is)
    (case c_is_pair => k_is)
    (case k_is_pair => k_is)
    (case a_is_name => k_is)
    (case l_is_name => k_is)
    (case c_is_name => k_is)
    (case k_is_name => k_is)
    (case a_check_sizes => k_is)
    (case l_check_sizes => k_is)
    (case c_check_sizes => k_is)
    (case k_check_sizes => k_is)
    (case a_is_content => k_is)
    (case l_is_content => k_is)
    (case c_is_content => k_is)
    (case k_is_content => k_is)
    (case a_check_content => k_is)
    (case l_check_content => k_is)
    (case c_check_content => k_is)
    (case k_check_content => k_is)
    (case a_sizes_at => k_is)
    (case l_sizes_at => k_is)
    (case c_sizes_at => k_is)
    (case k_sizes_at => k_is)
    (case a_joint_of => k_is)
    (case l_joint_of => k_is)
    (case c_joint_of => k_is)
    (case k_joint_of => k_is)
    (case a_is_test => k_is)
    (case l_is_test => k_is)
    (case c_is_test => k_is)
    (case k_is_test => k_is)
    (case a_is_statement => k_is)
    (case l_is_statement => k_is)
    (case c_is_statement => k_is)
    (case k_is_statement => k_is)
    (case a_shows => k_is)
    (case l_shows => k_is)
    (case c_shows => k_is)
    (case k_shows => k_is)
    (case a_changed => k_is)
    (case l_changed => k_is)
    (case c_changed => k_is)
    (case k_changed => k_is)
    (case a_Run_init => k_is)
    (case l_Run_init => k_is)
    (case c_Run_init => k_is)
    (case k_Run_init => k_is)
    (case i_Run_init => k_is)
    (case mk_Run => k_is)
    (case kc_Run => k_is)
    (case a_Run_step => k_is)
    (case l_Run_step => k_is)
    (case c_Run_step => k_is)
    (case k_Run_step => k_is)
    (case i_Run_step => k_is)
    (case a_run_of => k_is)
    (case l_run_of => k_is)
    (case c_run_of => k_is)
    (case k_run_of => k_is)
    (case a_run => k_is)
    (case l_run => k_is)
    (case c_run => k_is)
    (case k_run => k_is)
    (case a_traced => k_is)
    (case l_traced => k_is)
    (case c_traced => k_is)
    (case k_traced => k_is)
    (case a__law_hand => k_is)
    (case l__law_hand => k_is)
    (case c__law_hand => k_is)
    (case k__law_hand => k_is)
    (case a__law_draw => k_is)
    (case l__law_draw => k_is)
    (case c__law_draw => k_is)
    (case k__law_draw => k_is)
    (case a__law_any => k_is)
    (case l__law_any => k_is)
    (case c__law_any => k_is)
    (case k__law_any => k_is)
    (case a__law_all => k_is)
    (case l__law_all => k_is)
    (case c__law_all => k_is)
    (case k__law_all => k_is)
    (case a__law_sizes => k_is)
    (case l__law_sizes => k_is)
    (case c__law_sizes => k_is)
    (case k__law_sizes => k_is)
    (case a__law_lot => k_is)
    (case l__law_lot => k_is)
    (case c__law_lot => k_is)
    (case k__law_lot => k_is)
    (case a__law_joint => k_is)
    (case l__law_joint => k_is)
    (case c__law_joint => k_is)
    (case k__law_joint => k_is)
    (case a__law_test => k_is)
    (case l__law_test => k_is)
    (case c__law_test => k_is)
    (case k__law_test => k_is)
    (case a__law_statement => k_is)
    (case l__law_statement => k_is)
    (case c__law_statement => k_is)
    (case k__law_statement => k_is)
    (case a__law_shows => k_is)
    (case l__law_shows => k_is)
    (case c__law_shows => k_is)
    (case k__law_shows => k_is)
    (case a__law_run => k_is)
    (case l__law_run => k_is)
    (case c__law_run => k_is)
    (case k__law_run => k_is)
    (case a_Program_init => k_is)
    (case l_Program_init => k_is)
    (case c_Program_init => k_is)
    (case k_Program_init => k_is)
    (case i_Program_init => k_is)
    (case mk_Program => k_is)
    (case kc_Program => k_is)
    (case a_law => k_is)
    (case l_law => k_is)
    (case c_law => k_is)
    (case k_law => k_is)
