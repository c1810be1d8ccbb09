import PyProof.Rows.All
import Wide.All
import OpenK.AllK
import Wide.FinOn
import HandS.ForMost
import HandS.IsInst
import HandS.Wide
import HandS.Strs
import HandS.SetIn
import HandS.More
import HandS.Zip
import HandS.RaiseMore
import HandS.ExcIs
import HandS.ExcOwn
import HandS.WordsExc
import HandS.TryOnly
import KE.KUnpackStar
import KE.GoesMore
import KE.GoesZip
import KE.GoesEnum
import HandS.TupMul
import PyProof.TupleOfStr
import HandS.TupAny
import HandS.TupLe
import HandS.TupSets
import KE.KeyNested
import KE.KDictKeyed
import KE.KDictWalk
import KE.KDictDisplayH
import KE.SortData
import HandS.SetBool
import PyProof.Transfer
import HandS.Deep
import HandS.WideBits
import HandS.Style
import KE.KRevSl
import KE.IntTextLaws
import HandS.Small
import HandS.SetKeys
import HandS.DictComp
import KE.DataMinMax
import HandS.SortKw
import HandS.SortInts
import HandS.SetFor
import HandS.RevRange
import HandS.Defaults
import PyProof.EqKinds
import PyProof.NeKinds
import PyProof.Rows.IntBool
import PyProof.TwoTypesSub
import PyProof.ListStr
import KE.RegKIsAll
import KE.RegKTryMore
import PyProof.FactsAll.dict_1
import PyProof.FactsAll.subtypes_3
import PyProof.FactsAll.subtypes_4
import PySem.Challenge.RW_livepoints_k43_needs_through_rings
set_option Elab.async false
set_option linter.all false
set_option maxRecDepth 100000
set_option maxHeartbeats 2000000
namespace VL
open PySem PySem.Spec L2
open PyProof.Rows hiding St
/-- a value as data: what never changes by its whole, what may change by its address -/
inductive D where
  | non | bl (b : Bool) | int (i : Int) | str (s : Str)
  | tup (ds : List D) | lst (ds : List D) | ro (ds : List D) | dct (kvs : List (Key × D))
  | ref (a : Addr)
  deriving Inhabited
mutual
/-- the value v is the data d; G: what is frozen -/
inductive Rp (K : PySem.W.Frag) (G : Hp) : V → D → Prop
  | non : Rp K G .non .non
  | bl (b : Bool) : Rp K G (.bl b) (.bl b)
  | int (i : Int) : Rp K G (.int i) (.int i)
  | str (x : Str) : Rp K G (.str x) (.str x)
  | ref (a : Addr) : Rp K G (.ref a) (.ref a)
  | tup {a : Addr} {xs : List V} {ds : List D} (h : SqT K G a xs) (r : RpL K G xs ds) : Rp K G (.ref a) (.tup ds)
  | lst {a : Addr} {xs : List V} {ds : List D} (h : G a = some (.lst xs)) (r : RpL K G xs ds) : Rp K G (.ref a) (.lst ds)
  | ro {a : Addr} {xs : List V} {ds : List D} (h : SqL K G a xs) (r : RpL K G xs ds) : Rp K G (.ref a) (.ro ds)
  | dct {a : Addr} {ob : Obj} {kvs : List (Key × V)} {ds : List (Key × D)} (h : G a = some (.frz ob (.dK kvs))) (r : RpK K G kvs ds) : Rp K G (.ref a) (.dct ds)
inductive RpL (K : PySem.W.Frag) (G : Hp) : List V → List D → Prop
  | nil : RpL K G [] []
  | cons {v : V} {vs : List V} {d : D} {ds : List D} (h : Rp K G v d) (t : RpL K G vs ds) : RpL K G (v :: vs) (d :: ds)
inductive RpK (K : PySem.W.Frag) (G : Hp) : List (Key × V) → List (Key × D) → Prop
  | nil : RpK K G [] []
  | cons {k : Key} {v : V} {vs : List (Key × V)} {d : D} {ds : List (Key × D)} (h : Rp K G v d) (t : RpK K G vs ds) : RpK K G ((k, v) :: vs) ((k, d) :: ds)
end
section
variable {K : PySem.W.Frag} {G G' : Hp}
theorem same_t {a : Addr} {xs : List V} (e : Same G G') (h : SqT K G a xs) : SqT K G' a xs := by
  rcases h with (h | ⟨o, h⟩) | h
  · exact .inl (.inl (e _ _ h))
  · exact .inl (.inr ⟨o, e _ _ h⟩)
  · exact .inr h
mutual
theorem Rp.mono (e : Same G G') : ∀ {v : V} {d : D}, Rp K G v d → Rp K G' v d
  | _, _, .non => .non
  | _, _, .bl b => .bl b
  | _, _, .int i => .int i
  | _, _, .str x => .str x
  | _, _, .ref a => .ref a
  | _, _, .tup h r => .tup (same_t e h) (RpL.mono e r)
  | _, _, .lst h r => .lst (e _ _ h) (RpL.mono e r)
  | _, _, .ro h r => .ro (e.seq h) (RpL.mono e r)
  | _, _, .dct h r => .dct (e _ _ h) (RpK.mono e r)
theorem RpL.mono (e : Same G G') : ∀ {vs : List V} {ds : List D}, RpL K G vs ds → RpL K G' vs ds
  | _, _, .nil => .nil
  | _, _, .cons h t => .cons (Rp.mono e h) (RpL.mono e t)
theorem RpK.mono (e : Same G G') : ∀ {vs : List (Key × V)} {ds : List (Key × D)}, RpK K G vs ds → RpK K G' vs ds
  | _, _, .nil => .nil
  | _, _, .cons h t => .cons (Rp.mono e h) (RpK.mono e t)
end
theorem RpL.length : ∀ {vs : List V} {ds : List D}, RpL K G vs ds → vs.length = ds.length
  | _, _, .nil => rfl
  | _, _, .cons _ t => by simp [t.length]
theorem RpL.get : ∀ {vs : List V} {ds : List D} {i : Nat} {d : D}, RpL K G vs ds → ds[i]? = some d → ∃ v, vs[i]? = some v ∧ Rp K G v d
  | _, _, _, _, .nil, e => by simp at e
  | _, _, 0, _, .cons h _, e => by simp at e; subst e; exact ⟨_, rfl, h⟩
  | _, _, i + 1, d, .cons _ t, e => by
    obtain ⟨u, h1, h2⟩ := t.get (i := i) (d := d) (by simpa using e)
    exact ⟨u, by simpa using h1, h2⟩
theorem RpL.getV : ∀ {vs : List V} {ds : List D} {i : Nat} {v : V}, RpL K G vs ds → vs[i]? = some v → ∃ d, ds[i]? = some d ∧ Rp K G v d
  | _, _, _, _, .nil, e => by simp at e
  | _, _, 0, _, .cons h _, e => by simp at e; subst e; exact ⟨_, rfl, h⟩
  | _, _, i + 1, d, .cons _ t, e => by
    obtain ⟨u, h1, h2⟩ := t.getV (i := i) (v := d) (by simpa using e)
    exact ⟨u, by simpa using h1, h2⟩
theorem RpL.append : ∀ {xs ys : List V} {us ws : List D}, RpL K G xs us → RpL K G ys ws → RpL K G (xs ++ ys) (us ++ ws)
  | _, _, _, _, .nil, s => s
  | _, _, _, _, .cons r t, s => .cons r (RpL.append t s)
theorem RpL.set {x : V} {u : D} (r : Rp K G x u) : ∀ {xs : List V} {us : List D} (i : Nat), RpL K G xs us → RpL K G (xs.set i x) (us.set i u)
  | _, _, _, .nil => .nil
  | _, _, 0, .cons _ t => .cons r t
  | _, _, i + 1, .cons q t => .cons q (RpL.set r i t)
theorem RpL.take : ∀ {xs : List V} {us : List D} (n : Nat), RpL K G xs us → RpL K G (xs.take n) (us.take n)
  | _, _, 0, _ => .nil
  | _, _, _ + 1, .nil => .nil
  | _, _, n + 1, .cons r t => .cons r (RpL.take n t)
theorem RpL.drop : ∀ {xs : List V} {us : List D} (n : Nat), RpL K G xs us → RpL K G (xs.drop n) (us.drop n)
  | _, _, 0, r => r
  | _, _, _ + 1, .nil => .nil
  | _, _, n + 1, .cons _ t => RpL.drop n t
theorem RpL.replicate {x : V} {u : D} (r : Rp K G x u) : ∀ n : Nat, RpL K G (List.replicate n x) (List.replicate n u)
  | 0 => .nil
  | n + 1 => by rw [List.replicate_succ, List.replicate_succ]; exact .cons r (RpL.replicate r n)
end
abbrev NK := PySem.NestedKey
mutual
def keyN : D → Option NK
  | .non => some .none
  | .int i => some (.num i)
  | .str x => some (.text x)
  | .tup ds => (keysN ds).map .tup
  | _ => none
def keysN : List D → Option (List NK)
  | [] => some []
  | d :: ds => match keyN d, keysN ds with
    | some k, some ks => some (k :: ks)
    | _, _ => none
end
mutual
def dOfN : NK → D
  | .none => .non
  | .num i => .int i
  | .text x => .str x
  | .tup ks => .tup (dsOfN ks)
def dsOfN : List NK → List D
  | [] => []
  | k :: ks => dOfN k :: dsOfN ks
end
mutual
theorem dOf_key : ∀ (d : D) {k : NK}, keyN d = some k → dOfN k = d
  | .non, _, h => by cases h; rfl
  | .int _, _, h => by cases h; rfl
  | .str _, _, h => by cases h; rfl
  | .tup ds, _, h => by
    simp only [keyN, Option.map_eq_some_iff] at h
    obtain ⟨ks, h, rfl⟩ := h
    simp only [dOfN, dsOf_keys ds h]
  | .bl _, _, h => by simp [keyN] at h
  | .lst _, _, h => by simp [keyN] at h
  | .ro _, _, h => by simp [keyN] at h
  | .dct _, _, h => by simp [keyN] at h
  | .ref _, _, h => by simp [keyN] at h
theorem dsOf_keys : ∀ (ds : List D) {ks : List NK}, keysN ds = some ks → dsOfN ks = ds
  | [], _, h => by cases h; rfl
  | d :: ds, _, h => by
    simp only [keysN] at h
    split at h
    · rename_i k ks e1 e2
      cases h
      simp only [dsOfN, dOf_key d e1, dsOf_keys ds e2]
    · cases h
end
/-- a dict whose keys are tuples, by its entries -/
def dtPhi (w : World) (p : Addr) (xs : List (NK × Addr × Value)) (h : Heap) : Prop :=
  (p == sysModules) = false ∧ xs.length ≤ sizeLine ∧ (xs.map (·.1)).Nodup ∧ ∃ (o : Obj) (es : Array DictEntry) (ep : Nat), h.get? p = some o ∧ o.ExactDict ∧ o.data = .dict es ep ∧ es.toList = xs.map fun x => (⟨x.1.hash w, .ref x.2.1, x.2.2⟩ : DictEntry)
inductive EntR (K : PySem.W.Frag) (G : Hp) : List (NK × Addr × Value) → List (NK × D) → Prop
  | nil : EntR K G [] []
  | cons {k : NK} {q : Addr} {u : Value} {d : D} {xs : List (NK × Addr × Value)} {kvs : List (NK × D)} (hk : k.depth ≤ 8 ∧ keyN (dOfN k) = some k) (rk : Rp K G (.ref q) (dOfN k)) (rv : ∃ v, RelV v u ∧ Rp K G v d) (t : EntR K G xs kvs) : EntR K G ((k, q, u) :: xs) ((k, d) :: kvs)
theorem EntR.mono {K : PySem.W.Frag} {G G' : Hp} (e : Same G G') : ∀ {xs : List (NK × Addr × Value)} {kvs : List (NK × D)}, EntR K G xs kvs → EntR K G' xs kvs
  | _, _, .nil => .nil
  | _, _, .cons hk rk ⟨v, r1, r2⟩ t => .cons hk (rk.mono e) ⟨v, r1, r2.mono e⟩ (t.mono e)
inductive SO where
  | lst (ds : List D) | dct (kvs : List (Key × D)) | ins (C : Addr) (fs : List (Str × D))
  | dtn (w : World) (p : Addr) (kvs : List (NK × D)) | dtl (w : World) (p : Addr) (kvs : List (NK × D)) | dcl (kvs : List (Key × D))
abbrev Store := Addr → Option SO
def supd (S : Store) (a : Addr) (o : SO) : Store := fun b => if b = a then some o else S b
def sdel (S : Store) (a : Addr) : Store := fun b => if b = a then none else S b
theorem supd_same {S : Store} {a : Addr} {o : SO} : supd S a o a = some o := by unfold supd; rw [if_pos rfl]
theorem supd_ne {S : Store} {a b : Addr} {o : SO} (h : b ≠ a) : supd S a o b = S b := by unfold supd; rw [if_neg h]
theorem supd_supd {S : Store} {a : Addr} {o u : SO} : supd (supd S a o) a u = supd S a u := by
  funext b; unfold supd; split <;> rfl
inductive RpF (K : PySem.W.Frag) (G : Hp) : List (Str × V) → List (Str × D) → Prop
  | nil : RpF K G [] []
  | cons {k : Str} {v : V} {vs : List (Str × V)} {d : D} {ds : List (Str × D)} (h : Rp K G v d) (t : RpF K G vs ds) : RpF K G ((k, v) :: vs) ((k, d) :: ds)
theorem RpF.mono {K : PySem.W.Frag} {G G' : Hp} (e : Same G G') : ∀ {vs : List (Str × V)} {ds : List (Str × D)}, RpF K G vs ds → RpF K G' vs ds
  | _, _, .nil => .nil
  | _, _, .cons h t => .cons (h.mono e) (RpF.mono e t)
inductive SOk (K : PySem.W.Frag) (G : Hp) : SO → HO → Prop
  | lst {xs : List V} {ds : List D} (r : RpL K G xs ds) : SOk K G (.lst ds) (.lst xs)
  | dct {kvs : List (Key × V)} {ds : List (Key × D)} (r : RpK K G kvs ds) : SOk K G (.dct ds) (.dK kvs)
  | ins {C dx : Addr} {fs : List (Str × V)} {ds : List (Str × D)} (r : RpF K G fs ds) : SOk K G (.ins C ds) (.ins C dx fs)
  | dtn {w : World} {p : Addr} {xs : List (NK × Addr × Value)} {kvs : List (NK × D)} (r : EntR K G xs kvs) : SOk K G (.dtn w p kvs) (.ext (dtPhi w p xs))
  | dtl {w : World} {p : Addr} {ob : Obj} {xs : List (NK × Addr × Value)} {kvs : List (NK × D)} (r : EntR K G xs kvs) : SOk K G (.dtl w p kvs) (.frz ob (.ext (dtPhi w p xs)))
  | dcl {ob : Obj} {kvs : List (Key × V)} {ds : List (Key × D)} (r : RpK K G kvs ds) : SOk K G (.dcl ds) (.frz ob (.dK kvs))
theorem SOk.mono {K : PySem.W.Frag} {G G' : Hp} (e : Same G G') {o : SO} {u : HO} (h : SOk K G o u) : SOk K G' o u := by
  cases h with
  | lst r => exact .lst (r.mono e)
  | dct r => exact .dct (r.mono e)
  | ins r => exact .ins (r.mono e)
  | dtn r => exact .dtn (r.mono e)
  | dtl r => exact .dtl (r.mono e)
  | dcl r => exact .dcl (r.mono e)
/-- the heap H as frozen things G and a store S -/
structure View (K : PySem.W.Frag) (G : Hp) (S : Store) (H : Hp) : Prop where
  gh : Same G H
  st : ∀ a o, S a = some o → G a = none ∧ ∃ u, H a = some u ∧ SOk K G o u
/-- from (G, S, H) to (G', S', H') -/
structure Aft (K : PySem.W.Frag) (G : Hp) (S : Store) (H : Hp) (S' : Store) (H' : Hp) (G' : Hp) : Prop where
  fr : ∀ a o, S a = none → H a = some o → H' a = some o ∧ S' a = none ∧ G' a = G a
  gg : Same G G'
  vw : View K G' S' H'
section
variable {K : PySem.W.Frag} {G G1 G2 : Hp} {S S1 S2 : Store} {H H1 H2 : Hp}
theorem Aft.refl (v : View K G S H) : Aft K G S H S H G := ⟨fun _ _ h e => ⟨e, h, rfl⟩, Same.refl G, v⟩
theorem Aft.trans (a : Aft K G S H S1 H1 G1) (b : Aft K G1 S1 H1 S2 H2 G2) : Aft K G S H S2 H2 G2 :=
  ⟨fun x o h e => let ⟨e1, h1, g1⟩ := a.fr x o h e; let ⟨e2, h2, g2⟩ := b.fr x o h1 e1; ⟨e2, h2, g2.trans g1⟩, a.gg.trans b.gg, b.vw⟩
theorem View.none (v : View K G S H) {a : Addr} (h : H a = none) : G a = none ∧ S a = none := by
  constructor
  · cases e : G a with
    | none => rfl
    | some o => have := v.gh a o e; rw [h] at this; cases this
  · cases e : S a with
    | none => rfl
    | some o => obtain ⟨_, u, hu, _⟩ := v.st a o e; rw [h] at hu; cases hu
/-- a thing that nobody tells of is laid, or changed -/
theorem Aft.junk (x : Aft K G S H S1 H1 G1) {a : Addr} {u : HO} (h : H a = Option.none) (hs : S1 a = Option.none) (hg : G1 a = Option.none) : Aft K G S H S1 (upd H1 a u) G1 := by
  refine ⟨fun b o hb e => ?_, x.gg, ⟨fun b o e => ?_, fun b o e => ?_⟩⟩
  · obtain ⟨e1, h1, g1⟩ := x.fr b o hb e
    exact ⟨by rw [upd_ne (ne_of_none e h)]; exact e1, h1, g1⟩
  · have hb : b ≠ a := by intro z; subst z; rw [hg] at e; cases e
    rw [upd_ne hb]; exact x.vw.gh b o e
  · have hb : b ≠ a := by intro z; subst z; rw [hs] at e; cases e
    obtain ⟨g, w, hw, k⟩ := x.vw.st b o e
    exact ⟨g, w, by rw [upd_ne hb]; exact hw, k⟩
/-- a new frozen thing -/
theorem View.froze (v : View K G S H) {a : Addr} {o : HO} (h : H a = Option.none) : Aft K G S H S (upd H a o) (upd G a o) := by
  have n := v.none h
  refine ⟨fun b u hs e => ⟨by rw [upd_ne (ne_of_none e h)]; exact e, hs, by rw [upd_ne (ne_of_none e h)]⟩, fun b u e => by rw [upd_ne (ne_of_none e n.1)]; exact e, ⟨fun b u e => ?_, fun b u e => ?_⟩⟩
  · by_cases hb : b = a
    · subst hb; rw [upd_same] at e ⊢; exact e
    · rw [upd_ne hb] at e ⊢; exact v.gh b u e
  · obtain ⟨g, x, hx, k⟩ := v.st b u e
    have hb : b ≠ a := by intro z; subst z; rw [n.2] at e; cases e
    refine ⟨by rw [upd_ne hb]; exact g, x, by rw [upd_ne hb]; exact hx, k.mono fun c w e => by rw [upd_ne (ne_of_none e n.1)]; exact e⟩
/-- a new thing of the store -/
theorem View.stored (v : View K G S H) {a : Addr} {o : SO} {u : HO} (h : H a = Option.none) (k : SOk K G o u) : Aft K G S H (supd S a o) (upd H a u) G := by
  have n := v.none h
  refine ⟨fun b x hs e => ?_, Same.refl G, ⟨fun b x e => ?_, fun b x e => ?_⟩⟩
  · have hb := ne_of_none e h
    exact ⟨by rw [upd_ne hb]; exact e, by rw [supd_ne hb]; exact hs, rfl⟩
  · have hb : b ≠ a := by intro z; subst z; rw [n.1] at e; cases e
    rw [upd_ne hb]; exact v.gh b x e
  · by_cases hb : b = a
    · subst hb; rw [supd_same] at e; cases e; exact ⟨n.1, u, upd_same, k⟩
    · rw [supd_ne hb] at e
      obtain ⟨g, x, hx, k⟩ := v.st b _ e
      exact ⟨g, x, by rw [upd_ne hb]; exact hx, k⟩
/-- a thing of the store is changed -/
theorem View.wrote (v : View K G S H) {a : Addr} {o o' : SO} {u : HO} (h : S a = some o) (k : SOk K G o' u) : Aft K G S H (supd S a o') (upd H a u) G := by
  obtain ⟨g, _⟩ := v.st a o h
  refine ⟨fun b x hs e => ?_, Same.refl G, ⟨fun b x e => ?_, fun b x e => ?_⟩⟩
  · have hb : b ≠ a := by intro z; subst z; rw [h] at hs; cases hs
    exact ⟨by rw [upd_ne hb]; exact e, by rw [supd_ne hb]; exact hs, rfl⟩
  · have hb : b ≠ a := by intro z; subst z; rw [g] at e; cases e
    rw [upd_ne hb]; exact v.gh b x e
  · by_cases hb : b = a
    · subst hb; rw [supd_same] at e; cases e; exact ⟨g, u, upd_same, k⟩
    · rw [supd_ne hb] at e
      obtain ⟨g, x, hx, k⟩ := v.st b _ e
      exact ⟨g, x, by rw [upd_ne hb]; exact hx, k⟩
/-- nothing of the store, but a smaller part of it is told -/
theorem View.drops (v : View K G S H) (h : ∀ a o, S1 a = some o → S a = some o) : Aft K G S H S1 H G := by
  refine ⟨fun b x hs e => ⟨e, ?_, rfl⟩, Same.refl G, ⟨v.gh, fun b x e => v.st b x (h b x e)⟩⟩
  cases q : S1 b with
  | none => rfl
  | some o => rw [h b o q] at hs; cases hs
/-- a thing of the store is frozen -/
theorem View.freezes (v : View K G S H) {a : Addr} {o : SO} {u : HO} (h : S a = some o) (hu : H a = some u) (hn : S1 a = Option.none) (hs : ∀ b x, S1 b = some x → S b = some x) : Aft K G S H S1 H (upd G a u) := by
  obtain ⟨g, _⟩ := v.st a o h
  have gg : Same G (upd G a u) := fun c w e => by rw [upd_ne (ne_of_none e g)]; exact e
  refine ⟨fun b x hS e => ⟨e, ?_, by rw [upd_ne (show b ≠ a from fun z => by subst z; rw [h] at hS; cases hS)]⟩, gg, ⟨fun b x e => ?_, fun b x e => ?_⟩⟩
  · cases q : S1 b with
    | none => rfl
    | some o => rw [hs b o q] at hS; cases hS
  · by_cases hb : b = a
    · subst hb; rw [upd_same] at e; cases e; exact hu
    · rw [upd_ne hb] at e; exact v.gh b x e
  · have hb : b ≠ a := by intro z; subst z; rw [hn] at e; cases e
    obtain ⟨g, x, hx, k⟩ := v.st b _ (hs b _ e)
    exact ⟨by rw [upd_ne hb]; exact g, x, hx, k.mono gg⟩
end
abbrev Sl := List (Option D)
def REnv (K : PySem.W.Frag) (G : Hp) (σ : St) (ρ : Sl) : Prop := σ.length = ρ.length ∧ ∀ (i : Nat) (d : D), ρ[i]? = some (some d) → ∃ v, σ[i]? = some (some v) ∧ Rp K G v d
section
variable {K : PySem.W.Frag} {G G' : Hp} {σ : St} {ρ : Sl}
theorem REnv.mono (e : Same G G') (r : REnv K G σ ρ) : REnv K G' σ ρ := ⟨r.1, fun i d h => let ⟨v, h1, h2⟩ := r.2 i d h; ⟨v, h1, h2.mono e⟩⟩
theorem REnv.set {i : Nat} {v : V} {d : D} (r : REnv K G σ ρ) (h : Rp K G v d) : REnv K G (σ.set i (some v)) (ρ.set i (some d)) := by
  refine ⟨by rw [List.length_set, List.length_set]; exact r.1, fun j e hj => ?_⟩
  by_cases hi : i = j
  · subst hi
    rw [List.getElem?_set] at hj ⊢
    simp only [if_pos] at hj ⊢
    by_cases hl : i < ρ.length
    · rw [if_pos hl] at hj
      rw [if_pos (by rw [r.1]; exact hl)]
      cases hj
      exact ⟨v, rfl, h⟩
    · rw [if_neg hl] at hj; cases hj
  · rw [List.getElem?_set_ne hi] at hj ⊢
    exact r.2 j e hj
theorem REnv.unset {i : Nat} (r : REnv K G σ ρ) : REnv K G (σ.set i none) (ρ.set i none) := by
  refine ⟨by rw [List.length_set, List.length_set]; exact r.1, fun j e hj => ?_⟩
  by_cases hi : i = j
  · subst hi
    rw [List.getElem?_set] at hj
    simp only [if_pos] at hj
    split at hj <;> cases hj
  · rw [List.getElem?_set_ne hi] at hj ⊢
    exact r.2 j e hj
def wipeD (ρ : Sl) : List Nat → Sl
  | [] => ρ
  | v :: vs => (wipeD ρ vs).set v none
theorem REnv.wipe (r : REnv K G σ ρ) : ∀ vs : List Nat, REnv K G (L2.wipe σ vs) (wipeD ρ vs)
  | [] => r
  | v :: vs => (r.wipe vs).unset
def setAll (σ : List (Option α)) : List Nat → List α → List (Option α)
  | i :: is, d :: ds => setAll (σ.set i (some d)) is ds
  | _, _ => σ
theorem REnv.setAll : ∀ {is : List Nat} {vs : List V} {ds : List D} {σ : St} {ρ : Sl}, REnv K G σ ρ → RpL K G vs ds → REnv K G (VL.setAll σ is vs) (VL.setAll ρ is ds)
  | [], _, _, _, _, r, .nil => r
  | [], _, _, _, _, r, .cons _ _ => r
  | _ :: _, _, _, _, _, r, .nil => r
  | i :: is, _, _, _, _, r, .cons h t => (REnv.setAll (is := is) (r.set h) t)
/-- what stands in a slot -/
def gv : Sl → Nat → Option D
  | [], _ => none
  | x :: _, 0 => x
  | _ :: r, n + 1 => gv r n
theorem gv_eq : ∀ {ρ : Sl} {i : Nat} {d : D}, gv ρ i = some d → ρ[i]? = some (some d)
  | [], _, _, h => by simp [gv] at h
  | x :: r, 0, d, h => by simp only [gv] at h; simp [h]
  | x :: r, n + 1, d, h => by simp only [gv] at h; simpa using gv_eq h
end
abbrev VE := Sl → Store → (D → Store → Prop) → Prop
abbrev VT := Sl → Store → (Bool → Store → Prop) → Prop
abbrev VA := Sl → Store → (List D → Store → Prop) → Prop
structure VEnds where
  nx : Sl → Store → Prop
  rt : D → Store → Prop
  bk : Sl → Store → Prop := fun _ _ => False
  ct : Sl → Store → Prop := fun _ _ => False
abbrev VS := VEnds → Sl → Store → Prop
def LE (K : PySem.W.Frag) (m : VE) : TE := fun σ H Q' => ∃ ρ S G Q, View K G S H ∧ REnv K G σ ρ ∧ m ρ S Q ∧ ∀ d S' v H' G', Aft K G S H S' H' G' → Rp K G' v d → Q d S' → Q' v H'
def LT (K : PySem.W.Frag) (m : VT) : TT := fun σ H Q' => ∃ ρ S G Q, View K G S H ∧ REnv K G σ ρ ∧ m ρ S Q ∧ ∀ b S' H' G', Aft K G S H S' H' G' → Q b S' → Q' b H'
def LA (K : PySem.W.Frag) (m : VA) : TA := fun σ H Q' => ∃ ρ S G Q, View K G S H ∧ REnv K G σ ρ ∧ m ρ S Q ∧ ∀ ds S' vs H' G', Aft K G S H S' H' G' → RpL K G' vs ds → Q ds S' → Q' vs H'
structure EndsOk (K : PySem.W.Frag) (G : Hp) (S : Store) (H : Hp) (E : VEnds) (D' : Ends) : Prop where
  nx : ∀ ρ S' σ H' G', Aft K G S H S' H' G' → REnv K G' σ ρ → E.nx ρ S' → D'.nx σ H'
  rt : ∀ d S' v H' G', Aft K G S H S' H' G' → Rp K G' v d → E.rt d S' → D'.rt v H'
  bk : ∀ ρ S' σ H' G', Aft K G S H S' H' G' → REnv K G' σ ρ → E.bk ρ S' → D'.bk σ H'
  ct : ∀ ρ S' σ H' G', Aft K G S H S' H' G' → REnv K G' σ ρ → E.ct ρ S' → D'.ct σ H'
theorem EndsOk.after {K : PySem.W.Frag} {G : Hp} {S : Store} {H : Hp} {E : VEnds} {D' : Ends} {S1 : Store} {H1 G1 : Hp} (o : EndsOk K G S H E D') (a : Aft K G S H S1 H1 G1) : EndsOk K G1 S1 H1 E D' :=
  ⟨fun _ _ _ _ _ b => o.nx _ _ _ _ _ (a.trans b), fun _ _ _ _ _ b => o.rt _ _ _ _ _ (a.trans b), fun _ _ _ _ _ b => o.bk _ _ _ _ _ (a.trans b), fun _ _ _ _ _ b => o.ct _ _ _ _ _ (a.trans b)⟩
def LS (K : PySem.W.Frag) (m : VS) : TS := fun D' σ H => ∃ ρ S G E, View K G S H ∧ REnv K G σ ρ ∧ m E ρ S ∧ EndsOk K G S H E D'
section
variable {X : Cx}
theorem PE.imp {e : Expr} {t t' : TE} (h : PE X e t) (i : ∀ σ H Q, t' σ H Q → t σ H Q) : PE X e t' := ⟨fun pins s σ H Q I q => h.run pins s σ H Q I (i σ H Q q)⟩
theorem PT.imp {e : Expr} {t t' : TT} (h : PT X e t) (i : ∀ σ H Q, t' σ H Q → t σ H Q) : PT X e t' := ⟨fun pins s σ H Q I q => h.run pins s σ H Q I (i σ H Q q)⟩
theorem PW.imp {e : Expr} {t t' : TT} (h : PW X e t) (i : ∀ σ H Q, t' σ H Q → t σ H Q) : PW X e t' := ⟨fun w pins s σ H Q I q => h.run w pins s σ H Q I (i σ H Q q)⟩
theorem PA.imp {e : List Expr} {t t' : TA} (h : PA X e t) (i : ∀ σ H Q, t' σ H Q → t σ H Q) : PA X e t' := ⟨fun p pins s σ H Q I q => h.run p pins s σ H Q I (i σ H Q q)⟩
theorem PS.imp {e : Stmt} {t t' : TS} (h : PS X e t) (i : ∀ D σ H, t' D σ H → t D σ H) : PS X e t' := ⟨fun pins s σ H D I q => h.run pins s σ H D I (i D σ H q)⟩
theorem PSs.imp {e : List Stmt} {t t' : TS} (h : PSs X e t) (i : ∀ D σ H, t' D σ H → t D σ H) : PSs X e t' := ⟨fun pins s σ H D I q => h.run pins s σ H D I (i D σ H q)⟩
end
end VL
set_option maxHeartbeats 2000000
namespace VL
open PySem PySem.Spec L2
open PyProof.Rows hiding St
section
variable {X : Cx}
def mVar (i : Nat) : VE := fun ρ S Q => match gv ρ i with
  | some d => Q d S
  | none => False
theorem v_var (i : Nat) {x : Str} {pos : Pos} (hN : X.N[i]? = some x := by rfl) (hv : Vis X.env.scope x := by first | exact Or.inl rfl | exact Or.inr (Or.inl rfl) | exact Or.inr (Or.inr rfl)) (hd : (x == ("__debug__" : Str)) = false := by decide)
    (hcd : (x == ("__classdict__" : Str)) = false := by decide) : PE X (.Name x pos) (LE X.K (mVar i)) := by
  refine PE.imp (pe_var hN hv hd hcd) fun σ H Q' ⟨ρ, S, G, Q, vw, re, hm, k⟩ => ?_
  unfold mVar at hm
  cases e : gv ρ i with
  | none => rw [e] at hm; exact hm.elim
  | some d =>
    rw [e] at hm
    obtain ⟨v, hv, r⟩ := re.2 i d (gv_eq e)
    exact ⟨v, hv, k d S v H G (Aft.refl vw) r hm⟩
def mC (d : D) : VE := fun _ S Q => Q d S
theorem v_c {e : Expr} {v : V} {d : D} (h : PE X e (tC v)) (r : ∀ G, Rp X.K G v d) : PE X e (LE X.K (mC d)) :=
  PE.imp h fun σ H Q' ⟨ρ, S, G, Q, vw, re, hm, k⟩ => k d S v H G (Aft.refl vw) (r G) hm
theorem v_int {i j pos} : PE X (.Constant (.int i) j pos) (LE X.K (mC (.int i))) := v_c pe_int fun _ => .int i
theorem v_bl {b j pos} : PE X (.Constant (.bool b) j pos) (LE X.K (mC (.bl b))) := v_c pe_bl fun _ => .bl b
theorem v_str {x j pos} : PE X (.Constant (.str x) j pos) (LE X.K (mC (.str x))) := v_c pe_str fun _ => .str x
abbrev R2V := D → D → Store → (D → Store → Prop) → Prop
def LR2 (K : PySem.W.Frag) (r : R2) (m : R2V) : Prop := ∀ (x y : D) (v1 v2 : V) (G : Hp) (S : Store) (H : Hp) (Q : D → Store → Prop) (Q' : VK), View K G S H → Rp K G v1 x → Rp K G v2 y → m x y S Q →
  (∀ d S' v H' G', Aft K G S H S' H' G' → Rp K G' v d → Q d S' → Q' v H') → r v1 v2 H Q'
def OpV (X : Cx) (f : Value → Value → Sem Value) (m : R2V) : Prop := ∃ r, OpR X f r ∧ LR2 X.K r m
def mOp (m : R2V) (ma mb : VE) : VE := fun ρ S Q => ma ρ S fun x S1 => mb ρ S1 fun y S2 => m x y S2 Q
theorem le_op {K : PySem.W.Frag} {r : R2} {m : R2V} {ma mb : VE} (h : LR2 K r m) (σ : St) (H : Hp) (Q' : VK) (q : LE K (mOp m ma mb) σ H Q') : tOp r (LE K ma) (LE K mb) σ H Q' := by
  obtain ⟨ρ, S, G, Q, vw, re, hm, k⟩ := q
  refine ⟨ρ, S, G, _, vw, re, hm, fun x S1 v1 H1 G1 a1 r1 h1 => ?_⟩
  refine ⟨ρ, S1, G1, _, a1.vw, re.mono a1.gg, h1, fun y S2 v2 H2 G2 a2 r2 h2 => ?_⟩
  exact h x y v1 v2 G2 S2 H2 Q Q' a2.vw (r1.mono a2.gg) r2 h2 fun d S' v H' G' a3 r3 q => k d S' v H' G' (a1.trans (a2.trans a3)) r3 q
theorem v_op {op : Operator} {m : R2V} {a b : Expr} {ma mb : VE} {pos : Pos} (ho : OpV X (binaryOp op) m) (ha : PE X a (LE X.K ma)) (hb : PE X b (LE X.K mb)) : PE X (.BinOp a op b pos) (LE X.K (mOp m ma mb)) := by
  obtain ⟨r, h1, h2⟩ := ho
  exact PE.imp (pe_op h1 ha hb) fun σ H Q' q => le_op h2 σ H Q' q
theorem v_cmp {op : CmpOp} {m : R2V} {a b : Expr} {ma mb : VE} {pos : Pos} (ho : OpV X (compareOp op) m) (ha : PE X a (LE X.K ma)) (hb : PE X b (LE X.K mb)) (hm : behindInMarks op b = false := by first | exact nomark _ | rfl) : PE X (.Compare a [op] [b] pos) (LE X.K (mOp m ma mb)) := by
  obtain ⟨r, h1, h2⟩ := ho
  exact PE.imp (pe_cmpR h1 ha hb hm) fun σ H Q' q => le_op h2 σ H Q' q
theorem v_ix {m : R2V} {r : R2} {a b : Expr} {ma mb : VE} {pos : Pos} (h1 : IxR X r) (h2 : LR2 X.K r m) (ha : PE X a (LE X.K ma)) (hb : PE X b (LE X.K mb)) (hs : PlainIx b := by exact fun _ _ => rfl) : PE X (.Subscript a b pos) (LE X.K (mOp m ma mb)) :=
  PE.imp (pe_ix h1 ha hb hs) fun σ H Q' q => le_op h2 σ H Q' q
/-- two ints, under C -/
def mNum (C : Int → Int → Prop) (g : Int → Int → D) : R2V := fun x y S Q => match x, y with
  | .int i, .int j => C i j ∧ Q (g i j) S
  | _, _ => False
theorem LR2.num {K : PySem.W.Frag} {C : Int → Int → Prop} {g : Int → Int → V} {g' : Int → Int → D} (hg : ∀ i j G, Rp K G (g i j) (g' i j)) : LR2 K (rI C g) (mNum C g') := by
  intro x y v1 v2 G S H Q Q' vw r1 r2 h k
  cases r1 <;> try exact h.elim
  cases r2 <;> try exact h.elim
  rename_i i j
  exact ⟨i, j, rfl, rfl, h.1, k _ S _ H G (Aft.refl vw) (hg i j G) h.2⟩
theorem rI_of0 {f : Value → Value → Sem Value} {g : Int → Int → V} (h : OpR X f (rI0 g)) : OpR X f (rI (fun _ _ => True) g) := fun pins s σ H x y v u Q I r1 r2 ⟨i, j, e1, e2, _, q⟩ => h pins s σ H x y v u Q I r1 r2 ⟨i, j, e1, e2, q⟩
def mInt0 (g : Int → Int → D) : R2V := fun x y S Q => match x, y with
  | .int i, .int j => Q (g i j) S
  | _, _ => False
theorem LR2.int0 {K : PySem.W.Frag} {g : Int → Int → V} {g' : Int → Int → D} (hg : ∀ i j G, Rp K G (g i j) (g' i j)) : LR2 K (rI0 g) (mInt0 g') := by
  intro x y v1 v2 G S H Q Q' vw r1 r2 h k
  cases r1 <;> try exact h.elim
  cases r2 <;> try exact h.elim
  rename_i i j
  exact ⟨i, j, rfl, rfl, k _ S _ H G (Aft.refl vw) (hg i j G) h⟩
theorem ov_sub : OpV X (binaryOp .Sub) (mInt0 fun i j => .int (i - j)) := ⟨_, op_sub, .int0 fun _ _ _ => .int _⟩
theorem ov_fdiv : OpV X (binaryOp .FloorDiv) (mNum CDivW fun i j => .int (i / j)) := ⟨_, op_fdivW, .num fun _ _ _ => .int _⟩
theorem ov_mod : OpV X (binaryOp .Mod) (mNum (fun _ j => 0 < j) fun i j => .int (i % j)) := ⟨_, op_mod, .num fun _ _ _ => .int _⟩
theorem ov_pow : OpV X (binaryOp .Pow) (mNum CPow fun i j => .int (i ^ j.toNat)) := ⟨_, op_pow, .num fun _ _ _ => .int _⟩
theorem ov_lt : OpV X (compareOp .Lt) (mInt0 fun i j => .bl (decide (i < j))) := ⟨_, op_lt, .int0 fun _ _ _ => .bl _⟩
theorem ov_le : OpV X (compareOp .LtE) (mInt0 fun i j => .bl (decide (i ≤ j))) := ⟨_, op_le, .int0 fun _ _ _ => .bl _⟩
theorem ov_gt : OpV X (compareOp .Gt) (mInt0 fun i j => .bl (decide (j < i))) := ⟨_, op_gt, .int0 fun _ _ _ => .bl _⟩
theorem ov_ge : OpV X (compareOp .GtE) (mInt0 fun i j => .bl (decide (j ≤ i))) := ⟨_, op_ge, .int0 fun _ _ _ => .bl _⟩
/-- a list, frozen or of the store -/
def rdL (d : D) (S : Store) : Option (List D) := match d with
  | .lst ds => some ds
  | .ref a => match S a with
    | some (.lst ds) => some ds
    | _ => none
  | _ => none
theorem rdL_ok {K : PySem.W.Frag} {G H : Hp} {S : Store} {d : D} {v : V} {ds : List D} (vw : View K G S H) (r : Rp K G v d) (h : rdL d S = some ds) : ∃ a xs, v = .ref a ∧ H a = some (.lst xs) ∧ RpL K G xs ds := by
  cases r with
  | lst e r => simp only [rdL, Option.some.injEq] at h; subst h; exact ⟨_, _, rfl, vw.gh _ _ e, r⟩
  | ref a =>
    simp only [rdL] at h
    split at h
    · rename_i ds' e
      cases h
      obtain ⟨_, u, hu, k⟩ := vw.st a _ e
      cases k with
      | lst r => exact ⟨a, _, rfl, hu, r⟩
    · cases h
  | _ => simp [rdL] at h
/-- a list or a read-only one -/
def rdR (d : D) (S : Store) : Option (List D) := match d with
  | .ro ds => some ds
  | d => rdL d S
theorem rdR_ok {K : PySem.W.Frag} {G H : Hp} {S : Store} {d : D} {v : V} {ds : List D} (vw : View K G S H) (r : Rp K G v d) (h : rdR d S = some ds) : ∃ a xs, v = .ref a ∧ SqL K H a xs ∧ RpL K G xs ds := by
  have main : ∀ {d : D}, Rp K G v d → rdL d S = some ds → ∃ a xs, v = .ref a ∧ SqL K H a xs ∧ RpL K G xs ds := fun r h => by
    obtain ⟨a, xs, e, q, l⟩ := rdL_ok vw r h
    exact ⟨a, xs, e, SqL.of q, l⟩
  cases r with
  | ro e r => simp only [rdR, Option.some.injEq] at h; subst h; exact ⟨_, _, rfl, vw.gh.seq e, r⟩
  | non => exact main .non h
  | bl b => exact main (.bl b) h
  | int i => exact main (.int i) h
  | str x => exact main (.str x) h
  | ref a => exact main (.ref a) h
  | tup e r => exact main (.tup e r) h
  | lst e r => exact main (.lst e r) h
  | dct e r => exact main (.dct e r) h
/-- a + b: ints, texts, tuples, lists (a new frozen list) -/
def mAdd : R2V := fun x y S Q => match x, y with
  | .int i, .int j => Q (.int (i + j)) S
  | .str i, .str j => i.length + j.length ≤ sizeLine ∧ Q (.str (i ++ j)) S
  | .tup a, .tup b => a.length + b.length ≤ sizeLine ∧ Q (.tup (a ++ b)) S
  | x, y => match rdL x S, rdL y S with
    | some a, some b => a.length + b.length ≤ sizeLine ∧ Q (.lst (a ++ b)) S
    | _, _ => False
end
end VL
set_option maxHeartbeats 2000000
namespace VL
open PySem PySem.Spec L2
open PyProof.Rows hiding St
section
variable {X : Cx}
theorem ov_add : OpV X (binaryOp .Add) mAdd := by
  refine ⟨_, (rI_of0 op_add).or (op_add_str.or (op_catA.or op_cat)), ?_⟩
  intro x y v1 v2 G S H Q Q' vw r1 r2 h k
  unfold mAdd at h
  split at h
  · cases r1; cases r2
    exact .inl ⟨_, _, rfl, rfl, trivial, k _ S _ H G (Aft.refl vw) (.int _) h⟩
  · cases r1; cases r2
    exact .inr (.inl ⟨_, _, rfl, rfl, h.1, k _ S _ H G (Aft.refl vw) (.str _) h.2⟩)
  · cases r1 with
    | @tup a xs _ e1 l1 =>
    cases r2 with
    | @tup b ys _ e2 l2 =>
    obtain ⟨hz, q⟩ := h
    refine .inr (.inr (.inl ⟨a, b, xs, ys, rfl, rfl, same_t vw.gh e1, same_t vw.gh e2, by rw [l1.length, l2.length]; exact hz, fun z => ?_, fun n z => ?_, fun _ _ p hp => ?_⟩))
    · subst z; cases l1; exact k _ S _ H G (Aft.refl vw) (.tup e2 l2) q
    · subst z; cases l2; exact k _ S _ H G (Aft.refl vw) (.tup e1 (by simpa using l1)) q
    · have a3 := vw.froze (o := .tup (xs ++ ys)) hp
      exact k _ S _ _ _ a3 (.tup (SqT.of upd_same) ((l1.append l2).mono a3.gg)) q
  · split at h
    · rename_i a b e1 e2
      obtain ⟨p, xs, rfl, h1, l1⟩ := rdL_ok vw r1 e1
      obtain ⟨q, ys, rfl, h2, l2⟩ := rdL_ok vw r2 e2
      refine .inr (.inr (.inr ⟨p, q, xs, ys, rfl, rfl, h1, h2, by rw [l1.length, l2.length]; exact h.1, fun t ht => ?_⟩))
      have a3 := vw.froze (o := .lst (xs ++ ys)) ht
      exact k _ S _ _ _ a3 (.lst upd_same ((l1.append l2).mono a3.gg)) h.2
    · exact h.elim
/-- a * b: ints, a list and an int (a new frozen list) -/
def mMul : R2V := fun x y S Q => match x, y with
  | .int i, .int j => CMul i j ∧ Q (.int (i * j)) S
  | x, .int k => match rdL x S with
    | some ds => -(2 ^ 63) ≤ k ∧ k < 2 ^ 63 ∧ ds.length * k.toNat ≤ sizeLine ∧ Q (.lst (List.replicate k.toNat ds).flatten) S
    | none => False
  | _, _ => False
theorem RpL.flat {K : PySem.W.Frag} {G : Hp} {xs : List V} {ds : List D} (r : RpL K G xs ds) : ∀ n : Nat, RpL K G (List.replicate n xs).flatten (List.replicate n ds).flatten
  | 0 => .nil
  | n + 1 => by rw [List.replicate_succ, List.replicate_succ, List.flatten_cons, List.flatten_cons]; exact r.append (r.flat n)
theorem ov_mulL : OpV X (binaryOp .Mult) mMul := by
  refine ⟨_, op_mul.or op_rep, ?_⟩
  intro x y v1 v2 G S H Q Q' vw r1 r2 h k
  unfold mMul at h
  split at h
  · cases r1; cases r2
    exact .inl ⟨_, _, rfl, rfl, h.1, k _ S _ H G (Aft.refl vw) (.int _) h.2⟩
  · split at h
    · rename_i j _ _ ds e1
      obtain ⟨p, xs, rfl, h1, l1⟩ := rdL_ok vw r1 e1
      cases r2
      refine .inr ⟨p, _, xs, rfl, rfl, h1, h.1, h.2.1, by rw [l1.length]; exact h.2.2.1, fun t ht => ?_⟩
      have a3 := vw.froze (o := .lst (List.replicate j.toNat xs).flatten) ht
      exact k _ S _ _ _ a3 (.lst upd_same ((l1.flat _).mono a3.gg)) h.2.2.2
    · exact h.elim
  · exact h.elim
mutual
def py : D → PyData
  | .non => .none | .bl b => .bool b | .int i => .int i | .str s => .str s
  | .tup ds => .tuple (pyL ds) | .lst ds => .list (pyL ds) | .ro ds => .list (pyL ds) | .dct _ => .dict [] | .ref _ => .dict []
def pyL : List D → List PyData
  | [] => []
  | d :: ds => py d :: pyL ds
end
theorem pyL_map : ∀ ds : List D, pyL ds = ds.map py
  | [] => rfl
  | d :: ds => by rw [pyL, List.map_cons, pyL_map ds]
mutual
theorem dp_of {K : PySem.W.Frag} {G H : Hp} (g : Same G H) : ∀ (d : D) {v : V}, (py d).canLay0 = true → Rp K G v d → Dp K H v (py d)
  | .non, _, _, .non => .non
  | .bl _, _, _, .bl _ => .bl _
  | .int _, _, _, .int _ => .int _
  | .str _, _, _, .str _ => .str _
  | .tup ds, _, c, .tup h r => .tup (same_t g h) (dpAll_of g ds (by simpa [py, PyData.canLay0] using c) r)
  | .lst ds, _, c, .lst h r => .lst (SqL.of (g _ _ h)) (dpAll_of g ds (by simpa [py, PyData.canLay0] using c) r)
  | .ro ds, _, c, .ro h r => .lst (g.seq h) (dpAll_of g ds (by simpa [py, PyData.canLay0] using c) r)
  | .dct _, _, c, _ => by simp [py, PyData.canLay0] at c
  | .ref _, _, c, _ => by simp [py, PyData.canLay0] at c
theorem dpAll_of {K : PySem.W.Frag} {G H : Hp} (g : Same G H) : ∀ (ds : List D) {vs : List V}, PyData.canLayAll0 (pyL ds) = true → RpL K G vs ds → DpAll K H vs (pyL ds)
  | [], _, _, .nil => .nil
  | d :: ds, _, c, .cons h t => by
    have c' : (py d).canLay0 = true ∧ PyData.canLayAll0 (pyL ds) = true := by simpa [pyL, PyData.canLayAll0] using c
    exact .cons (dp_of g d c'.1 h) (dpAll_of g ds c'.2 t)
end
/-- what stands at an address of the store, where it is a list -/
def rsv (S : Store) (d : D) : D := match d with
  | .ref a => match S a with
    | some (.lst ds) => .lst ds
    | _ => d
  | d => d
theorem dp_rsv {K : PySem.W.Frag} {G H : Hp} {S : Store} {d : D} {v : V} (vw : View K G S H) (c : (py (rsv S d)).canLay0 = true) (r : Rp K G v d) : Dp K H v (py (rsv S d)) := by
  cases d with
  | ref a =>
    cases r
    cases e : S a with
    | none => simp [rsv, e, py, PyData.canLay0] at c
    | some o =>
      obtain ⟨_, u, hu, k⟩ := vw.st a _ e
      cases k with
      | lst r =>
        simp only [rsv, e] at c ⊢
        exact .lst (SqL.of hu) (dpAll_of vw.gh _ (by simpa [py, PyData.canLay0] using c) r)
      | dct r => simp [rsv, e, py, PyData.canLay0] at c
      | _ => simp [rsv, e, py, PyData.canLay0] at c
  | non => exact dp_of vw.gh _ c r
  | bl b => exact dp_of vw.gh _ c r
  | int b => exact dp_of vw.gh _ c r
  | str b => exact dp_of vw.gh _ c r
  | tup b => exact dp_of vw.gh _ c r
  | lst b => exact dp_of vw.gh _ c r
  | ro b => exact dp_of vw.gh _ c r
  | dct b => exact dp_of vw.gh _ c r
def okq (S : Store) (d : D) : Prop := SeqAt.shaped (py (rsv S d)) = true
def eqq (S : Store) (x y : D) : Bool := PyData.eqv (py (rsv S x)) (py (rsv S y))
def mEq : R2V := fun x y S Q => match x, y with
  | .str a, .str b => Q (.bl (decide (a = b))) S
  | x, y => okq S x ∧ okq S y ∧ Q (.bl (eqq S x y)) S
def mNe : R2V := fun x y S Q => match x, y with
  | .str a, .str b => Q (.bl (!decide (a = b))) S
  | x, y => okq S x ∧ okq S y ∧ Q (.bl (!eqq S x y)) S
theorem decS {a b : Str} : decide (V.str a = V.str b) = decide (a = b) := by
  by_cases h : a = b
  · subst h; simp
  · simp [h]
theorem ov_eq (hu : X.A.units + 64 < cLine) : OpV X (compareOp .Eq) mEq := by
  refine ⟨_, (op_eqD hu).or op_eq, ?_⟩
  intro x y v1 v2 G S H Q Q' vw r1 r2 h k
  unfold mEq at h
  split at h
  · cases r1; cases r2
    exact .inr ⟨rfl, k _ S _ H G (Aft.refl vw) (.bl _) (by rw [decS]; exact h)⟩
  · exact .inl ⟨_, _, dp_rsv vw (SeqAt.canLay_of_shaped h.1) r1, dp_rsv vw (SeqAt.canLay_of_shaped h.2.1) r2, h.1, h.2.1, k _ S _ H G (Aft.refl vw) (.bl _) h.2.2⟩
theorem ov_ne (hu : X.A.units + 64 < cLine) : OpV X (compareOp .NotEq) mNe := by
  refine ⟨_, (op_neD hu).or op_ne, ?_⟩
  intro x y v1 v2 G S H Q Q' vw r1 r2 h k
  unfold mNe at h
  split at h
  · cases r1; cases r2
    exact .inr ⟨rfl, k _ S _ H G (Aft.refl vw) (.bl _) (by rw [decS]; exact h)⟩
  · exact .inl ⟨_, _, dp_rsv vw (SeqAt.canLay_of_shaped h.1) r1, dp_rsv vw (SeqAt.canLay_of_shaped h.2.1) r2, h.1, h.2.1, k _ S _ H G (Aft.refl vw) (.bl _) h.2.2⟩
theorem dict_eq_declines_str (d : Addr) (od : Obj) (b : Str) (u : Tok) (hc : od.cls = .type "dict") :
    Meets (Builtin.«dict.__eq__» ⟨[.ref d, .str b u], []⟩) (fun _ R s => s.heap.get? d = some od ∧ R (.ok (.ret .notImplemented)) s) :=
  .of_wp fun prog w A R s h => by
    obtain ⟨hp, g, dr, tk, os⟩ := s; obtain ⟨hl, h⟩ := h
    have f1 := PySem.F.sub_str_dict
    wp_walk using wpAny_load hl
    exact ⟨_, rfl, h⟩
theorem str_eq_declines_dict (d : Addr) (od : Obj) (b : Str) (u : Tok) (hc : od.cls = .type "dict") (hd : ∃ es ep, od.data = .dict es ep) :
    Meets (Builtin.«str.__eq__» ⟨[.str b u, .ref d], []⟩) (fun _ R s => s.heap.get? d = some od ∧ R (.ok (.ret .notImplemented)) s) :=
  .of_wp fun prog w A R s h => by
    obtain ⟨cls, dd, data, sl⟩ := od
    obtain ⟨es, ep, hd⟩ := hd
    simp only at hc hd
    subst hc hd
    obtain ⟨hp, g, dr, tk, os⟩ := s; obtain ⟨hl, h⟩ := h
    wp_walk using wpAny_load hl
    exact ⟨_, rfl, h⟩
theorem rc_dict_str {A : Around} {s : Shared} {d : Addr} {od : Obj} (b : Str) (u : Tok) (hd : s.heap.get? d = some od) (hc : od.cls = .type "dict") (he : ∃ es ep, od.data = .dict es ep) (hu : A.units < cLine) : SeqAt.RcAt A s (.ref d) (.str b u) false := fun prog w E Q h =>
  SeqAt.rc_eq_decline_or (k := false) ⟨_, hd, hc⟩ (typeIs_str s b u) (by decide) PySem.F.sub_str_dict PySem.F.slot_dict_eq PySem.F.slot_str_eq_refl
    (fun _ hq => call_meets PySem.F.slot_dict_eq ⟨_, hd, hc⟩ PySem.F.entry_dict_eq (PySem.F.args_dict_eq_2 _ _) (dict_eq_declines_str d od b u hc) ⟨hd, hq⟩)
    (fun _ hq => call_meets PySem.F.slot_str_eq_refl (typeIs_str s b u) PySem.F.entry_str_eq (PySem.F.args_str_eq_2 _ _) (str_eq_declines_dict d od b u hc he) ⟨hd, hq⟩)
    (fun _ hq => wpAny_of_eq (rfl : isSame (.ref d) (.str b u) = pure false) hq) (.inr hu) h
/-- what is no instance -/
def PlainV (K : PySem.W.Frag) (H : Hp) (x : V) : Prop := match x with
  | .non => True | .bl _ => True | .int _ => True | .str _ => True
  | .ref a => (∃ xs, SqL K H a xs) ∨ (∃ xs, SqT K H a xs) ∨ ∃ kvs, Rd H a (.dK kvs)
  | _ => False
theorem op_eqS (hu : X.A.units < cLine) : OpR X (compareOp .Eq) (fun x y H Q => ∃ z, y = .str z ∧ PlainV X.K H x ∧ Q (.bl (decide (x = .str z))) H) := by
  intro pins s σ H x y v u Q I rx ry h
  obtain ⟨z, rfl, pl, q⟩ := h
  obtain ⟨t, rfl⟩ := ry
  cases x with
  | non => exact op_eq pins s σ H .non (.str z) v _ Q I rx ⟨t, rfl⟩ ⟨rfl, q⟩
  | bl b => exact op_eq pins s σ H (.bl b) (.str z) v _ Q I rx ⟨t, rfl⟩ ⟨rfl, q⟩
  | int b => exact op_eq pins s σ H (.int b) (.str z) v _ Q I rx ⟨t, rfl⟩ ⟨rfl, q⟩
  | str b => exact op_eq pins s σ H (.str b) (.str z) v _ Q I rx ⟨t, rfl⟩ ⟨rfl, q⟩
  | byt b => exact pl.elim
  | flt b => exact pl.elim
  | ty b => exact pl.elim
  | ref a =>
    cases rx
    have q' : Q (.bl false) H := q
    rcases pl with ⟨xs, h⟩ | ⟨xs, h⟩ | ⟨kvs, h⟩
    · obtain ⟨its, r, ⟨o, n, e, c, d, dt⟩, _⟩ := I.list h
      exact SeqAt.RcAt.list_str z t ⟨o, e, c, n, dt⟩ hu _ _ _ _ ⟨.bl false, H, I, rfl, q'⟩
    · obtain ⟨its, r, ht, _⟩ := I.tuple h
      exact SeqAt.RcAt.tuple_str z t ht hu _ _ _ _ ⟨.bl false, H, I, rfl, q'⟩
    · obtain ⟨_, _, vs, _, o, es, ep, e, ex, dt, _⟩ := h.ok I.hok
      exact rc_dict_str z t e ex.1 ⟨es, ep, dt⟩ hu _ _ _ _ ⟨.bl false, H, I, rfl, q'⟩
/-- data without instances -/
def isS (d : D) (z : Str) : Bool := match d with
  | .str w => decide (w = z)
  | _ => false
def noRef (S : Store) (d : D) : Prop := match d with
  | .ref a => ∃ ds, S a = some (.lst ds)
  | _ => True
def mEqS : R2V := fun x y S Q => match y with
  | .str z => noRef S x ∧ Q (.bl (isS x z)) S
  | _ => False
theorem plain_of {K : PySem.W.Frag} {G H : Hp} {S : Store} {d : D} {v : V} (vw : View K G S H) (n : noRef S d) (r : Rp K G v d) : PlainV K H v := by
  cases r with
  | non => trivial
  | bl => trivial
  | int => trivial
  | str => trivial
  | ref a =>
    obtain ⟨ds, e⟩ := n
    obtain ⟨_, u, hu, k⟩ := vw.st a _ e
    cases k with
    | lst r => exact .inl ⟨_, SqL.of hu⟩
  | tup h r => exact .inr (.inl ⟨_, same_t vw.gh h⟩)
  | lst h r => exact .inl ⟨_, SqL.of (vw.gh _ _ h)⟩
  | ro h r => exact .inl ⟨_, vw.gh.seq h⟩
  | dct h r => exact .inr (.inr ⟨_, .inr ⟨_, vw.gh _ _ h⟩⟩)
theorem isS_of {K : PySem.W.Frag} {G : Hp} {d : D} {v : V} (r : Rp K G v d) (z : Str) : decide (v = .str z) = isS d z := by
  cases r <;> first | rfl | (simp [isS])
theorem ov_eqS (hu : X.A.units < cLine) : OpV X (compareOp .Eq) mEqS := by
  refine ⟨_, op_eqS hu, ?_⟩
  intro x y v1 v2 G S H Q Q' vw r1 r2 h k
  cases r2 <;> try exact h.elim
  exact ⟨_, rfl, plain_of vw h.1 r1, k _ S _ H G (Aft.refl vw) (by rw [isS_of r1]; exact .bl _) h.2⟩
/-- the items of what stands in a row -/
def rdS (d : D) (S : Store) : Option (List D) := match d with
  | .tup ds => some ds
  | d => rdR d S
theorem rdS_ok {K : PySem.W.Frag} {G H : Hp} {S : Store} {d : D} {v : V} {ds : List D} (vw : View K G S H) (r : Rp K G v d) (h : rdS d S = some ds) : ∃ a xs, v = .ref a ∧ (SqL K H a xs ∨ SqT K H a xs) ∧ RpL K G xs ds := by
  have main : rdR d S = some ds → ∃ a xs, v = .ref a ∧ (SqL K H a xs ∨ SqT K H a xs) ∧ RpL K G xs ds := fun h => by
    obtain ⟨a, xs, e, q, l⟩ := rdR_ok vw r h
    exact ⟨a, xs, e, .inl q, l⟩
  cases d with
  | tup es =>
    simp only [rdS, Option.some.injEq] at h
    subst h
    cases r with
    | tup ht l => exact ⟨_, _, rfl, .inr (same_t vw.gh ht), l⟩
  | non => exact main h
  | bl => exact main h
  | int => exact main h
  | str => exact main h
  | lst => exact main h
  | ro => exact main h
  | dct => exact main h
  | ref => exact main h
def mIx : R2V := fun x y S Q => match x, y with
  | .str z, .int i => z.length ≤ sizeLine ∧ (match atI z.cps.toList i with
    | some c => Q (.str ⟨#[c]⟩) S
    | none => False)
  | x, .int i => match rdS x S with
    | some ds => (match atI ds i with
      | some d => Q d S
      | none => False)
    | none => False
  | _, _ => False
theorem RpL.atI {K : PySem.W.Frag} {G : Hp} {xs : List V} {ds : List D} {i : Int} {d : D} (r : RpL K G xs ds) (h : L2.atI ds i = some d) : ∃ v, L2.atI xs i = some v ∧ Rp K G v d := by
  unfold L2.atI at h ⊢
  rw [r.length]
  cases e : ixN ds.length i with
  | none => rw [e] at h; cases h
  | some j =>
    rw [e] at h
    exact r.get h
theorem lr_ix : LR2 X.K (rIx X.K) mIx := by
  intro x y v1 v2 G S H Q Q' vw r1 r2 h k
  unfold mIx at h
  split at h
  · cases r1; cases r2
    obtain ⟨hz, h⟩ := h
    split at h
    · rename_i c e
      exact .inr (.inr ⟨_, _, c, rfl, rfl, hz, e, k _ S _ H G (Aft.refl vw) (.str _) h⟩)
    · exact h.elim
  · cases r2
    split at h
    · rename_i ds e
      split at h
      · rename_i d e2
        obtain ⟨a, xs, ev, q, l⟩ := rdS_ok vw r1 e
        obtain ⟨v, hv, rv⟩ := l.atI e2
        rcases q with q | q
        · exact .inl ⟨_, _, _, v, ev, rfl, q, hv, k d S v H G (Aft.refl vw) rv h⟩
        · exact .inr (.inl ⟨_, _, _, v, ev, rfl, q, hv, k d S v H G (Aft.refl vw) rv h⟩)
      · exact h.elim
    · exact h.elim
  · exact h.elim
theorem v_sub {a b : Expr} {ma mb : VE} {pos : Pos} (ha : PE X a (LE X.K ma)) (hb : PE X b (LE X.K mb)) (hs : PlainIx b := by exact fun _ _ => rfl) : PE X (.Subscript a b pos) (LE X.K (mOp mIx ma mb)) := v_ix ix_seq lr_ix ha hb hs
def mNil : VA := fun _ S Q => Q [] S
def mCons (m : VE) (ms : VA) : VA := fun ρ S Q => m ρ S fun d S1 => ms ρ S1 fun ds S2 => Q (d :: ds) S2
theorem a_nil : PA X [] (LA X.K mNil) := PA.imp pa_nil fun σ H Q' ⟨ρ, S, G, Q, vw, re, hm, k⟩ => k [] S [] H G (Aft.refl vw) .nil hm
theorem a_cons {e : Expr} {es : List Expr} {m : VE} {ms : VA} (ha : PE X e (LE X.K m)) (hr : PA X es (LA X.K ms)) (hs : starEach (e :: es) X.env = (false, eval e X.env) :: starEach es X.env := by rfl) : PA X (e :: es) (LA X.K (mCons m ms)) := by
  refine PA.imp (pa_cons ha hr hs) fun σ H Q' ⟨ρ, S, G, Q, vw, re, hm, k⟩ => ?_
  refine ⟨ρ, S, G, _, vw, re, hm, fun d S1 v1 H1 G1 a1 r1 h1 => ?_⟩
  refine ⟨ρ, S1, G1, _, a1.vw, re.mono a1.gg, h1, fun ds S2 vs H2 G2 a2 r2 h2 => ?_⟩
  exact k _ S2 _ H2 G2 (a1.trans a2) (.cons (r1.mono a2.gg) r2) h2
/-- (a, b); [a, b] frozen; [a, b] of the store -/
def mTup (ms : VA) : VE := fun ρ S Q => ms ρ S fun ds S1 => ds.length ≤ sizeLine ∧ Q (.tup ds) S1
def mLst (ms : VA) : VE := fun ρ S Q => ms ρ S fun ds S1 => ds.length ≤ sizeLine ∧ Q (.lst ds) S1
def mLstM (ms : VA) : VE := fun ρ S Q => ms ρ S fun ds S1 => ds.length ≤ sizeLine ∧ ∀ a, S1 a = none → Q (.ref a) (supd S1 a (.lst ds))
theorem v_tup {es : List Expr} {ms : VA} {x1 : Nat} {pos : Pos} (h : PA X es (LA X.K ms)) : PE X (.Tuple es x1 pos) (LE X.K (mTup ms)) := by
  refine PE.imp (pe_tup h) fun σ H Q' ⟨ρ, S, G, Q, vw, re, hm, k⟩ => ?_
  refine ⟨ρ, S, G, _, vw, re, hm, fun ds S1 vs H1 G1 a1 r1 h1 => ⟨by rw [r1.length]; exact h1.1, fun p hp => ?_⟩⟩
  have a2 := a1.vw.froze (o := .tup vs) hp
  exact k _ S1 _ _ _ (a1.trans a2) (.tup (SqT.of upd_same) (r1.mono a2.gg)) h1.2
theorem v_lst {es : List Expr} {ms : VA} {pos : Pos} (h : PA X es (LA X.K ms)) : PE X (.List es pos) (LE X.K (mLst ms)) := by
  refine PE.imp (pe_lst h) fun σ H Q' ⟨ρ, S, G, Q, vw, re, hm, k⟩ => ?_
  refine ⟨ρ, S, G, _, vw, re, hm, fun ds S1 vs H1 G1 a1 r1 h1 => ⟨by rw [r1.length]; exact h1.1, fun p hp => ?_⟩⟩
  have a2 := a1.vw.froze (o := .lst vs) hp
  exact k _ S1 _ _ _ (a1.trans a2) (.lst upd_same (r1.mono a2.gg)) h1.2
theorem v_lstM {es : List Expr} {ms : VA} {pos : Pos} (h : PA X es (LA X.K ms)) : PE X (.List es pos) (LE X.K (mLstM ms)) := by
  refine PE.imp (pe_lst h) fun σ H Q' ⟨ρ, S, G, Q, vw, re, hm, k⟩ => ?_
  refine ⟨ρ, S, G, _, vw, re, hm, fun ds S1 vs H1 G1 a1 r1 h1 => ⟨by rw [r1.length]; exact h1.1, fun p hp => ?_⟩⟩
  have a2 := a1.vw.stored (o := .lst ds) (u := .lst vs) hp (.lst r1)
  exact k _ _ _ _ _ (a1.trans a2) (.ref p) (h1.2 p (a1.vw.none hp).2)
def mTest (m : VE) : VT := fun ρ S Q => m ρ S fun d S1 => match d with
  | .bl b => Q b S1
  | _ => False
theorem lt_B {K : PySem.W.Frag} {m : VE} {σ : L2.St} {H : Hp} {Q' : Bool → Hp → Prop} (q : LT K (mTest m) σ H Q') : LE K m σ H fun x H1 => ∃ c, x = .bl c ∧ Q' c H1 := by
  obtain ⟨ρ, S, G, Q, vw, re, hm, k⟩ := q
  refine ⟨ρ, S, G, _, vw, re, hm, fun d S1 v1 H1 G1 a1 r1 h1 => ?_⟩
  cases r1 <;> try exact h1.elim
  exact ⟨_, rfl, k _ S1 H1 G1 a1 h1⟩
/-- a value that is a truth, as a test -/
theorem t_val {e : Expr} {m : VE} (h : PE X e (LE X.K m)) (he : ∀ whole, isTrue e X.env whole = (do let v ← whole; standAt e.pos; holding [v] (truthy v)) := by intro _; rfl) : PT X e (LT X.K (mTest m)) :=
  PT.imp (pt_val h he) fun σ H Q' q => lt_B q
theorem t_cmp {op : CmpOp} {m : R2V} {a b : Expr} {ma mb : VE} {pos : Pos} (ho : OpV X (compareOp op) m) (ha : PE X a (LE X.K ma)) (hb : PE X b (LE X.K mb)) (hm : behindInMarks op b = false := by first | exact nomark _ | rfl) : PT X (.Compare a [op] [b] pos) (LT X.K (mTest (mOp m ma mb))) := by
  obtain ⟨r, h1, h2⟩ := ho
  refine PT.imp (pt_cmpR h1 ha hb hm) fun σ H Q' q => ?_
  exact le_op h2 σ H _ (lt_B q)
def mNot (m : VT) : VT := fun ρ S Q => m ρ S fun b S1 => Q (!b) S1
def mAnd (m n : VT) : VT := fun ρ S Q => m ρ S fun b S1 => if b = true then n ρ S1 Q else Q false S1
def mOr (m n : VT) : VT := fun ρ S Q => m ρ S fun b S1 => if b = true then Q true S1 else n ρ S1 Q
theorem t_not {a : Expr} {m : VT} {pos : Pos} (h : PT X a (LT X.K m)) : PT X (.UnaryOp .Not a pos) (LT X.K (mNot m)) :=
  PT.imp (pt_not h) fun σ H Q' ⟨ρ, S, G, Q, vw, re, hm, k⟩ => ⟨ρ, S, G, _, vw, re, hm, fun b S1 H1 G1 a1 h1 => k _ S1 H1 G1 a1 h1⟩
theorem w_and1 {a : Expr} {m : VT} {pos : Pos} (h : PT X a (LT X.K m)) : PW X (.BoolOp .And [a] pos) (LT X.K m) := pw_and1 h
theorem w_or1 {a : Expr} {m : VT} {pos : Pos} (h : PT X a (LT X.K m)) : PW X (.BoolOp .Or [a] pos) (LT X.K m) := pw_or1 h
theorem w_and {a b : Expr} {rest : List Expr} {m n : VT} {pos : Pos} (h : PT X a (LT X.K m)) (hb : PW X (.BoolOp .And (b :: rest) pos) (LT X.K n)) : PW X (.BoolOp .And (a :: b :: rest) pos) (LT X.K (mAnd m n)) := by
  refine PW.imp (pw_and h hb) fun σ H Q' ⟨ρ, S, G, Q, vw, re, hm, k⟩ => ⟨ρ, S, G, _, vw, re, hm, fun c S1 H1 G1 a1 h1 => ?_⟩
  cases c with
  | true => exact ⟨ρ, S1, G1, Q, a1.vw, re.mono a1.gg, h1, fun b S2 H2 G2 a2 h2 => k b S2 H2 G2 (a1.trans a2) h2⟩
  | false => exact k _ S1 H1 G1 a1 h1
theorem w_or {a b : Expr} {rest : List Expr} {m n : VT} {pos : Pos} (h : PT X a (LT X.K m)) (hb : PW X (.BoolOp .Or (b :: rest) pos) (LT X.K n)) : PW X (.BoolOp .Or (a :: b :: rest) pos) (LT X.K (mOr m n)) := by
  refine PW.imp (pw_or h hb) fun σ H Q' ⟨ρ, S, G, Q, vw, re, hm, k⟩ => ⟨ρ, S, G, _, vw, re, hm, fun c S1 H1 G1 a1 h1 => ?_⟩
  cases c with
  | false => exact ⟨ρ, S1, G1, Q, a1.vw, re.mono a1.gg, h1, fun b S2 H2 G2 a2 h2 => k b S2 H2 G2 (a1.trans a2) h2⟩
  | true => exact k _ S1 H1 G1 a1 h1
/-- as values, of truths -/
def mAndV (m n : VE) : VE := fun ρ S Q => m ρ S fun d S1 => match d with
  | .bl b => if b = true then n ρ S1 Q else Q (.bl false) S1
  | _ => False
def mOrV (m n : VE) : VE := fun ρ S Q => m ρ S fun d S1 => match d with
  | .bl b => if b = true then Q (.bl true) S1 else n ρ S1 Q
  | _ => False
def mNotV (m : VE) : VE := fun ρ S Q => m ρ S fun d S1 => match d with
  | .bl b => Q (.bl (!b)) S1
  | _ => False
theorem v_one {op : BoolOp} {a : Expr} {m : VE} {pos : Pos} (h : PE X a (LE X.K m)) : PE X (.BoolOp op [a] pos) (LE X.K m) := pe_one h
theorem v_and {a b : Expr} {rest : List Expr} {m n : VE} {pos : Pos} (h : PE X a (LE X.K m)) (hb : PE X (.BoolOp .And (b :: rest) pos) (LE X.K n)) : PE X (.BoolOp .And (a :: b :: rest) pos) (LE X.K (mAndV m n)) := by
  refine PE.imp (pe_and h hb) fun σ H Q' ⟨ρ, S, G, Q, vw, re, hm, k⟩ => ⟨ρ, S, G, _, vw, re, hm, fun c S1 v1 H1 G1 a1 r1 h1 => ?_⟩
  cases r1 <;> try exact h1.elim
  rename_i c
  refine ⟨c, rfl, ?_⟩
  cases c with
  | true => exact ⟨ρ, S1, G1, Q, a1.vw, re.mono a1.gg, h1, fun d S2 v H2 G2 a2 r2 h2 => k d S2 v H2 G2 (a1.trans a2) r2 h2⟩
  | false => exact k _ S1 _ H1 G1 a1 (.bl _) h1
theorem v_or {a b : Expr} {rest : List Expr} {m n : VE} {pos : Pos} (h : PE X a (LE X.K m)) (hb : PE X (.BoolOp .Or (b :: rest) pos) (LE X.K n)) : PE X (.BoolOp .Or (a :: b :: rest) pos) (LE X.K (mOrV m n)) := by
  refine PE.imp (pe_or h hb) fun σ H Q' ⟨ρ, S, G, Q, vw, re, hm, k⟩ => ⟨ρ, S, G, _, vw, re, hm, fun c S1 v1 H1 G1 a1 r1 h1 => ?_⟩
  cases r1 <;> try exact h1.elim
  rename_i c
  refine ⟨c, rfl, ?_⟩
  cases c with
  | false => exact ⟨ρ, S1, G1, Q, a1.vw, re.mono a1.gg, h1, fun d S2 v H2 G2 a2 r2 h2 => k d S2 v H2 G2 (a1.trans a2) r2 h2⟩
  | true => exact k _ S1 _ H1 G1 a1 (.bl _) h1
theorem v_not {a : Expr} {m : VE} {pos : Pos} (h : PE X a (LE X.K m)) : PE X (.UnaryOp .Not a pos) (LE X.K (mNotV m)) := by
  refine PE.imp (pe_not h) fun σ H Q' ⟨ρ, S, G, Q, vw, re, hm, k⟩ => ⟨ρ, S, G, _, vw, re, hm, fun c S1 v1 H1 G1 a1 r1 h1 => ?_⟩
  cases r1 <;> try exact h1.elim
  exact ⟨_, rfl, k _ S1 _ H1 G1 a1 (.bl _) h1⟩
/-- a op1 b op2 c -/
def mChain (m m' : R2V) (ma mb mc : VE) : VE := fun ρ S Q => ma ρ S fun x S1 => mb ρ S1 fun y S2 => m x y S2 fun z S3 => match z with
  | .bl k => if k = true then mc ρ S3 fun w S4 => m' y w S4 Q else Q (.bl false) S3
  | _ => False
theorem le_chain {K : PySem.W.Frag} {r r' : R2} {m m' : R2V} {ma mb mc : VE} (h : LR2 K r m) (h' : LR2 K r' m') (σ : L2.St) (H : Hp) (Q' : VK) (q : LE K (mChain m m' ma mb mc) σ H Q') : tChain r r' (LE K ma) (LE K mb) (LE K mc) σ H Q' := by
  obtain ⟨ρ, S, G, Q, vw, re, hm, k⟩ := q
  refine ⟨ρ, S, G, _, vw, re, hm, fun x S1 v1 H1 G1 a1 r1 h1 => ?_⟩
  refine ⟨ρ, S1, G1, _, a1.vw, re.mono a1.gg, h1, fun y S2 v2 H2 G2 a2 r2 h2 => ?_⟩
  refine h x y v1 v2 G2 S2 H2 _ _ a2.vw (r1.mono a2.gg) r2 h2 fun z S3 v3 H3 G3 a3 r3 h3 => ?_
  have a13 := a1.trans (a2.trans a3)
  cases r3 <;> try exact h3.elim
  rename_i c
  refine ⟨c, rfl, ?_⟩
  cases c with
  | false => exact k _ S3 _ H3 G3 a13 (.bl _) h3
  | true => exact ⟨ρ, S3, G3, _, a3.vw, re.mono a13.gg, h3, fun w S4 v4 H4 G4 a4 r4 h4 => h' y w v2 v4 G4 S4 H4 Q Q' a4.vw ((r2.mono a3.gg).mono a4.gg) r4 h4 fun d S' v H' G' a5 r5 q => k d S' v H' G' (a13.trans (a4.trans a5)) r5 q⟩
theorem v_chain {op op' : CmpOp} {m m' : R2V} {a b c : Expr} {ma mb mc : VE} {pos : Pos} (ho : OpV X (compareOp op) m) (ho' : OpV X (compareOp op') m') (ha : PE X a (LE X.K ma)) (hb : PE X b (LE X.K mb)) (hc : PE X c (LE X.K mc))
    (hm : lastMarks [op, op'] [b, c] = false := by with_unfolding_all rfl) : PE X (.Compare a [op, op'] [b, c] pos) (LE X.K (mChain m m' ma mb mc)) := by
  obtain ⟨r, h1, h2⟩ := ho
  obtain ⟨r', h1', h2'⟩ := ho'
  exact PE.imp (pe_chain h1 h1' ha hb hc hm) fun σ H Q' q => le_chain h2 h2' σ H Q' q
theorem t_chain {op op' : CmpOp} {m m' : R2V} {a b c : Expr} {ma mb mc : VE} {pos : Pos} (ho : OpV X (compareOp op) m) (ho' : OpV X (compareOp op') m') (ha : PE X a (LE X.K ma)) (hb : PE X b (LE X.K mb)) (hc : PE X c (LE X.K mc))
    (hm : lastMarks [op, op'] [b, c] = false := by with_unfolding_all rfl) : PT X (.Compare a [op, op'] [b, c] pos) (LT X.K (mTest (mChain m m' ma mb mc))) := by
  obtain ⟨r, h1, h2⟩ := ho
  obtain ⟨r', h1', h2'⟩ := ho'
  exact PT.imp (pt_chain h1 h1' ha hb hc hm) fun σ H Q' q => le_chain h2 h2' σ H _ (lt_B q)
end
end VL
set_option maxHeartbeats 2000000
namespace VL
open PySem PySem.Spec L2
open PyProof.Rows hiding St
section
variable {X : Cx}
abbrev CV := List D → Store → (D → Store → Prop) → Prop
def LRC (K : PySem.W.Frag) (r : List V → Hp → VK → Prop) (m : CV) : Prop := ∀ (ds : List D) (vs : List V) (G : Hp) (S : Store) (H : Hp) (Q : D → Store → Prop) (Q' : VK), View K G S H → RpL K G vs ds → m ds S Q →
  (∀ d S' v H' G', Aft K G S H S' H' G' → Rp K G' v d → Q d S' → Q' v H') → r vs H Q'
def CallV (X : Cx) (f : Value) (m : CV) : Prop := ∃ r, CallR X f r ∧ LRC X.K r m
def mCB (m : CV) (ms : VA) : VE := fun ρ S Q => ms ρ S fun ds S1 => m ds S1 Q
theorem le_cb {K : PySem.W.Frag} {r : List V → Hp → VK → Prop} {m : CV} {ms : VA} (h : LRC K r m) (σ : L2.St) (H : Hp) (Q' : VK) (q : LE K (mCB m ms) σ H Q') : tCB r (LA K ms) σ H Q' := by
  obtain ⟨ρ, S, G, Q, vw, re, hm, k⟩ := q
  exact ⟨ρ, S, G, _, vw, re, hm, fun ds S1 vs H1 G1 a1 r1 h1 => h ds vs G1 S1 H1 Q Q' a1.vw r1 h1 fun d S' v H' G' a2 r2 q => k d S' v H' G' (a1.trans a2) r2 q⟩
theorem v_callB {id : String} {x : Str} {p pos : Pos} {e : Expr} {es : List Expr} {m : CV} {ms : VA} (hc : CallV X (.builtin id) m) (hg : Gl X x) (hm : X.mg x = none) (hv : bootBuiltins x = some (.builtin id)) (ha : PA X (e :: es) (LA X.K ms)) (hn : x ≠ "__name__" := by decide) (hdb : (x == ("__debug__" : Str)) = false := by decide)
    (he : starEach (e :: es) X.env = (false, eval e X.env) :: starEach es X.env := by rfl) (hpl : (backTo pos (starEach es X.env)).any (·.1) = false := by rfl) : PE X (.Call (.Name x p) (e :: es) [] pos) (LE X.K (mCB m ms)) := by
  obtain ⟨r, h1, h2⟩ := hc
  exact PE.imp (pe_callB h1 hg hm hv ha hn hdb he hpl) fun σ H Q' q => le_cb h2 σ H Q' q
theorem v_callT {T : String} {x : Str} {p pos : Pos} {e : Expr} {es : List Expr} {m : CV} {ms : VA} (hc : CallV X (.type T) m) (hg : Gl X x) (hm : X.mg x = none) (hv : bootBuiltins x = some (.type T)) (ha : PA X (e :: es) (LA X.K ms)) (hn : x ≠ "__name__" := by decide) (hdb : (x == ("__debug__" : Str)) = false := by decide)
    (he : starEach (e :: es) X.env = (false, eval e X.env) :: starEach es X.env := by rfl) (hpl : (backTo pos (starEach es X.env)).any (·.1) = false := by rfl) : PE X (.Call (.Name x p) (e :: es) [] pos) (LE X.K (mCB m ms)) := by
  obtain ⟨r, h1, h2⟩ := hc
  exact PE.imp (pe_callTy h1 hg hm hv ha hn hdb he hpl) fun σ H Q' q => le_cb h2 σ H Q' q
def mLen : CV := fun ds S Q => match ds with
  | [.str z] => z.length ≤ sizeLine ∧ Q (.int z.length) S
  | [d] => match rdS d S with
    | some ds => Q (.int ds.length) S
    | none => False
  | _ => False
theorem cv_len : CallV X (.builtin "len") mLen := by
  refine ⟨_, call_len, ?_⟩
  intro ds vs G S H Q Q' vw rl h k
  unfold mLen at h
  split at h
  · cases rl with
    | cons r t =>
      cases t; cases r
      exact ⟨_, _, rfl, ⟨h.1, rfl⟩, k _ S _ H G (Aft.refl vw) (.int _) h.2⟩
  · rename_i d _
    cases rl with
    | cons r t =>
      cases t
      split at h
      · rename_i es e
        obtain ⟨a, xs, rfl, q, l⟩ := rdS_ok vw r e
        refine ⟨_, es.length, rfl, ?_, k _ S _ H G (Aft.refl vw) (.int _) h⟩
        rcases q with q | q
        · exact .inl ⟨xs, q, l.length.symm⟩
        · exact .inr ⟨xs, q, l.length.symm⟩
      · exact h.elim
  · exact h.elim
def mInt1 (g : Int → Int) : CV := fun ds S Q => match ds with
  | [.int i] => Q (.int (g i)) S
  | _ => False
def mInt2 (g : Int → Int → Int) : CV := fun ds S Q => match ds with
  | [.int i, .int j] => Q (.int (g i j)) S
  | _ => False
theorem cv_abs : CallV X (.builtin "abs") (mInt1 fun i => if i < 0 then -i else i) := by
  refine ⟨_, call_abs, ?_⟩
  intro ds vs G S H Q Q' vw rl h k
  unfold mInt1 at h
  split at h
  · cases rl with
    | cons r t => cases t; cases r; exact ⟨_, rfl, k _ S _ H G (Aft.refl vw) (.int _) h⟩
  · exact h.elim
theorem cv_max2 (hc : X.calm = true) : CallV X (.builtin "max") (mInt2 fun i j => if j > i then j else i) := by
  refine ⟨_, call_max2 hc, ?_⟩
  intro ds vs G S H Q Q' vw rl h k
  unfold mInt2 at h
  split at h
  · cases rl with
    | cons r t =>
      cases t with
      | cons r2 t => cases t; cases r; cases r2; exact ⟨_, _, rfl, k _ S _ H G (Aft.refl vw) (.int _) h⟩
  · exact h.elim
/-- all, any over a list of truths -/
def bls : List D → Option (List Bool)
  | [] => some []
  | .bl b :: ds => (bls ds).map (b :: ·)
  | _ :: _ => none
theorem bls_ok {K : PySem.W.Frag} {G : Hp} : ∀ {xs : List V} {ds : List D} {bs : List Bool}, RpL K G xs ds → bls ds = some bs → xs = bs.map V.bl
  | _, _, _, .nil, h => by simp [bls] at h; subst h; rfl
  | _, _, _, .cons r t, h => by
    cases r <;> try (simp [bls] at h; done)
    rename_i b ds' _
    cases e : bls ds' with
    | none => simp [bls, e] at h
    | some bs' => simp [bls, e] at h; subst h; rw [bls_ok t e]; rfl
theorem bls_map (bs : List Bool) : bls (bs.map D.bl) = some bs := by
  induction bs with
  | nil => rfl
  | cons b bs ih => simp [bls, ih]
def mBls (g : List Bool → Bool) : CV := fun ds S Q => match ds with
  | [d] => match rdR d S with
    | some ds => (match bls ds with
      | some bs => Q (.bl (g bs)) S
      | none => False)
    | none => False
  | _ => False
theorem lrc_bls {r : List V → Hp → VK → Prop} {g : List Bool → Bool} (hr : ∀ a bs H Q, SqL X.K H a (bs.map V.bl) → Q (.bl (g bs)) H → r [.ref a] H Q) : LRC X.K r (mBls g) := by
  intro ds vs G S H Q Q' vw rl h k
  unfold mBls at h
  split at h
  · cases rl with
    | cons r t =>
      cases t
      split at h
      · rename_i es e
        split at h
        · rename_i bs e2
          obtain ⟨a, xs, rfl, q, l⟩ := rdR_ok vw r e
          rw [bls_ok l e2] at q
          exact hr a bs H Q' q (k _ S _ H G (Aft.refl vw) (.bl _) h)
        · exact h.elim
      · exact h.elim
  · exact h.elim
theorem cv_all (hc : X.calm = true) : CallV X (.builtin "all") (mBls fun bs => bs.all id) := ⟨_, cr_all hc, lrc_bls fun a bs H Q h q => ⟨a, bs, rfl, h, q⟩⟩
theorem cv_any (hc : X.calm = true) : CallV X (.builtin "any") (mBls fun bs => bs.any id) := ⟨_, cr_any hc, lrc_bls fun a bs H Q h q => ⟨a, bs, rfl, h, q⟩⟩
/-- tuple(xs), list(xs) -/
def mTupOf : CV := fun ds S Q => match ds with
  | [.tup es] => Q (.tup es) S
  | [d] => match rdR d S with
    | some es => Q (.tup es) S
    | none => False
  | _ => False
theorem cv_tuple : CallV X (.type "tuple") mTupOf := by
  refine ⟨_, call_tuple_of, ?_⟩
  intro ds vs G S H Q Q' vw rl h k
  unfold mTupOf at h
  split at h
  · cases rl with
    | cons r t =>
      cases t
      cases r with
      | tup ht l => exact ⟨_, _, rfl, .inr ⟨same_t vw.gh ht, k _ S _ H G (Aft.refl vw) (.tup ht l) h⟩⟩
  · cases rl with
    | cons r t =>
      cases t
      split at h
      · rename_i es e
        obtain ⟨a, xs, rfl, q, l⟩ := rdR_ok vw r e
        refine ⟨_, _, rfl, .inl ⟨q, fun p hp => ?_⟩⟩
        have a3 := vw.froze (o := .tup xs) hp
        exact k _ S _ _ _ a3 (.tup (SqT.of upd_same) (l.mono a3.gg)) h
      · exact h.elim
  · exact h.elim
def tyn (d : D) (S : Store) : String := match d with
  | .non => "NoneType" | .bl _ => "bool" | .int _ => "int" | .str _ => "str" | .tup _ => "tuple" | .lst _ => "list" | .ro _ => "list" | .dct _ => "dict"
  | .ref a => match S a with
    | some (.lst _) => "list"
    | some (.dct _) => "dict"
    | _ => "?"
def isT (t n : String) : Bool := decide (t = n) || (decide (t = "bool") && decide (n = "int"))
def mIsi (n : String) (m : VE) : VE := fun ρ S Q => m ρ S fun d S1 => tyn d S1 ≠ "?" ∧ Q (.bl (isT (tyn d S1) n)) S1
theorem kit_isT : ∀ t ∈ ["NoneType", "bool", "int", "str", "tuple", "list", "dict"], ∀ n ∈ ["bool", "int", "str", "tuple", "list", "dict"], kitB t n = some (isT t n) := by decide +kernel
theorem tyn_mem (d : D) (S : Store) (h : tyn d S ≠ "?") : tyn d S ∈ ["NoneType", "bool", "int", "str", "tuple", "list", "dict"] := by
  cases d <;> try (simp [tyn]; done)
  rename_i a
  simp only [tyn] at h ⊢
  split <;> simp_all
theorem tyx_of {K : PySem.W.Frag} {G H : Hp} {S : Store} {d : D} {v : V} (vw : View K G S H) (h : tyn d S ≠ "?") (r : Rp K G v d) : TyX K H v (.type (tyn d S)) := by
  have lst : ∀ {a xs}, SqL K H a xs → TyX K H (.ref a) (.type "list") := fun q => by
    rcases q with (q | ⟨o, q⟩) | ⟨o, its, n, q, c, _⟩
    · exact .base (.lst q)
    · exact .base (.frz q)
    · exact .kList q c
  cases r with
  | non => exact .base .non
  | bl b => exact .base (.bl b)
  | int i => exact .base (.int i)
  | str x => exact .base (.str x)
  | tup q _ =>
    rcases same_t vw.gh q with (q | ⟨o, q⟩) | ⟨o, its, n, q, c, _⟩
    · exact .base (.tup q)
    · exact .fTuple q
    · exact .kTuple q c
  | lst q _ => exact .base (.lst (vw.gh _ _ q))
  | ro q _ => exact lst (vw.gh.seq q)
  | dct q _ =>
    exact .fDict (vw.gh _ _ q)
  | ref a =>
    simp only [tyn] at h ⊢
    split
    · rename_i e
      obtain ⟨_, u, hu, k⟩ := vw.st a _ e
      cases k with
      | lst _ => exact .base (.lst hu)
    · rename_i e
      obtain ⟨_, u, hu, k⟩ := vw.st a _ e
      cases k with
      | dct _ => exact .base (.dK hu)
    · rename_i n1 n2
      exfalso
      revert h
      split
      · rename_i e; exact fun _ => n1 _ e
      · rename_i e; exact fun _ => n2 _ e
      · exact fun z => z rfl
theorem v_isi (n : String) {x y : Str} {p p2 pos : Pos} {e : Expr} {m : VE} (hn : n ∈ ["bool", "int", "str", "tuple", "list", "dict"]) (hg : Gl X x) (hm : X.mg x = none) (hv : bootBuiltins x = some (.builtin "isinstance")) (hg2 : Gl X y) (hm2 : X.mg y = none) (hv2 : bootBuiltins y = some (.type n)) (he : PE X e (LE X.K m))
    (hst : starEach [e, .Name y p2] X.env = (false, eval e X.env) :: starEach [.Name y p2] X.env := by rfl) (hx : x ≠ "__name__" := by decide) (hdb : (x == ("__debug__" : Str)) = false := by decide) (hy : y ≠ "__name__" := by decide) (hdb2 : (y == ("__debug__" : Str)) = false := by decide) :
    PE X (.Call (.Name x p) [e, .Name y p2] [] pos) (LE X.K (mIsi n m)) := by
  refine PE.imp (pe_callB call_isi hg hm hv (pa_cons he (pa_cons (pe_bltn (v := .ty n) hg2 hm2 hv2 rfl hy hdb2) pa_nil) hst) hx hdb hst) fun σ H Q' ⟨ρ, S, G, Q, vw, re, hm, k⟩ => ?_
  refine ⟨ρ, S, G, _, vw, re, hm, fun d S1 v1 H1 G1 a1 r1 h1 => ?_⟩
  refine ⟨v1, .ty n, _, _, isT (tyn d S1) n, rfl, .ty n, tyx_of a1.vw h1.1 r1, kit_ty (kit_isT _ (tyn_mem d S1 h1.1) n hn), k _ S1 _ H1 G1 a1 (.bl _) h1.2⟩
structure FnG (P : Program) (w : World) (K : PySem.W.Frag) (mg : Str → Option Value) (base : Heap) (CX : CXT) (k : Nat) (f : Addr) (fd : FuncData) (ps : List Str) (sp : Sp) : Prop where
  len : ∀ vs H Q E, sp vs H Q E → vs.length = ps.length
  go : ∀ (A : Around) (outer : List Env) (s : Shared) (H : Hp) (args : Args) (us : List Value) (vs : List V) (Q : VK) (E : XK), Room k A → A.guards = some [] → Env0 P w K mg base A outer s H → BindsTo s fd args (ps.zip us) → Vals vs us →
    sp vs H Q E → codeAny (model P w) A (.call (.ref f) args) (CR CX outer P w H s Q E) s
theorem FnG.mono {P : Program} {w : World} {K : PySem.W.Frag} {mg : Str → Option Value} {base : Heap} {CX : CXT} {j k : Nat} {f : Addr} {fd : FuncData} {ps : List Str} {sp : Sp} (F : FnG P w K mg base CX j f fd ps sp) (h : j ≤ k) : FnG P w K mg base CX k f fd ps sp :=
  ⟨F.len, fun A outer s H args us vs Q E hr hg => F.go A outer s H args us vs Q E (hr.mono h) hg⟩
section
variable {CX : CXT} {k : Nat} {f : Addr} {fd : FuncData} {ps : List Str} {sp : Sp} {dvs : List V} {ds : List Value} {E : XK} {x : Str} {p pos : Pos} {e : Expr} {es : List Expr} {t : TA}
theorem go_fn {pins : List (Addr × Obj)} {σ : L2.St} {H : Hp} {s : Shared} {Q : VK} {us : List Value} {vs : List V} (F : FnG X.prog X.w X.K X.mg X.base CX k f fd ps sp) (hr : Room k X.A) (hgd : X.A.guards = some []) (hb : Binds X.K fd ps ds) (hd : Vals dvs ds) (hx : Passes CX X E)
    (I : Inv X pins σ H s) (r : Vals vs us) (h : sp (vs ++ dvs) H Q E) : wpAny (model X.prog X.w) X.A (call (.ref f) us) (EP X pins σ Q) X.xe s := by
  have r' := r.append hd
  have len : (us ++ ds).length = ps.length := r'.length.symm.trans (F.len _ _ _ _ h)
  refine wpAny_call (codeAny_mono (F.go X.A X.stack s H _ _ _ Q E hr hgd I.env0 (hb s us I.kIn len) r' h) fun res s' hq => ?_)
  match res, hq with
  | .error e, hq => exact hx pins σ H s e s' I hq
  | .ok (.ret u), hq => exact I.after hq
  | .ok .next, hq => exact (show False from hq).elim
  | .ok .brk, hq => exact (show False from hq).elim
  | .ok .cont, hq => exact (show False from hq).elim
theorem pg_call (F : FnG X.prog X.w X.K X.mg X.base CX k f fd ps sp) (hr : Room k X.A) (hgd : X.A.guards = some []) (hg : Gl X x) (hm : X.mg x = some (.ref f)) (hk : PySem.W.keepIn X.K (.ref f) = true) (hb : Binds X.K fd ps ds) (hd : Vals dvs ds) (hx : Passes CX X E)
    (ha : PA X (e :: es) t) (hdb : (x == ("__debug__" : Str)) = false := by decide) (he : starEach (e :: es) X.env = (false, eval e X.env) :: starEach es X.env := by rfl) (hpl : (backTo pos (starEach es X.env)).any (·.1) = false := by rfl) :
    PE X (.Call (.Name x p) (e :: es) [] pos) (tCall sp dvs E t) :=
  ⟨fun pins s σ H Q I h => wpAny_Call_Name_kw (ld_glob I hg hm
    (PySem.W.callWith_K (h₀ := X.base) I.ok.mod.kin hk (thn (ha.run pos pins s σ H _ I h) fun us s1 ⟨vs, H1, I1, r, q⟩ => ⟨I1.kIn, go_fn F hr hgd hb hd hx I1 r q⟩) he hpl) hdb)⟩
theorem pg_call0 (F : FnG X.prog X.w X.K X.mg X.base CX k f fd ps sp) (hr : Room k X.A) (hgd : X.A.guards = some []) (hg : Gl X x) (hm : X.mg x = some (.ref f)) (hk : PySem.W.keepIn X.K (.ref f) = true) (hb : Binds X.K fd ps ds) (hd : Vals dvs ds) (hx : Passes CX X E)
    (hdb : (x == ("__debug__" : Str)) = false := by decide) : PE X (.Call (.Name x p) [] [] pos) (tCall sp dvs E tNil) :=
  ⟨fun pins s σ H Q I h => wpAny_Call_Name_kw (ld_glob I hg hm (PySem.W.callWith_K0 I.kIn hk (go_fn (us := []) F hr hgd hb hd hx I .nil h)) hdb)⟩
end
/-- what is handed back may be locked -/
def tEnd (Q : VK) : VK := fun v H' => Q v H' ∨ ∃ d u, v = .ref d ∧ H' d = some u ∧ Mut (some u) ∧ ∀ od, Q v (upd H' d (.frz od u))
theorem g_of {CX : CXT} {P : Program} {w : World} {K : PySem.W.Frag} {mg : Str → Option Value} {base : Heap} {k : Nat} {f : Addr} {name qual : Str} {params : Arguments} {body : List Stmt} {scope : Scope} {dV kV doc pm cdv ct oc : Value} {an od : Option Addr}
    {osl : Array (Option Value)} {N ps : List Str} {sp : Sp} (lk : K.lookup f = some ⟨oc, od, .func (PySem.W.fnOf name qual params body scope dV kV doc pm an cdv ct), osl⟩) (hcd : PySem.W.codeIn K cdv qual = true) (S : FnScope N ps scope)
    (len : ∀ vs H Q E, sp vs H Q E → vs.length = ps.length)
    (hbody : ∀ (A : Around) (outer : List Env) (s : Shared) (H : Hp) (E : XK), Room k (A.deeper (envOfC qual scope s.heap.objs.size f cdv)) → A.guards = some [] →
      ∃ t, PSs (cxOf CX P w K mg base N qual scope f cdv A outer s H E) body t ∧ ∀ vs Q, sp vs H Q E → t { nx := fun _ H' => Q .non H', rt := tEnd Q } (L2.start N vs) H) :
    FnG P w K mg base CX (k + 1) f (PySem.W.fnOf name qual params body scope dV kV doc pm an cdv ct) ps sp := by
  refine ⟨len, fun A outer s H args us vs Q E hr hgd e0 hb r hsp => ?_⟩
  obtain ⟨t, ht, hq⟩ := hbody A outer s H E (hr.deeper _) hgd
  have stays : ∀ b o, base.get? b = some o → s.heap.get? b = some o := fun b o e => (e0.bs b o e).1
  refine codeAny_call_function hr.depth (e0.mod.kin.keeps stays _ _ lk) rfl S.co S.gen rfl (PySem.W.codeRec_of (e0.mod.kin.keeps stays) hcd) (hb _ _ _ _ ?_)
  refine wpAny_newFunctionEnv_cells S.kind (fun ⟨n, v⟩ hy => (S.par n (List.of_mem_zip hy).1).elim .inl fun q => .inr ⟨q, PySem.W.cellsFrom_some _ _ _ (.inl q)⟩) fun env he s1 x => ?_
  subst he
  refine ⟨(e0.mod.nolimit.keeps stays).keeps x.toInCall.keep, codeAny_func ?_⟩
  refine wpAny_mono (ht.run [] s1 (L2.start N vs) H _ (inv_start (CX := CX) (E := E) S hr.hd e0 (len _ _ _ _ hsp) r x) (hq vs Q hsp)) (fun fl s' hs => ?_) fun _ _ z => z
  match fl, hs with
  | .ret u, ⟨v, σ', H', J, rv, q⟩ =>
    rcases q with q | ⟨d, w, ev, hd, mu, q⟩
    · exact ⟨v, H', J.os, J.bare, J.base, J.hok, rv, q⟩
    · obtain ⟨od, J2⟩ := J.lock hd mu
      exact ⟨v, _, J2.os, J2.bare, J2.base, J2.hok, rv, q od⟩
  | .next, ⟨σ', H', J, q⟩ => exact ⟨V.non, H', J.os, J.bare, J.base, J.hok, (rfl : RelV .non Value.none), q⟩
  | .brk, ⟨_, _, _, q⟩ => exact q.elim
  | .cont, ⟨_, _, _, q⟩ => exact q.elim
abbrev VSp := List D → Store → (D → Store → Prop) → Prop
def LSp (K : PySem.W.Frag) (n : Nat) (sp : VSp) : Sp := fun vs H Q _ => vs.length = n ∧ ∃ ds S G Qv, View K G S H ∧ RpL K G vs ds ∧ sp ds S Qv ∧ ∀ d S' v H' G', Aft K G S H S' H' G' → Rp K G' v d → Qv d S' → Q v H'
/-- the def of that name keeps its promise (it lets no exception out) -/
structure DefV (P : Program) (w : World) (K : PySem.W.Frag) (mg : Str → Option Value) (base : Heap) (k : Nat) (x : Str) (ps : List Str) (sp : VSp) : Prop where
  ex : ∃ (f : Addr) (fd : FuncData), mg x = some (.ref f) ∧ PySem.W.keepIn K (.ref f) = true ∧ Binds K fd ps [] ∧ FnG P w K mg base CX0 k f fd ps (LSp K ps.length sp)
  run : ∀ (st : Stmt) (f : Addr) (fd : FuncData), mg x = some (.ref f) → Fun K x x st f fd → FnG P w K mg base CX0 k f fd ps (LSp K ps.length sp)
def mCall (n : Nat) (sp : VSp) (ms : VA) : VE := fun ρ S Q => ms ρ S fun ds S1 => ds.length = n ∧ sp ds S1 Q
theorem v_call {k : Nat} {x : Str} {ps : List Str} {sp : VSp} {p pos : Pos} {e : Expr} {es : List Expr} {ms : VA} (F : DefV X.prog X.w X.K X.mg X.base k x ps sp) (hr : Room k X.A) (hgd : X.A.guards = some []) (hg : Gl X x)
    (ha : PA X (e :: es) (LA X.K ms)) (hdb : (x == ("__debug__" : Str)) = false := by decide) (he : starEach (e :: es) X.env = (false, eval e X.env) :: starEach es X.env := by rfl) (hpl : (backTo pos (starEach es X.env)).any (·.1) = false := by rfl) :
    PE X (.Call (.Name x p) (e :: es) [] pos) (LE X.K (mCall ps.length sp ms)) := by
  obtain ⟨f, fd, hm, hk, hb, G⟩ := F.ex
  refine PE.imp (pg_call G hr hgd hg hm hk hb .nil pass0 ha hdb he hpl) fun σ H Q' ⟨ρ, S, G, Q, vw, re, hm, k⟩ => ?_
  refine ⟨ρ, S, G, _, vw, re, hm, fun ds S1 vs H1 G1 a1 r1 h1 => ?_⟩
  exact ⟨by rw [List.append_nil, r1.length]; exact h1.1, ds, S1, G1, Q, a1.vw, by rw [List.append_nil]; exact r1, h1.2, fun d S' v H' G' a2 r2 q => k d S' v H' G' (a1.trans a2) r2 q⟩
theorem v_call0 {k : Nat} {x : Str} {sp : VSp} {p pos : Pos} (F : DefV X.prog X.w X.K X.mg X.base k x [] sp) (hr : Room k X.A) (hgd : X.A.guards = some []) (hg : Gl X x) (hdb : (x == ("__debug__" : Str)) = false := by decide) :
    PE X (.Call (.Name x p) [] [] pos) (LE X.K (mCall 0 sp mNil)) := by
  obtain ⟨f, fd, hm, hk, hb, G⟩ := F.ex
  refine PE.imp (pg_call0 G hr hgd hg hm hk hb .nil pass0 hdb) fun σ H Q' ⟨ρ, S, G, Q, vw, re, hm, k⟩ => ?_
  exact ⟨rfl, [], S, G, Q, vw, .nil, hm.2, k⟩
/-- what a def hands back may be told less of: a new thing frozen, or forgotten -/
inductive Settle : D → Store → D → Store → Prop
  | drop {d : D} {S S1 : Store} (h : ∀ a o, S1 a = some o → S a = some o) : Settle d S d S1
  | lst {a : Addr} {ds : List D} {S S1 : Store} (h : S a = some (.lst ds)) (n : S1 a = none) (s : ∀ b o, S1 b = some o → S b = some o) : Settle (.ref a) S (.lst ds) S1
  | dct {a : Addr} {ds : List (Key × D)} {S S1 : Store} (h : S a = some (.dct ds)) (n : S1 a = none) (s : ∀ b o, S1 b = some o → S b = some o) : Settle (.ref a) S (.dct ds) S1
theorem View.locks {K : PySem.W.Frag} {G H : Hp} {S S1 : Store} (v : View K G S H) {a : Addr} {o : SO} {u' : HO} (h : S a = some o) (hn : S1 a = Option.none) (hs : ∀ b x, S1 b = some x → S b = some x) : Aft K G S H S1 (upd H a u') (upd G a u') := by
  obtain ⟨g, _⟩ := v.st a o h
  have gg : Same G (upd G a u') := fun c w e => by rw [upd_ne (ne_of_none e g)]; exact e
  refine ⟨fun b x hS e => ?_, gg, ⟨fun b x e => ?_, fun b x e => ?_⟩⟩
  · have hb : b ≠ a := fun z => by subst z; rw [h] at hS; cases hS
    refine ⟨by rw [upd_ne hb]; exact e, ?_, by rw [upd_ne hb]⟩
    cases q : S1 b with
    | none => rfl
    | some o => rw [hs b o q] at hS; cases hS
  · by_cases hb : b = a
    · subst hb; rw [upd_same] at e ⊢; exact e
    · rw [upd_ne hb] at e ⊢; exact v.gh b x e
  · have hb : b ≠ a := by intro z; subst z; rw [hn] at e; cases e
    obtain ⟨g, x, hx, k⟩ := v.st b _ (hs b _ e)
    exact ⟨by rw [upd_ne hb]; exact g, x, by rw [upd_ne hb]; exact hx, k.mono gg⟩
theorem Settle.ok {K : PySem.W.Frag} {G H : Hp} {S S1 : Store} {d d1 : D} {v : V} (x : Settle d S d1 S1) (vw : View K G S H) (r : Rp K G v d) : (∃ G', Aft K G S H S1 H G' ∧ Rp K G' v d1) ∨ ∃ a u, v = .ref a ∧ H a = some u ∧ Mut (some u) ∧ ∀ od, ∃ G', Aft K G S H S1 (upd H a (.frz od u)) G' ∧ Rp K G' v d1 := by
  cases x with
  | drop h => exact .inl ⟨G, vw.drops h, r⟩
  | @lst a ds _ _ h n s =>
    cases r
    obtain ⟨_, u, hu, k⟩ := vw.st _ _ h
    cases k with
    | lst l => exact .inl ⟨_, vw.freezes h hu n s, .lst upd_same (l.mono (vw.freezes h hu n s).gg)⟩
  | @dct a ds _ _ h n s =>
    cases r
    obtain ⟨_, u, hu, k⟩ := vw.st _ _ h
    cases k with
    | dct l => exact .inr ⟨a, _, rfl, hu, trivial, fun od => ⟨_, vw.locks h n s, .dct upd_same (l.mono (vw.locks h n s).gg)⟩⟩
theorem Settle.okN {K : PySem.W.Frag} {G H : Hp} {S S1 : Store} {d1 : D} (x : Settle .non S d1 S1) (vw : View K G S H) : ∃ G', Aft K G S H S1 H G' ∧ Rp K G' .non d1 := by
  cases x with
  | drop h => exact ⟨G, vw.drops h, .non⟩
def Fin (Q : D → Store → Prop) : D → Store → Prop := fun d S => ∃ d1 S1, Settle d S d1 S1 ∧ Q d1 S1
theorem fin_same {Q : D → Store → Prop} {d : D} {S : Store} (h : Q d S) : Fin Q d S := ⟨d, S, .drop fun _ _ h => h, h⟩
theorem Settle.refl (d : D) (S : Store) : Settle d S d S := .drop fun _ _ h => h
/-- the slots at the entry -/
def startD (N : List Str) (ds : List D) : Sl := ds.map some ++ List.replicate (N.length - ds.length) none
theorem getE {α : Type} {l : List α} {i : Nat} {a : α} : l[i]? = some a → i < l.length := fun h => (List.getElem?_eq_some_iff.mp h).1
theorem REnv.start {K : PySem.W.Frag} {G : Hp} {N : List Str} {vs : List V} {ds : List D} (r : RpL K G vs ds) : REnv K G (L2.start N vs) (startD N ds) := by
  have e := r.length
  refine ⟨by simp [L2.start, startD, e], fun i d h => ?_⟩
  have hi : i < ds.length := by
    by_cases hi : i < ds.length
    · exact hi
    · unfold startD at h
      rw [List.getElem?_append_right (by simpa using hi), List.getElem?_replicate] at h
      split at h <;> cases h
  unfold startD at h
  rw [List.getElem?_append_left (by simpa using hi), List.getElem?_map] at h
  cases q : ds[i]? with
  | none => rw [q] at h; cases h
  | some d' =>
    rw [q] at h
    cases h
    obtain ⟨v, hv, rv⟩ := r.get q
    refine ⟨v, ?_, rv⟩
    unfold L2.start
    rw [List.getElem?_append_left (by simpa [e] using hi), List.getElem?_map, hv]
    rfl
/-- a def of the top as it stands behind it -/
def Has (K : PySem.W.Frag) (mg : Str → Option Value) (x : Str) (st : Stmt) : Prop := ∃ f fd, mg x = some (.ref f) ∧ Fun K x x st f fd
/-- the context of a def's body from which no exception goes out -/
abbrev XC (P : Program) (w : World) (K : PySem.W.Frag) (mg : Str → Option Value) (base : Heap) (N : List Str) (x : Str) (sc : Scope) (f : Addr) (cdv : Value) (A : Around) (outer : List Env) (s : Shared) (H : Hp) (E : XK) : Cx := (cxOf CX0 P w K mg base N x sc f cdv A outer s H E).nox
theorem DefV.mk' {P : Program} {w : World} {K : PySem.W.Frag} {mg : Str → Option Value} {base : Heap} {k : Nat} {x : Str} {N ps : List Str} {st : Stmt} {sp : VSp} (h : Has K mg x st) (Sc : FnScope N ps (defScope st))
    (hb : ∀ (kV doc pm : Value) (an : Option Addr) (cdv ct : Value) (us : List Value), us.length = ps.length → bindArgs (PySem.W.fnOf x x (defArgs st) (defBody st) (defScope st) .none kV doc pm an cdv ct) ⟨us, []⟩ = pure (ps.zip us))
    (hbody : ∀ (f : Addr) (cdv : Value) (A : Around) (outer : List Env) (s : Shared) (H : Hp) (E : XK), A.guards = some [] → Room k (A.deeper (envOfC x (defScope st) s.heap.objs.size f cdv)) → PySem.W.codeIn K cdv x = true →
      ∃ m, PSs (XC P w K mg base N x (defScope st) f cdv A outer s H E) (defBody st) (LS K m) ∧ ∀ ds S Q, ds.length = ps.length → sp ds S Q → m { nx := fun _ S' => Fin Q .non S', rt := Fin Q } (startD N ds) S) : DefV P w K mg base (k + 1) x ps sp := by
  obtain ⟨f, fd, hm, F⟩ := h
  obtain ⟨oc, od, kV, doc, pm, an, cdv, ct, osl, rfl, lk, hcd⟩ := F.ex
  have main : FnG P w K mg base CX0 (k + 1) f (PySem.W.fnOf x x (defArgs st) (defBody st) (defScope st) .none kV doc pm an cdv ct) ps (LSp K ps.length sp) := by
   refine g_of lk hcd Sc (fun vs H Q E h => h.1) fun A outer s H E hr hg => ?_
   obtain ⟨m, hs, hm'⟩ := hbody f cdv A outer s H E hg hr hcd
   refine ⟨_, PSs.nox hs, fun vs Q h => ?_⟩
   obtain ⟨hl, ds, S, G, Qv, vw, r, q, k'⟩ := h
   refine ⟨startD N ds, S, G, _, vw, REnv.start r, hm' ds S Qv (by rw [← r.length]; exact hl) q, ⟨?_, ?_, ?_, ?_⟩⟩
   · rintro ρ S' σ H' G' a re ⟨d1, S1, st, q1⟩
     obtain ⟨G1, a1, r1⟩ := st.okN a.vw
     exact k' d1 S1 _ H' G1 (a.trans a1) r1 q1
   · rintro d S' v H' G' a rv ⟨d1, S1, st, q1⟩
     rcases st.ok a.vw rv with ⟨G1, a1, r1⟩ | ⟨b, u, ev, hu, mu, k2⟩
     · exact .inl (k' d1 S1 _ H' G1 (a.trans a1) r1 q1)
     · exact .inr ⟨b, u, ev, hu, mu, fun od => let ⟨G1, a1, r1⟩ := k2 od; k' d1 S1 _ _ G1 (a.trans a1) r1 q1⟩
   · intro ρ S' σ H' G' a re q; exact q.elim
   · intro ρ S' σ H' G' a re q; exact q.elim
  refine ⟨⟨f, _, hm, F.kp, F.binds hb, main⟩, fun st2 f2 fd2 hm2 F2 => ?_⟩
  have ef : f2 = f := by rw [hm] at hm2; injection hm2 with e; injection e with e; exact e.symm
  subst ef
  obtain ⟨_, _, _, _, _, _, _, _, _, e2, lk2, _⟩ := F2.ex
  rw [lk] at lk2
  have efd : fd2 = PySem.W.fnOf x x (defArgs st) (defBody st) (defScope st) .none kV doc pm an cdv ct := by
    injection lk2 with e
    injection e with _ _ e _
    injection e with e
    exact e.symm
  rw [efd]
  exact main
end
end VL
set_option maxHeartbeats 2000000
namespace VL
open PySem PySem.Spec L2
open PyProof.Rows hiding St
section
variable {X : Cx}
def mNx : VS := fun E ρ S => E.nx ρ S
def VEnds.on (E : VEnds) (f : Sl → Store → Prop) : VEnds := { E with nx := f }
theorem on_nx {E : VEnds} {f : Sl → Store → Prop} : (E.on f).nx = f := rfl
theorem on_rt {E : VEnds} {f : Sl → Store → Prop} : (E.on f).rt = E.rt := rfl
theorem on_bk {E : VEnds} {f : Sl → Store → Prop} : (E.on f).bk = E.bk := rfl
theorem on_ct {E : VEnds} {f : Sl → Store → Prop} : (E.on f).ct = E.ct := rfl
def VEnds.loop (E : VEnds) (f : Sl → Store → Prop) : VEnds := { E with nx := f, ct := f, bk := E.nx }
theorem lo_nx {E : VEnds} {f : Sl → Store → Prop} : (E.loop f).nx = f := rfl
theorem lo_rt {E : VEnds} {f : Sl → Store → Prop} : (E.loop f).rt = E.rt := rfl
theorem lo_bk {E : VEnds} {f : Sl → Store → Prop} : (E.loop f).bk = E.nx := rfl
theorem lo_ct {E : VEnds} {f : Sl → Store → Prop} : (E.loop f).ct = f := rfl
def mSeq (t u : VS) : VS := fun E ρ S => t (E.on fun ρ' S' => u E ρ' S') ρ S
theorem s_nil : PSs X [] (LS X.K mNx) := PSs.imp pss_nil fun D' σ H ⟨ρ, S, G, E, vw, re, hm, ok⟩ => ok.nx ρ S σ H G (Aft.refl vw) re hm
theorem s_cons {st : Stmt} {rest : List Stmt} {t u : VS} (h1 : PS X st (LS X.K t)) (h2 : PSs X rest (LS X.K u)) : PSs X (st :: rest) (LS X.K (mSeq t u)) :=
  PSs.imp (pss_cons h1 h2) fun D' σ H ⟨ρ, S, G, E, vw, re, hm, ok⟩ => ⟨ρ, S, G, _, vw, re, hm, ⟨fun ρ' S' σ' H' G' a r q => ⟨ρ', S', G', E, a.vw, r, q, ok.after a⟩, ok.rt, ok.bk, ok.ct⟩⟩
theorem s_one {st : Stmt} {t : VS} (h1 : PS X st (LS X.K t)) : PSs X [st] (LS X.K t) := pss_one h1
def mDrop (m : VE) : VS := fun E ρ S => m ρ S fun _ S' => E.nx ρ S'
theorem s_expr {e : Expr} {m : VE} {pos : Pos} (he : PE X e (LE X.K m)) (hs : swapsWith e none pos.line X.env = pure false := by rfl) : PS X (.Expr e pos) (LS X.K (mDrop m)) :=
  PS.imp (ps_expr he hs) fun D' σ H ⟨ρ, S, G, E, vw, re, hm, ok⟩ => ⟨ρ, S, G, _, vw, re, hm, fun d S' v H' G' a r q => ok.nx ρ S' σ H' G' a (re.mono a.gg) q⟩
def mRet (m : VE) : VS := fun E ρ S => m ρ S E.rt
theorem s_ret {e : Expr} {m : VE} {pos : Pos} (he : PE X e (LE X.K m)) : PS X (.Return (some e) pos) (LS X.K (mRet m)) :=
  PS.imp (ps_ret he) fun D' σ H ⟨ρ, S, G, E, vw, re, hm, ok⟩ => ⟨ρ, S, G, _, vw, re, hm, fun d S' v H' G' a r q => ok.rt d S' v H' G' a r q⟩
def mIf (c : VT) (t u : VS) : VS := fun E ρ S => c ρ S fun b S1 => if b = true then t E ρ S1 else u E ρ S1
theorem s_if {c : Expr} {a b : List Stmt} {mc : VT} {t u : VS} {pos : Pos} (hc : PT X c (LT X.K mc)) (ha : PSs X a (LS X.K t)) (hb : PSs X b (LS X.K u)) : PS X (.If c a b pos) (LS X.K (mIf mc t u)) := by
  refine PS.imp (ps_if hc ha hb) fun D' σ H ⟨ρ, S, G, E, vw, re, hm, ok⟩ => ⟨ρ, S, G, _, vw, re, hm, fun d S' H' G' a q => ?_⟩
  cases d with
  | true => exact ⟨ρ, S', G', E, a.vw, re.mono a.gg, q, ok.after a⟩
  | false => exact ⟨ρ, S', G', E, a.vw, re.mono a.gg, q, ok.after a⟩
theorem s_never {st : Stmt} : PS X st (LS X.K fun _ _ _ => False) := PS.imp ps_never fun D' σ H ⟨ρ, S, G, E, vw, re, hm, ok⟩ => hm.elim
abbrev VG := D → Sl → Store → (Sl → Store → Prop) → Prop
def LG (K : PySem.W.Frag) (m : VG) : TG := fun v σ H Q' => ∃ ρ S G d Q, View K G S H ∧ REnv K G σ ρ ∧ Rp K G v d ∧ m d ρ S Q ∧ ∀ ρ' S' σ' H' G', Aft K G S H S' H' G' → REnv K G' σ' ρ' → Q ρ' S' → Q' σ' H'
theorem PG.imp {tg : Expr} {t t' : TG} (h : PG X tg t) (i : ∀ v σ H Q, t' v σ H Q → t v σ H Q) : PG X tg t' := ⟨fun pins s σ H v u Q I r q => h.run pins s σ H v u Q I r (i v σ H Q q)⟩
def mAsg (m : VE) (g : VG) : VS := fun E ρ S => m ρ S fun d S1 => g d ρ S1 E.nx
theorem s_asg {tg e : Expr} {m : VE} {g : VG} {pos : Pos} (he : PE X e (LE X.K m)) (hg : PG X tg (LG X.K g)) (hs : swapsWithSole [tg] e pos.line X.env = pure false := by rfl) (hw : swappedStores [tg] e X.env = pure none := by rfl) (h1 : (assignEach [tg] X.env).map (·.2) = [assign tg X.env] := by rfl) : PS X (.Assign [tg] e pos) (LS X.K (mAsg m g)) :=
  PS.imp (ps_asg he hg hs hw h1) fun D' σ H ⟨ρ, S, G, E, vw, re, hm, ok⟩ => ⟨ρ, S, G, _, vw, re, hm, fun d S' v H' G' a r q => ⟨ρ, S', G', d, _, a.vw, re.mono a.gg, r, q, fun ρ' S2 σ' H2 G2 a2 r2 q2 => ok.nx ρ' S2 σ' H2 G2 (a.trans a2) r2 q2⟩⟩
def mSet (i : Nat) (m : VE) : VS := fun E ρ S => m ρ S fun d S1 => E.nx (ρ.set i (some d)) S1
theorem s_set (i : Nat) {x : Str} {e : Expr} {m : VE} {pos pos' : Pos} (hN : X.N.Nodup) (hi : X.N[i]? = some x) (hx : Loc X.env.scope x) (he : PE X e (LE X.K m)) (hs : swapsWith e (some (.Name x pos')) pos.line X.env = pure false := by rfl) (hf : X.fn x = true ∨ X.env.scope.names.lookup x = some .local := by first | exact .inl rfl | exact .inr rfl | assumption) :
    PS X (.Assign [.Name x pos'] e pos) (LS X.K (mSet i m)) :=
  PS.imp (ps_set hN hi hx he hs hf) fun D' σ H ⟨ρ, S, G, E, vw, re, hm, ok⟩ => ⟨ρ, S, G, _, vw, re, hm, fun d S' v H' G' a r q => ok.nx _ S' _ H' G' a ((re.mono a.gg).set r) q⟩
/-- names, or a tuple of names -/
inductive CT where
  | one (i : Nat) | many (is : List Nat)
def gNames : List Nat → TGs
  | [] => gNil
  | i :: is => gCons (gName i) (gNames is)
def gCT (K : PySem.W.Frag) : CT → TG
  | .one i => gName i
  | .many is => gTup K is.length (gNames is)
def mCT (c : CT) (d : D) (ρ : Sl) : Option Sl := match c, d with
  | .one i, d => some (ρ.set i (some d))
  | .many is, .tup ds => if ds.length = is.length then some (setAll ρ is ds) else none
  | .many _, _ => none
def CT.within (vs : List Nat) : CT → Prop
  | .one i => i ∈ vs
  | .many is => ∀ i ∈ is, i ∈ vs
theorem gNames_ok {H : Hp} : ∀ {is : List Nat} {vs : List V} {σ : L2.St} {Qt : L2.St → Hp → Prop}, vs.length = is.length → Qt (setAll σ is vs) H → gNames is vs σ H Qt
  | [], [], _, _, _, q => ⟨rfl, q⟩
  | i :: is, v :: vs, _, _, h, q => ⟨v, vs, rfl, gNames_ok (is := is) (by simpa using h) q⟩
  | [], _ :: _, _, _, h, _ => by simp at h
  | _ :: _, [], _, _, h, _ => by simp at h
theorem wipe_get {σ : L2.St} (j : Nat) : ∀ vs : List Nat, (L2.wipe σ vs)[j]? = if j ∈ vs ∧ j < σ.length then some none else σ[j]?
  | [] => by simp [L2.wipe]
  | v :: vs => by
    have ih := wipe_get (σ := σ) j vs
    unfold L2.wipe
    rw [List.getElem?_set]
    by_cases hv : v = j
    · subst hv
      rw [if_pos rfl, wipe_length]
      by_cases hl : v < σ.length
      · rw [if_pos hl, if_pos ⟨List.mem_cons_self, hl⟩]
      · rw [if_neg hl, if_neg (fun z => hl z.2), List.getElem?_eq_none (Nat.le_of_not_lt hl)]
    · rw [if_neg hv, ih]
      by_cases hm : j ∈ vs
      · simp [hm]
      · simp [hm, Ne.symm hv]
theorem wipe_eq {σ σ' : L2.St} {vs : List Nat} (hl : σ.length = σ'.length) (h : ∀ j, j ∉ vs → σ[j]? = σ'[j]?) : L2.wipe σ vs = L2.wipe σ' vs := by
  apply List.ext_getElem?
  intro j
  rw [wipe_get, wipe_get, hl]
  by_cases hj : j ∈ vs
  · by_cases hl2 : j < σ'.length
    · rw [if_pos ⟨hj, hl2⟩, if_pos ⟨hj, hl2⟩]
    · rw [if_neg (fun z => hl2 z.2), if_neg (fun z => hl2 z.2), List.getElem?_eq_none (by omega), List.getElem?_eq_none (by omega)]
  · rw [if_neg (fun z => hj z.1), if_neg (fun z => hj z.1), h j hj]
theorem setAll_length {α : Type} : ∀ {is : List Nat} {vs : List α} {σ : List (Option α)}, (setAll σ is vs).length = σ.length
  | [], _, _ => rfl
  | _ :: _, [], _ => rfl
  | i :: is, v :: vs, σ => by unfold setAll; rw [setAll_length (is := is)]; simp
theorem setAll_out {α : Type} {j : Nat} : ∀ {is : List Nat} {vs : List α} {σ : List (Option α)}, j ∉ is → (setAll σ is vs)[j]? = σ[j]?
  | [], _, _, _ => rfl
  | _ :: _, [], _, _ => rfl
  | i :: is, v :: vs, σ, h => by
    unfold setAll
    rw [setAll_out (is := is) (fun z => h (List.mem_cons_of_mem _ z)), List.getElem?_set_ne (fun z => h (by rw [z]; exact List.mem_cons_self))]
theorem gCT_ok {K : PySem.W.Frag} {G H : Hp} {c : CT} {d : D} {v : V} {σ : L2.St} {ρ ρ3 : Sl} (g : Same G H) (re : REnv K G σ ρ) (r : Rp K G v d) (h : mCT c d ρ = some ρ3) :
    ∃ σ3, REnv K G σ3 ρ3 ∧ (∀ vs, c.within vs → L2.wipe σ3 vs = L2.wipe σ vs) ∧ ∀ Qt, Qt σ3 H → gCT K c v σ H Qt := by
  cases c with
  | one i =>
    simp only [mCT, Option.some.injEq] at h
    subst h
    refine ⟨_, re.set r, fun vs hi => wipe_eq (by simp) fun j hj => ?_, fun Qt q => q⟩
    rw [List.getElem?_set_ne (fun z => hj (by rw [← z]; exact hi))]
  | many is =>
    cases r with
    | @tup a xs ds ht l =>
      simp only [mCT] at h
      split at h
      · rename_i hl
        cases h
        refine ⟨setAll σ is xs, re.setAll l, fun vs hi => wipe_eq setAll_length fun j hj => setAll_out fun z => hj (hi j z), fun Qt q => ⟨a, xs, rfl, same_t g ht, by rw [l.length]; exact hl, gNames_ok (by rw [l.length]; exact hl) q⟩⟩
      · cases h
    | _ => simp [mCT] at h
/-- a, b = e -/
def mUnp (is : List Nat) (m : VE) : VS := fun E ρ S => m ρ S fun d S1 => match mCT (.many is) d ρ with
  | some ρ' => E.nx ρ' S1
  | none => False
theorem s_unp {is : List Nat} {tg e : Expr} {m : VE} {pos : Pos} (he : PE X e (LE X.K m)) (hg : PG X tg (gCT X.K (.many is))) (hs : swapsWithSole [tg] e pos.line X.env = pure false := by rfl) (hw : swappedStores [tg] e X.env = pure none := by rfl) (h1 : (assignEach [tg] X.env).map (·.2) = [assign tg X.env] := by rfl) : PS X (.Assign [tg] e pos) (LS X.K (mUnp is m)) := by
  refine PS.imp (ps_asg he hg hs hw h1) fun D' σ H ⟨ρ, S, G, E, vw, re, hm, ok⟩ => ⟨ρ, S, G, _, vw, re, hm, fun d S' v H' G' a r q => ?_⟩
  split at q
  · rename_i ρ' e
    obtain ⟨σ3, r3, _, k3⟩ := gCT_ok a.vw.gh (re.mono a.gg) r e
    exact k3 _ (ok.nx ρ' S' σ3 H' G' a r3 q)
  · exact q.elim
/-- o[i] = e, o a list of the store -/
def gSetIx (mo mi : VE) : VG := fun d ρ S Q => mo ρ S fun o S1 => mi ρ S1 fun i S2 => match o, i with
  | .ref a, .int i => match S2 a with
    | some (.lst ds) => match ixN ds.length i with
      | some j => Q ρ (supd S2 a (.lst (ds.set j d)))
      | none => False
    | _ => False
  | _, _ => False
theorem g_setix {o i : Expr} {mo mi : VE} {pos : Pos} (ho : PE X o (LE X.K mo)) (hi : PE X i (LE X.K mi))
    (hg : PG X (.Subscript o i pos) (gSub (LE X.K mo) (LE X.K mi) rSetL)) : PG X (.Subscript o i pos) (LG X.K (gSetIx mo mi)) := by
  refine PG.imp hg fun v σ H Q' ⟨ρ, S, G, d, Q, vw, re, rd, hm, k⟩ => ?_
  refine ⟨ρ, S, G, _, vw, re, hm, fun o S1 vo H1 G1 a1 r1 h1 => ?_⟩
  refine ⟨ρ, S1, G1, _, a1.vw, re.mono a1.gg, h1, fun i S2 vi H2 G2 a2 r2 h2 => ?_⟩
  split at h2
  · rename_i a i
    cases r1; cases r2
    split at h2
    · rename_i ds e
      split at h2
      · rename_i j ej
        obtain ⟨_, u, hu, ku⟩ := a2.vw.st _ _ e
        cases ku with
        | lst l =>
          have a3 := a2.vw.wrote (o' := .lst (ds.set j d)) e (.lst (l.set ((rd.mono a1.gg).mono a2.gg) j))
          exact ⟨_, _, _, j, rfl, rfl, hu, by rw [l.length]; exact ej, k ρ _ σ _ _ (a1.trans (a2.trans a3)) (re.mono (a1.trans (a2.trans a3)).gg) h2⟩
      · exact h2.elim
    · exact h2.elim
  · exact h2.elim
structure Walks (K : PySem.W.Frag) (G1 : Hp) (kp : Store → Prop) (J : It) (ds : List D) : Prop where
  stop : ∀ (H G : Hp) (S : Store), Same G1 G → View K G S H → kp S → J.stop ds.length H
  goes : ∀ (i : Nat) (H G : Hp) (S : Store), i < ds.length → Same G1 G → View K G S H → kp S → J.go i H
  yld : ∀ (i : Nat) (d : D) (H : Hp) (x : V) (H' G : Hp) (S : Store), ds[i]? = some d → Same G1 G → View K G S H → kp S → J.yld i H x H' → ∃ G', Aft K G S H S H' G' ∧ Rp K G' x d
abbrev VW := Sl → Store → (List D → (Store → Prop) → Store → Prop) → Prop
def LI (K : PySem.W.Frag) (m : VW) : TI := fun σ H R => ∃ ρ S G Q, View K G S H ∧ REnv K G σ ρ ∧ m ρ S Q ∧ ∀ ds kp S' H' G' J, Aft K G S H S' H' G' → Walks K G' kp J ds → Q ds kp S' → R J H'
theorem PI.imp {tg it : Expr} {w w' : TI} (h : PI X tg it w) (i : ∀ σ H R, w' σ H R → w σ H R) : PI X tg it w' := ⟨fun pins s σ H R I q => h.run pins s σ H R I (i σ H R q)⟩
theorem walks_list {K : PySem.W.Frag} {G1 : Hp} {kp : Store → Prop} {a : Addr} {xs : List V} {ds : List D} (hs : ∀ (H G : Hp) (S : Store), Same G1 G → View K G S H → kp S → ∃ xs, SqL K H a xs ∧ RpL K G xs ds) : Walks K G1 kp (Itl K a) ds where
  stop := fun H G S g v k => by
    obtain ⟨xs, q, l⟩ := hs H G S g v k
    exact ⟨xs, q, Nat.le_of_eq l.length⟩
  goes := fun i H G S hi g v k => by
    obtain ⟨xs, q, l⟩ := hs H G S g v k
    exact ⟨xs, xs[i]'(by rw [l.length]; exact hi), q, by simp⟩
  yld := fun i d H x H' G S hd g v k y => by
    obtain ⟨xs, q, l⟩ := hs H G S g v k
    obtain ⟨e, y⟩ := y
    subst e
    obtain ⟨w, hw, r⟩ := l.get hd
    rw [y xs q] at hw
    cases hw
    exact ⟨G, Aft.refl v, r⟩
theorem walks_tup {K : PySem.W.Frag} {G1 : Hp} {a : Addr} {xs : List V} {ds : List D} (ht : SqT K G1 a xs) (l : RpL K G1 xs ds) : Walks K G1 (fun _ => True) (Itt K a) ds where
  stop := fun H G S g v k => ⟨xs, same_t (g.trans v.gh) ht, Nat.le_of_eq l.length⟩
  goes := fun i H G S hi g v k => ⟨xs, xs[i]'(by rw [l.length]; exact hi), same_t (g.trans v.gh) ht, by simp⟩
  yld := fun i d H x H' G S hd g v k y => by
    obtain ⟨e, y⟩ := y
    subst e
    obtain ⟨w, hw, r⟩ := l.get hd
    rw [y xs (same_t (g.trans v.gh) ht)] at hw
    cases hw
    exact ⟨G, Aft.refl v, r.mono g⟩
/-- a list or a tuple -/
def mSq (m : VE) : VW := fun ρ S Q => m ρ S fun d S1 => match d with
  | .tup ds => Q ds (fun _ => True) S1
  | .lst ds => Q ds (fun _ => True) S1
  | .ro ds => Q ds (fun _ => True) S1
  | .ref a => match S1 a with
    | some (.lst ds) => Q ds (fun S2 => S2 a = some (.lst ds)) S1
    | _ => False
  | _ => False
/-- what walks a list or a tuple, by values -/
def iSeq (K : PySem.W.Frag) (tl : TE) : TI := fun σ H R => tl σ H fun x H1 => ∃ a, x = .ref a ∧ (((∃ xs, SqL K H1 a xs) ∧ R (Itl K a) H1) ∨ ((∃ xs, SqT K H1 a xs) ∧ R (Itt K a) H1))
theorem pi_seq {tg it : Expr} {t : TE} (h : PE X it t) : PI X tg it (iSeq X.K t) := by
  refine ⟨fun pins s σ H R I q => thn (h.run pins s σ H _ I q) fun u s1 ⟨x, H1, I1, r1, a, ex, q1⟩ => ?_⟩
  subst ex
  cases r1
  have ok : ∀ b ∈ [s1.heap.objs.size], FpOk X pins H1 b := fun b hb => by
    rw [List.mem_singleton.mp hb]
    exact I1.fpOk (Nat.le_refl _) (I1.hok.fresh (Nat.le_refl _))
  rcases q1 with ⟨⟨xs, hq⟩, q⟩ | ⟨⟨xs, hq⟩, q⟩
  · obtain ⟨its, rv, p, hz⟩ := I1.list hq
    exact wpAny_pyIter_list p.isList ⟨_, [s1.heap.objs.size], _, _, H1, rfl, I1.kept (t' := s1.toks) (fun _ _ z => Heap.get?_push_of_some _ z), turn_list a _, ⟨_, Heap.get?_push_size _ rfl, rfl, rfl⟩, ok, q⟩
  · obtain ⟨its, rv, p, hz⟩ := I1.tuple hq
    exact wpAny_pyIter_tuple (show s1.heap.IsTuple a its.toArray from p) ⟨_, [s1.heap.objs.size], _, _, H1, rfl, I1.kept (t' := s1.toks) (fun _ _ z => Heap.get?_push_of_some _ z), turn_tuple a _, ⟨_, Heap.get?_push_size _ rfl, rfl, rfl⟩, ok, q⟩
theorem i_seq {tg it : Expr} {m : VE} (h : PE X it (LE X.K m)) : PI X tg it (LI X.K (mSq m)) := by
  refine PI.imp (pi_seq h) fun σ H R ⟨ρ, S, G, Q, vw, re, hm, k⟩ => ?_
  refine ⟨ρ, S, G, _, vw, re, hm, fun d S1 v1 H1 G1 a1 r1 h1 => ?_⟩
  cases r1 with
  | @tup a xs ds ht l => exact ⟨a, rfl, .inr ⟨⟨xs, same_t a1.vw.gh ht⟩, k ds _ S1 H1 G1 _ a1 (walks_tup ht l) h1⟩⟩
  | @lst a xs ds ht l => exact ⟨a, rfl, .inl ⟨⟨xs, SqL.of (a1.vw.gh _ _ ht)⟩, k ds _ S1 H1 G1 _ a1 (walks_list (xs := xs) fun H G S g v _ => ⟨xs, SqL.of (v.gh _ _ (g _ _ ht)), l.mono g⟩) h1⟩⟩
  | @ro a xs ds ht l => exact ⟨a, rfl, .inl ⟨⟨xs, a1.vw.gh.seq ht⟩, k ds _ S1 H1 G1 _ a1 (walks_list (xs := xs) fun H G S g v _ => ⟨xs, (g.trans v.gh).seq ht, l.mono g⟩) h1⟩⟩
  | ref a =>
    simp only at h1
    split at h1
    · rename_i ds e
      obtain ⟨_, u, hu, ku⟩ := a1.vw.st _ _ e
      cases ku with
      | @lst xs _ l =>
        refine ⟨a, rfl, .inl ⟨⟨xs, SqL.of hu⟩, k ds _ S1 H1 G1 _ a1 (walks_list (xs := xs) fun H G S g v e2 => ?_) h1⟩⟩
        obtain ⟨_, u2, hu2, ku2⟩ := v.st _ _ e2
        cases ku2 with
        | @lst ys _ l2 => exact ⟨ys, SqL.of hu2, l2⟩
    · exact h1.elim
  | non => exact h1.elim
  | bl => exact h1.elim
  | int => exact h1.elim
  | str => exact h1.elim
  | dct => exact h1.elim
/-- range(n), range(a, b) -/
def rngD (lo : Int) (n : Nat) : List D := (List.range n).map fun i => .int (lo + (i : Nat))
theorem walks_rng {K : PySem.W.Frag} {G1 : Hp} {lo : Int} {n : Nat} : Walks K G1 (fun _ => True) (Itr lo n) (rngD lo n) where
  stop := fun H G S g v k => by show n ≤ (rngD lo n).length; simp [rngD]
  goes := fun i H G S hi g v k => by show i < n; simpa [rngD] using hi
  yld := fun i d H x H' G S hd g v k y => by
    obtain ⟨e1, e2⟩ := y
    subst e1 e2
    have hi : i < n := by have := getE hd; simpa [rngD] using this
    simp [rngD, hi] at hd
    subst hd
    exact ⟨G, Aft.refl v, .int _⟩
def mRng1 (m : VE) : VW := fun ρ S Q => m ρ S fun d S1 => match d with
  | .int j => -(2 ^ 62) ≤ j ∧ j < 2 ^ 62 ∧ Q (rngD 0 j.toNat) (fun _ => True) S1
  | _ => False
theorem i_rng1 {tg : Expr} {x : Str} {p pos : Pos} {e : Expr} {m : VE} (hg : Gl X x) (hm : X.mg "range" = none) (h : PE X e (LE X.K m)) (w : PI X tg (.Call (.Name x p) [e] [] pos) (iRng1 (tCons (LE X.K m) tNil))) :
    PI X tg (.Call (.Name x p) [e] [] pos) (LI X.K (mRng1 m)) := by
  refine PI.imp w fun σ H R ⟨ρ, S, G, Q, vw, re, hm, k⟩ => ?_
  refine ⟨ρ, S, G, _, vw, re, hm, fun d S1 v1 H1 G1 a1 r1 h1 => ?_⟩
  cases r1 <;> try exact h1.elim
  rename_i j
  exact ⟨j, rfl, h1.1, h1.2.1, k _ _ S1 H1 G1 _ a1 walks_rng h1.2.2⟩
def mFor (c : CT) (mi : VW) (mb : VS) : VS := fun E ρ S => mi ρ S fun ds kp S1 => ∃ I : Nat → Sl → Store → Prop, I 0 ρ S1 ∧ ∀ i ρ2 S2, I i ρ2 S2 → kp S2 ∧ match ds[i]? with
  | none => E.nx ρ2 S2
  | some d => match mCT c d ρ2 with
    | some ρ3 => mb (E.loop (I (i + 1))) ρ3 S2
    | none => False
theorem s_for {c : CT} {tg iter : Expr} {body : List Stmt} {mi : VW} {mb : VS} {pos : Pos} (hp : PassesOwn (model X.prog X.w) X.A X.env X.xe) (hc : X.calm = true) (hi : PI X tg iter (LI X.K mi)) (hg : PG X tg (gCT X.K c)) (hb : PSs X body (LS X.K mb))
    (hs : ∀ x, foldedSetIterable iter X.env x = pure x := by intro _; rfl) : PS X (.For tg iter body [] pos) (LS X.K (mFor c mi mb)) := by
  refine PS.imp (ps_for hp hc hi hg hb hs) fun D' σ H ⟨ρ, S, G, E, vw, re, hm, ok⟩ => ?_
  refine ⟨ρ, S, G, _, vw, re, hm, fun ds kp S1 H1 G1 J a1 wk ⟨I, I0, step⟩ => ?_⟩
  refine ⟨fun i m σ2 H2 => m = ds.length - i ∧ i ≤ ds.length ∧ ∃ ρ2 S2 G2, Aft X.K G1 S1 H1 S2 H2 G2 ∧ REnv X.K G2 σ2 ρ2 ∧ I i ρ2 S2, ⟨_, rfl, Nat.zero_le _, ρ, S1, G1, Aft.refl a1.vw, re.mono a1.gg, I0⟩, ?_⟩
  rintro i m σ2 H2 ⟨rfl, hi, ρ2, S2, G2, a2, r2, h2⟩
  obtain ⟨hk, st⟩ := step i ρ2 S2 h2
  by_cases hlt : i < ds.length
  · have e : ds[i]? = some ds[i] := by simp
    rw [e] at st
    simp only at st
    split at st
    · rename_i ρ3 eb
      refine .inr ⟨wk.goes i H2 G2 S2 hlt a2.gg a2.vw hk, fun σ' H' => ∃ ρ' S' G', Aft X.K G1 S1 H1 S' H' G' ∧ REnv X.K G' σ' ρ' ∧ I (i + 1) ρ' S', ?_, fun x H3 hy => ?_⟩
      · rintro σ' H' ⟨ρ', S', G', a', r', h'⟩
        exact ⟨ds.length - (i + 1), by omega, rfl, hlt, ρ', S', G', a', r', h'⟩
      · obtain ⟨G3, a3, rx⟩ := wk.yld i ds[i] H2 x H3 G2 S2 e a2.gg a2.vw hk hy
        obtain ⟨σ3, r3, _, k3⟩ := gCT_ok a3.vw.gh (r2.mono a3.gg) rx eb
        have a13 := a2.trans a3
        refine k3 _ ⟨ρ3, S2, G3, _, a3.vw, r3, st, ⟨?_, ?_, ?_, ?_⟩⟩
        · exact fun ρ' S' σ' H' G' a' r' q => ⟨ρ', S', G', a13.trans a', r', q⟩
        · exact fun d S' v H' G' a' r' q => ok.rt d S' v H' G' (a1.trans (a13.trans a')) r' q
        · exact fun ρ' S' σ' H' G' a' r' q => ok.nx ρ' S' σ' H' G' (a1.trans (a13.trans a')) r' q
        · exact fun ρ' S' σ' H' G' a' r' q => ⟨ρ', S', G', a13.trans a', r', q⟩
    · exact st.elim
  · have ei : i = ds.length := by omega
    subst ei
    rw [List.getElem?_eq_none (Nat.le_refl _)] at st
    exact .inl ⟨wk.stop H2 G2 S2 a2.gg a2.vw hk, ok.nx ρ2 S2 σ2 H2 G2 (a1.trans a2) r2 st⟩
def mWhile (mc : VT) (mb : VS) : VS := fun E ρ S => ∃ I : Nat → Sl → Store → Prop, (∃ n, I n ρ S) ∧ ∀ n ρ2 S2, I n ρ2 S2 → mc ρ2 S2 fun b S3 => if b = true then mb (E.loop fun ρ' S' => ∃ m, m < n ∧ I m ρ' S') ρ2 S3 else E.nx ρ2 S3
theorem s_while {c : Expr} {body : List Stmt} {mc : VT} {mb : VS} {pos : Pos} (hp : PassesOwn (model X.prog X.w) X.A X.env X.xe) (hc : PT X c (LT X.K mc)) (hb : PSs X body (LS X.K mb)) : PS X (.While c body [] pos) (LS X.K (mWhile mc mb)) := by
  refine PS.imp (ps_while hp hc hb) fun D' σ H ⟨ρ, S, G, E, vw, re, ⟨I, ⟨n, I0⟩, step⟩, ok⟩ => ?_
  refine ⟨fun m σ2 H2 => ∃ ρ2 S2 G2, Aft X.K G S H S2 H2 G2 ∧ REnv X.K G2 σ2 ρ2 ∧ I m ρ2 S2, ⟨n, ρ, S, G, Aft.refl vw, re, I0⟩, ?_⟩
  rintro m σ2 H2 ⟨ρ2, S2, G2, a2, r2, h2⟩
  refine ⟨ρ2, S2, G2, _, a2.vw, r2, step m ρ2 S2 h2, fun b S3 H3 G3 a3 q => ?_⟩
  have a13 := a2.trans a3
  cases b with
  | true =>
    refine ⟨fun σ' H' => ∃ ρ' S' G', Aft X.K G S H S' H' G' ∧ REnv X.K G' σ' ρ' ∧ ∃ m', m' < m ∧ I m' ρ' S', ?_, ρ2, S3, G3, _, a3.vw, r2.mono a3.gg, q, ⟨?_, ?_, ?_, ?_⟩⟩
    · rintro σ' H' ⟨ρ', S', G', a', r', m', hm, h'⟩
      exact ⟨m', hm, ρ', S', G', a', r', h'⟩
    · exact fun ρ' S' σ' H' G' a' r' q => ⟨ρ', S', G', a13.trans a', r', q⟩
    · exact fun d S' v H' G' a' r' q => ok.rt d S' v H' G' (a13.trans a') r' q
    · exact fun ρ' S' σ' H' G' a' r' q => ok.nx ρ' S' σ' H' G' (a13.trans a') r' q
    · exact fun ρ' S' σ' H' G' a' r' q => ⟨ρ', S', G', a13.trans a', r', q⟩
  | false => exact ok.nx ρ2 S3 σ2 H3 G3 a13 (r2.mono a3.gg) q
def mYes : VT := fun _ S Q => Q true S
theorem PTs.imp {ifs : List Expr} {t t' : TT} (h : PTs X ifs t) (i : ∀ σ H Q, t' σ H Q → t σ H Q) : PTs X ifs t' := ⟨fun pins s σ H Q I q => h.run pins s σ H Q I (i σ H Q q)⟩
theorem ts_nil : PTs X [] (LT X.K mYes) := PTs.imp pts_nil fun σ H Q' ⟨ρ, S, G, Q, vw, re, hm, k⟩ => k true S H G (Aft.refl vw) hm
theorem ts_one {c : Expr} {m : VT} (h : PT X c (LT X.K m)) : PTs X [c] (LT X.K m) := pts_one h
/-- the turns of a comprehension; R: what is made of the list -/
def mLcG (c : CT) (mi : VW) (mt : VT) (me : VE) (vs : List Nat) (R : List D → Store → (D → Store → Prop) → Prop) : VE := fun ρ S Q => mi ρ S fun ds kp S1 => ds.length ≤ sizeLine ∧ ∃ I : Nat → List D → Store → Prop, I 0 [] S1 ∧ ∀ i acc S2, I i acc S2 → kp S2 ∧ match ds[i]? with
  | none => R acc S2 Q
  | some d => match mCT c d (wipeD ρ vs) with
    | some ρ3 => mt ρ3 S2 fun b S3 => if b = true then me ρ3 S3 fun y S4 => I (i + 1) (acc ++ [y]) S4 else I (i + 1) acc S3
    | none => False
def rFrz : List D → Store → (D → Store → Prop) → Prop := fun acc S Q => Q (.lst acc) S
def rMut : List D → Store → (D → Store → Prop) → Prop := fun acc S Q => ∀ a, S a = none → Q (.ref a) (supd S a (.lst acc))
def RecR (R : List D → Store → (D → Store → Prop) → Prop) : Prop := ∀ (K : PySem.W.Frag) (G : Hp) (S : Store) (H : Hp) (a : Addr) (xs : List V) (acc : List D) (Q : D → Store → Prop), View K G S H → H a = some (.lst xs) → S a = none → G a = none → RpL K G xs acc → R acc S Q →
  ∃ S' G' d, Q d S' ∧ View K G' S' H ∧ Same G G' ∧ Rp K G' (.ref a) d ∧ ∀ b, b ≠ a → S' b = S b ∧ G' b = G b
theorem recR_frz : RecR rFrz := fun K G S H a xs acc Q vw ha hs hg l q =>
  ⟨S, upd G a (.lst xs), .lst acc, q, ⟨fun b o e => by
    by_cases hb : b = a
    · subst hb; rw [upd_same] at e; cases e; exact ha
    · rw [upd_ne hb] at e; exact vw.gh b o e, fun b o e => by
    have hb : b ≠ a := by intro z; subst z; rw [hs] at e; cases e
    obtain ⟨g, u, hu, k⟩ := vw.st b o e
    exact ⟨by rw [upd_ne hb]; exact g, u, hu, k.mono fun c w e => by rw [upd_ne (ne_of_none e hg)]; exact e⟩⟩, fun c w e => by rw [upd_ne (ne_of_none e hg)]; exact e,
    .lst upd_same (l.mono fun c w e => by rw [upd_ne (ne_of_none e hg)]; exact e), fun b hb => ⟨rfl, upd_ne hb⟩⟩
theorem recR_mut : RecR rMut := fun K G S H a xs acc Q vw ha hs hg l q =>
  ⟨supd S a (.lst acc), G, .ref a, q a hs, ⟨vw.gh, fun b o e => by
    by_cases hb : b = a
    · subst hb; rw [supd_same] at e; cases e; exact ⟨hg, _, ha, .lst l⟩
    · rw [supd_ne hb] at e; exact vw.st b o e⟩, Same.refl G, .ref a, fun b hb => ⟨supd_ne hb, rfl⟩⟩
theorem le_lc {K : PySem.W.Frag} {c : CT} {mi : VW} {mt : VT} {me : VE} {vs : List Nat} {R : List D → Store → (D → Store → Prop) → Prop} (hR : RecR R) (hw : c.within vs) (σ : L2.St) (H : Hp) (Q' : VK) (q : LE K (mLcG c mi mt me vs R) σ H Q') : tLc (LI K mi) (gCT K c) (LT K mt) (LE K me) vs σ H Q' := by
  obtain ⟨ρ, S, G, Q, vw, re, hm, k⟩ := q
  refine ⟨ρ, S, G, _, vw, re, hm, fun ds kp S1 H1 G1 J a1 wk ⟨hz, I, I0, step⟩ L hL => ?_⟩
  have n0 := a1.vw.none hL
  refine ⟨fun i m H2 => m = ds.length - i ∧ i ≤ ds.length ∧ ∃ acc xs S2 G2, Aft K G1 S1 H1 S2 H2 G2 ∧ H2 L = some (.lst xs) ∧ S2 L = none ∧ G2 L = none ∧ RpL K G2 xs acc ∧ acc.length ≤ i ∧ I i acc S2,
    ⟨_, rfl, Nat.zero_le _, [], [], S1, G1, (Aft.refl a1.vw).junk hL n0.2 n0.1, upd_same, n0.2, n0.1, .nil, Nat.le_refl _, I0⟩, ?_⟩
  rintro i m H2 ⟨rfl, hi, acc, xs, S2, G2, a2, hH, hS, hG, l, hl, h2⟩
  obtain ⟨hk, st⟩ := step i acc S2 h2
  by_cases hlt : i < ds.length
  · have e : ds[i]? = some ds[i] := by simp
    rw [e] at st
    simp only at st
    split at st
    · rename_i ρ3 eb
      refine .inr ⟨wk.goes i H2 G2 S2 hlt a2.gg a2.vw hk, fun H' => ∃ acc xs S' G', Aft K G1 S1 H1 S' H' G' ∧ H' L = some (.lst xs) ∧ S' L = none ∧ G' L = none ∧ RpL K G' xs acc ∧ acc.length ≤ i + 1 ∧ I (i + 1) acc S', ?_, fun x H3 hy => ?_⟩
      · rintro H' ⟨acc', xs', S', G', a', z1, z2, z3, z4, z5, z6⟩
        exact ⟨ds.length - (i + 1), by omega, rfl, hlt, acc', xs', S', G', a', z1, z2, z3, z4, z5, z6⟩
      · obtain ⟨G3, a3, rx⟩ := wk.yld i ds[i] H2 x H3 G2 S2 e a2.gg a2.vw hk hy
        have r0 : REnv K G3 (L2.wipe σ vs) (wipeD ρ vs) := (re.mono (a1.gg.trans (a2.gg.trans a3.gg))).wipe vs
        obtain ⟨σ3, r3, w3, k3⟩ := gCT_ok a3.vw.gh r0 rx eb
        have a13 := a2.trans a3
        obtain ⟨h3, s3, g3⟩ := a3.fr L _ hS hH
        refine k3 _ ⟨?_, ρ3, S2, G3, _, a3.vw, r3, st, fun b S4 H4 G4 a4 q4 => ?_⟩
        · rw [w3 vs hw]
          exact wipe_eq (wipe_length σ vs) fun j hj => by rw [wipe_get, if_neg (fun z => hj z.1)]
        · have a14 := a13.trans a4
          obtain ⟨h4, s4, g4⟩ := a4.fr L _ hS h3
          have l4 := (l.mono a3.gg).mono a4.gg
          cases b with
          | true =>
            refine ⟨ρ3, S4, G4, _, a4.vw, r3.mono a4.gg, q4, fun y S5 v H5 G5 a5 r5 q5 => ?_⟩
            obtain ⟨h5, s5, g5⟩ := a5.fr L _ s4 h4
            refine ⟨xs, h5, by have := l.length; omega, acc ++ [y], xs ++ [v], S5, G5, ((a14.trans a5)).junk hL s5 (by rw [g5, g4, g3]; exact hG), upd_same, s5, by rw [g5, g4, g3]; exact hG, (l4.mono a5.gg).append (.cons r5 .nil), by simp; exact hl, q5⟩
          | false => exact ⟨acc, xs, S4, G4, a14, h4, s4, by rw [g4, g3]; exact hG, l4, by omega, q4⟩
    · exact st.elim
  · have ei : i = ds.length := by omega
    subst ei
    rw [List.getElem?_eq_none (Nat.le_refl _)] at st
    refine .inl ⟨wk.stop H2 G2 S2 a2.gg a2.vw hk, ?_⟩
    obtain ⟨S', G', d, qd, v', gg, rd, ot⟩ := hR K G2 S2 H2 L xs acc Q a2.vw hH hS hG l st
    have a12 := a1.trans a2
    refine k d S' (.ref L) H2 G' ⟨fun b o hb eb => ?_, a12.gg.trans gg, v'⟩ rd qd
    obtain ⟨e1, e2, e3⟩ := a12.fr b o hb eb
    have hbL : b ≠ L := by
      intro z
      subst z
      have := (a1.fr b o hb eb).1
      rw [hL] at this
      cases this
    exact ⟨e1, by rw [(ot b hbL).1]; exact e2, by rw [(ot b hbL).2]; exact e3⟩
section
variable {c : CT} {elt tg iter : Expr} {ifs : List Expr} {scope : Scope} {own : List (Str × Nat)} {pos : Pos} {mi : VW} {mt : VT} {me : VE} {R : List D → Store → (D → Store → Prop) → Prop}
theorem v_lc (hR : RecR R) (hw : c.within (own.map (·.2))) (hc : X.calm = true) (hN : X.N.Nodup) (hi : PI X tg iter (LI X.K mi)) (ok : BlkOk X.N X.env.scope scope own)
    (hg : ∀ (s : Shared) (H : Hp) (C : Addr) (cl : List (Str × Addr)) (fp : List Addr), PG (X.blk s H scope (compEnvC scope cl C X.env) fp) tg (gCT X.K c)) (ht : ∀ (s : Shared) (H : Hp) (C : Addr) (cl : List (Str × Addr)) (fp : List Addr), PTs (X.blk s H scope (compEnvC scope cl C X.env) fp) ifs (LT X.K mt))
    (he : ∀ (s : Shared) (H : Hp) (C : Addr) (cl : List (Str × Addr)) (fp : List Addr), PE (X.blk s H scope (compEnvC scope cl C X.env) fp) elt (LE X.K me)) (hs : ∀ x, foldedSetIterable iter X.env x = pure x := by intro _; rfl) :
    PE X (.ListComp elt [⟨tg, iter, ifs, 0⟩] scope pos) (LE X.K (mLcG c mi mt me (own.map (·.2)) R)) :=
  PE.imp (pe_lc hc hN hi ok hg ht he hs) fun σ H Q' q => le_lc hR hw σ H Q' q
theorem s_setLc {i : Nat} {y : Str} {py spos : Pos} (hR : RecR R) (hw : c.within (own.map (·.2))) (hc : X.calm = true) (hN : X.N.Nodup) (hy : X.N[i]? = some y) (hyl : X.env.scope.names.lookup y = some .local)
    (hsw : swapsWith (.ListComp elt [⟨tg, iter, ifs, 0⟩] scope pos) (some (.Name y py)) spos.line X.env = pure true) (hi : PI X tg iter (LI X.K mi)) (ok : BlkOk X.N X.env.scope scope own)
    (hg : ∀ (s : Shared) (H : Hp) (C : Addr) (cl : List (Str × Addr)) (fp : List Addr), PG (X.blk s H scope (compEnvC scope cl C X.env) fp) tg (gCT X.K c)) (ht : ∀ (s : Shared) (H : Hp) (C : Addr) (cl : List (Str × Addr)) (fp : List Addr), PTs (X.blk s H scope (compEnvC scope cl C X.env) fp) ifs (LT X.K mt))
    (he : ∀ (s : Shared) (H : Hp) (C : Addr) (cl : List (Str × Addr)) (fp : List Addr), PE (X.blk s H scope (compEnvC scope cl C X.env) fp) elt (LE X.K me)) (hs : ∀ x, foldedSetIterable iter X.env x = pure x := by intro _; rfl) :
    PS X (.Assign [.Name y py] (.ListComp elt [⟨tg, iter, ifs, 0⟩] scope pos) spos) (LS X.K (mSet i (mLcG c mi mt me (own.map (·.2)) R))) :=
  PS.imp (ps_setLc hc hN hy hyl hsw hi ok hg ht he hs) fun D' σ H ⟨ρ, S, G, E, vw, re, hm, ok⟩ => le_lc hR hw σ H _ ⟨ρ, S, G, _, vw, re, hm, fun d S' v H' G' a r q => ok.nx _ S' _ H' G' a ((re.mono a.gg).set r) q⟩
end
end
end VL
set_option maxHeartbeats 2000000
namespace VL
open PySem PySem.Spec L2
open PyProof.Rows hiding St
section
variable {X : Cx}
def mApp (mo me : VE) : VE := fun ρ S Q => mo ρ S fun o S1 => match o with
  | .ref a => (∃ ds, S1 a = some (.lst ds)) ∧ me ρ S1 fun d S2 => match S2 a with
    | some (.lst ds) => ds.length < sizeLine ∧ Q .non (supd S2 a (.lst (ds ++ [d])))
    | _ => False
  | _ => False
theorem v_app {o e : Expr} {mo me : VE} {apos cpos : Pos} (ho : PE X o (LE X.K mo)) (he : PE X e (LE X.K me))
    (w : PE X (.Call (.Attribute o "append" apos) [e] [] cpos) (tBM X.K "list" rAppend (LE X.K mo) (tCons (LE X.K me) tNil))) : PE X (.Call (.Attribute o "append" apos) [e] [] cpos) (LE X.K (mApp mo me)) := by
  refine PE.imp w fun σ H Q' ⟨ρ, S, G, Q, vw, re, hm, k⟩ => ?_
  refine ⟨ρ, S, G, _, vw, re, hm, fun o S1 v1 H1 G1 a1 r1 h1 => ?_⟩
  cases r1 <;> try exact h1.elim
  rename_i a
  obtain ⟨⟨ds0, e0⟩, h1⟩ := h1
  obtain ⟨_, u0, hu0, k0⟩ := a1.vw.st _ _ e0
  cases k0 with
  | lst l0 =>
    refine ⟨.inl ⟨rfl, _, SqL.of hu0⟩, ρ, S1, G1, _, a1.vw, re.mono a1.gg, h1, fun d S2 v2 H2 G2 a2 r2 h2 => ?_⟩
    split at h2
    · rename_i ds e
      obtain ⟨_, u, hu, ku⟩ := a2.vw.st _ _ e
      cases ku with
      | lst l =>
        have a3 := a2.vw.wrote (o' := .lst (ds ++ [d])) e (.lst (l.append (.cons r2 .nil)))
        exact ⟨a, _, v2, rfl, rfl, hu, by rw [l.length]; exact h2.1, k _ _ _ _ _ (a1.trans (a2.trans a3)) .non h2.2⟩
    · exact h2.elim
theorem claw {P : Program} {w : World} {K : PySem.W.Frag} {mg mb : Str → Option Value} {k : Nat} {fa a : Addr} {x nm : Str} {sp : VSp} {s₁ : Shared} {vs : List Value} {ns : List Int}
    (KX : K.In s₁.heap) (hns : s₁.heap.Ns mainGlobals mg) (hb : s₁.heap.Ns builtinsNs mb) (hbb : ∀ x : Str, x ≠ "__name__" → mb x = bootBuiltins x) (hlim : s₁.heap.NoLimit) (hg : s₁.gens = #[])
    (ha : s₁.heap.get? a = some { cls := .type "list", data := .seq vs.toArray }) (hi : IntsAre vs ns) (hl : ns.length ≤ sizeLine) (hr : Room k callerA) (hfa : mg nm = some (.ref fa))
    (F : ∀ base : Heap, K.In base → base.Ns mainGlobals mg → DefV P w K mg base k nm [x] sp)
    (hsp : ∀ Q : D → Store → Prop, (∀ S, Q (.bl true) S) → sp [.ro (ns.map D.int)] (fun _ => none) Q) :
    codeAny (model P w) callerA (.call (.ref fa) ⟨[.ref a], []⟩) (fun r s' => r = .ok (.ret (.bool true)) ∧ OldK s₁.heap s'.heap ∧ s'.os = s₁.os ∧ AllBare s'.gens) s₁ := by
  have rints : ∀ (G : Hp) (ns : List Int), RpL K G (ns.map V.int) (ns.map D.int) := fun G ns => by
    induction ns with
    | nil => exact .nil
    | cons n ns ih => exact .cons (.int n) ih
  have lenV := hi.length
  let Hs : Hp := fun b => if b = a then some (.frz { cls := .type "list", data := .seq vs.toArray } (.lst (ns.map V.int))) else none
  -- nothing is told of but the script, and not even that where the module itself has it
  suffices main : ∀ H : Hp, (∀ b, H b = none ∨ b = a ∧ H b = Hs a) → SqL K H a (ns.map V.int) → HOk P w H s₁.heap → (H a ≠ none → K.lookup a = none) →
      codeAny (model P w) callerA (.call (.ref fa) ⟨[.ref a], []⟩) (fun r s' => r = .ok (.ret (.bool true)) ∧ OldK s₁.heap s'.heap ∧ s'.os = s₁.os ∧ AllBare s'.gens) s₁ by
    cases hk : K.lookup a with
    | some o =>
      have e := (KX a o hk).symm.trans ha
      cases e
      exact main (fun _ => none) (fun _ => .inl rfl) (.inr ⟨_, vs.toArray, _, hk, rfl, rfl, rfl, by rw [List.size_toArray, lenV]; exact hl, vals_ints hi⟩) (fun _ _ z => nomatch z) fun z => absurd rfl z
    | none =>
      refine main Hs (fun b => ?_) (.inl (.inr ⟨_, if_pos rfl⟩)) (fun b u z => ?_) fun _ => hk
      · by_cases h : b = a
        · exact .inr ⟨h, by rw [h]⟩
        · exact .inl (if_neg h)
      · by_cases h : b = a
        · subst h
          have z' : some (HO.frz { cls := .type "list", data := .seq vs.toArray } (.lst (ns.map V.int))) = some u := (if_pos rfl).symm.trans z
          cases z'
          exact ⟨ha, by rw [List.length_map]; exact hl, vs, _, vals_ints hi, ha⟩
        · cases (if_neg h).symm.trans z
  intro H hO hS hok hK
  have notdict : ∀ {b : Addr} {o : Obj}, s₁.heap.get? b = some o → (∀ vs n, o.data ≠ .seq vs n) → H b = none := fun {b o} e d => (hO b).elim id fun ⟨z, _⟩ => by
    subst z
    rw [ha] at e
    cases e
    exact absurd rfl (d _ _)
  have nsK : ∀ {b : Addr} {m : Str → Option Value}, s₁.heap.Ns b m → (hidT s₁.heap H).Ns b m := fun ⟨o, es, ep, e, d, r⟩ => ⟨o, es, ep, hidT_get e (notdict e fun _ _ z => by rw [d] at z; cases z), d, r⟩
  have hKb : K.In (hidT s₁.heap H) := fun b o e => hidT_get (KX b o e) ((hO b).elim id fun ⟨z, _⟩ => by
    subst z
    cases q : H b with
    | none => rfl
    | some u => rw [hK (by rw [q]; exact nofun)] at e; cases e)
  have e0 : Env0 P w K mg (hidT s₁.heap H) callerA [] s₁ H := ⟨rfl, ⟨hKb, nsK hns, ⟨mb, nsK hb, hbb⟩, hlim.elim fun mc h => ⟨mc, nsK h.1, h.2⟩⟩, fun b o e => of_hidT e, Nat.le_of_eq (hidT_size _ _), trivial, fun b hb => (nomatch hb), hok, .of_eq hg⟩
  obtain ⟨f, fd, hm, hk, bd, G⟩ := (F _ hKb (nsK hns)).ex
  cases hfa.symm.trans hm
  refine codeAny_mono (G.go callerA [] s₁ H ⟨[.ref a], []⟩ [.ref a] [.ref a] (fun v _ => v = .bl true) (fun _ _ _ => False) hr rfl e0 (by simpa using bd s₁ [.ref a] KX rfl) (.cons rfl .nil)
    ⟨rfl, [.ro (ns.map D.int)], fun _ => none, H, fun d _ => d = .bl true, ⟨Same.refl H, fun _ _ z => nomatch z⟩, .cons (.ro hS (rints H ns)) .nil, hsp _ fun _ => rfl, fun d S' v H' G' _ r q => by subst q; cases r; rfl⟩) fun r s' h => ?_
  match r, h with
  | .error e, h => exact (show False from h).elim
  | .ok .next, h => exact (show False from h).elim
  | .ok .brk, h => exact (show False from h).elim
  | .ok .cont, h => exact (show False from h).elim
  | .ok (.ret u), ⟨v, H', os, bare, un, hok', r', q⟩ =>
    subst q
    obtain rfl : u = Value.bool true := r'
    refine ⟨rfl, OldK.of_keep fun b o e => ?_, os, bare⟩
    rcases hO b with z | ⟨z, z2⟩
    · exact un.keep b o e z (fun z => (nomatch z)) (by simp)
    · have z3 : H b = some (.frz { cls := .type "list", data := .seq vs.toArray } (.lst (ns.map V.int))) := z2.trans (if_pos rfl)
      obtain ⟨e1, _⟩ := hok b _ z3
      obtain ⟨e2, _⟩ := hok' b _ (un.frzs b _ _ z3)
      rw [e] at e1
      cases e1
      exact e2
/-- the end: from the promise of the law's def -/
theorem vwalk {l : PySem.W.OpenLaw} {n k : Nat} {q : Program} {loose : List Str} {XP : (Str → Option Value) → Heap → Prop} {YP : World → Heap → Prop} {d : DefRec} {K : Params → PySem.W.Frag} {sp : VSp} {x : Str}
    (hn : l.most = some n) (hn2 : n ≤ sizeLine) (hdf : d.params.defaults = []) (hr : Room k callerA) (hY : ∀ (w : World) (h : Heap), YP w h → (K w.params).In h)
    (F : ∀ (w : World) (mg : Str → Option Value) (h : Heap), (K w.params).In h → h.Ns mainGlobals mg → ∀ base : Heap, (K w.params).In base → base.Ns mainGlobals mg → DefV l.prog w (K w.params) mg base k d.name [x] sp)
    (hsp : ∀ (ns : List Int), ns.length ≤ n → ∀ Q : D → Store → Prop, (∀ S, Q (.bl true) S) → sp [.ro (ns.map D.int)] (fun _ => none) Q) : PySem.W.WalkO q loose XP YP l.row.toRowW d [] (fun f vs => PySem.call f vs) :=
  Att.attach_call hn hdf fun w s₀ s₁ mg mb fa o pm cd doc a vs ns G Y ho hd hcd hmg hobj hints hlen hg =>
    claw (hY w _ Y) G.T.g G.T.b G.T.builtins G.T.nolimit hg hobj hints (Nat.le_trans hlen hn2) hr hmg (fun base h1 h2 => F w mg _ (hY w _ Y) G.T.g base h1 h2) (hsp ns hlen)
end
end VL
set_option maxHeartbeats 2000000
namespace VL
open PySem PySem.Spec L2
open PyProof.Rows hiding St
section
variable {X : Cx}
def flatD : D → Bool
  | .non => true | .bl _ => true | .int _ => true | .str _ => true
  | _ => false
/-- == of flat data -/
def eqF : D → D → Bool
  | .non, .non => true
  | .bl a, .bl b => a == b
  | .bl a, .int b => (if a then 1 else 0) == b
  | .int a, .bl b => a == (if b then 1 else 0)
  | .int a, .int b => a == b
  | .str a, .str b => a == b
  | _, _ => false
theorem flat_of {K : PySem.W.Frag} {G : Hp} {v : V} {d : D} (r : Rp K G v d) (h : flatD d = true) : flatV v = true := by
  cases r <;> first | rfl | (simp [flatD] at h)
theorem eqF_of {K : PySem.W.Frag} {G : Hp} {v u : V} {d e : D} (r : Rp K G v d) (q : Rp K G u e) : eqV v u = eqF d e := by
  cases r <;> cases q <;> rfl
theorem flats_of {K : PySem.W.Frag} {G : Hp} : ∀ {vs : List V} {ds : List D}, RpL K G vs ds → ds.all flatD = true → vs.all flatV = true
  | _, _, .nil, _ => rfl
  | _, _, .cons r t, h => by
    rw [List.all_cons, Bool.and_eq_true] at h ⊢
    exact ⟨flat_of r h.1, flats_of t h.2⟩
def inF (x : D) (ds : List D) : Bool := ds.any fun y => eqF y x
theorem inF_of {K : PySem.W.Frag} {G : Hp} {v : V} {x : D} (r : Rp K G v x) : ∀ {vs : List V} {ds : List D}, RpL K G vs ds → inV v vs = inF x ds
  | _, _, .nil => rfl
  | _, _, .cons q t => by
    have ih := inF_of r t
    unfold inV inF at ih ⊢
    rw [List.any_cons, List.any_cons, ih, eqF_of q r]
/-- x in a row of flat things; a sign in a text -/
def mIn (neg : Bool) : R2V := fun x y S Q => match x, y with
  | .str x, .str z => (match x.cps.toList with
    | [c] => Q (.bl (if neg then !decide (c ∈ z.cps.toList) else decide (c ∈ z.cps.toList))) S
    | _ => False)
  | x, y => match rdS y S with
    | some ds => flatD x = true ∧ ds.all flatD = true ∧ Q (.bl (if neg then !inF x ds else inF x ds)) S
    | none => False
theorem lr_in (neg : Bool) : LR2 X.K (fun x y H Q => rIn X.K neg x y H Q ∨ ∃ (c : Nat) (z : Str), x = .str ⟨#[c]⟩ ∧ y = .str z ∧ Q (.bl (if neg then !decide (c ∈ z.cps.toList) else decide (c ∈ z.cps.toList))) H) (mIn neg) := by
  intro x y v1 v2 G S H Q Q' vw r1 r2 h k
  unfold mIn at h
  split at h
  · cases r1; cases r2
    rename_i x z
    split at h
    · rename_i c e
      refine .inr ⟨c, z, ?_, rfl, k _ S _ H G (Aft.refl vw) (.bl _) h⟩
      obtain ⟨⟨l⟩⟩ := x
      simp only at e
      subst e
      rfl
    · exact h.elim
  · split at h
    · rename_i ds e
      obtain ⟨a, xs, rfl, q, l⟩ := rdS_ok vw r2 e
      refine .inl ⟨a, xs, rfl, q, flat_of r1 h.1, flats_of l h.2.1, ?_⟩
      rw [inF_of r1 l]
      exact k _ S _ H G (Aft.refl vw) (.bl _) h.2.2
    · exact h.elim
theorem ov_in : OpV X (compareOp .In) (mIn false) := ⟨_, op_in_seq.or op_in_sign, lr_in false⟩
/-- -a -/
def mNeg (m : VE) : VE := fun ρ S Q => m ρ S fun d S1 => match d with
  | .int i => Q (.int (-i)) S1
  | _ => False
theorem v_neg {a : Expr} {m : VE} {pos : Pos} (h : PE X a (LE X.K m)) : PE X (.UnaryOp .USub a pos) (LE X.K (mNeg m)) := by
  refine PE.imp (pe_un un_neg h) fun σ H Q' ⟨ρ, S, G, Q, vw, re, hm, k⟩ => ⟨ρ, S, G, _, vw, re, hm, fun d S1 v1 H1 G1 a1 r1 h1 => ?_⟩
  cases r1 <;> try exact h1.elim
  exact ⟨_, rfl, k _ S1 _ H1 G1 a1 (.int _) h1⟩
/-- an int of the module -/
theorem v_gint {x : Str} {i : Int} {pos : Pos} (hg : Gl X x) (hm : ∃ t, X.mg x = some (.int i t)) (hd : (x == ("__debug__" : Str)) = false := by decide) : PE X (.Name x pos) (LE X.K (mC (.int i))) := by
  obtain ⟨t, hm⟩ := hm
  exact v_c (pe_glob hg hm (v := .int i) ⟨_, rfl⟩ hd) fun _ => .int i
end
end VL
namespace VL
open PySem L2
theorem len0 {ds : List D} (h : ds.length = 0) : ds = [] := by cases ds with | nil => rfl | cons => simp at h
theorem len1 {ds : List D} (h : ds.length = 1) : ∃ a, ds = [a] := match ds, h with | [a], _ => ⟨a, rfl⟩
theorem len3 {ds : List D} (h : ds.length = 3) : ∃ a b c, ds = [a, b, c] := match ds, h with | [a, b, c], _ => ⟨a, b, c, rfl⟩
theorem len5 {ds : List D} (h : ds.length = 5) : ∃ a b c d e, ds = [a, b, c, d, e] := match ds, h with | [a, b, c, d, e], _ => ⟨a, b, c, d, e, rfl⟩
end VL
namespace VL
open PySem L2
theorem tyn_ref (a : Addr) (S : Store) : tyn (.ref a) S = "list" ∨ tyn (.ref a) S = "dict" ∨ tyn (.ref a) S = "?" := by
  simp only [tyn]
  split <;> simp
end VL
namespace VL
open PySem L2
section
variable {α : Type} {a b c d e : α} {l : List α}
theorem atI_lit (n : Nat) (l : List α) : atI l (n : Int) = l[n]? := by
  unfold atI ixN
  by_cases h : n < l.length
  · simp [h]
  · simp only [show (0 : Int) ≤ (n : Int) by omega, if_true, show ¬ (n : Int) < (l.length : Int) by omega, if_false, Option.bind_none]
    rw [List.getElem?_eq_none (by omega)]
theorem atI_0 : atI (a :: l) 0 = some a := atI_lit 0 (a :: l)
theorem atI_1 : atI (a :: b :: l) 1 = some b := atI_lit 1 (a :: b :: l)
theorem atI_2 : atI (a :: b :: c :: l) 2 = some c := atI_lit 2 (a :: b :: c :: l)
theorem atI_3 : atI (a :: b :: c :: d :: l) 3 = some d := atI_lit 3 (a :: b :: c :: d :: l)
theorem atI_4 : atI (a :: b :: c :: d :: e :: l) 4 = some e := atI_lit 4 (a :: b :: c :: d :: e :: l)
theorem atI_last (l : List α) (x : α) : atI (l ++ [x]) (-1) = some x := by
  unfold atI ixN
  simp only [show ¬ (0 : Int) ≤ -1 by omega, if_false, List.length_append, List.length_singleton]
  rw [if_pos (by omega)]
  simp only [Option.bind_some]
  rw [show ((-1 : Int) + ((l.length + 1 : Nat) : Int)).toNat = l.length by omega]
  simp
end
end VL
namespace VL
open PySem L2
section
variable {S : Store}
theorem tyn_non : tyn .non S = "NoneType" := rfl
theorem tyn_bl {b} : tyn (.bl b) S = "bool" := rfl
theorem tyn_int {b} : tyn (.int b) S = "int" := rfl
theorem tyn_str {b} : tyn (.str b) S = "str" := rfl
theorem tyn_tup {b} : tyn (.tup b) S = "tuple" := rfl
theorem tyn_lst {b} : tyn (.lst b) S = "list" := rfl
theorem tyn_ro {b} : tyn (.ro b) S = "list" := rfl
theorem tyn_dct {b} : tyn (.dct b) S = "dict" := rfl
theorem noRef_non : noRef S .non = True := rfl
theorem noRef_bl {b} : noRef S (.bl b) = True := rfl
theorem noRef_int {b} : noRef S (.int b) = True := rfl
theorem noRef_str {b} : noRef S (.str b) = True := rfl
theorem noRef_tup {b} : noRef S (.tup b) = True := rfl
theorem noRef_lst {b} : noRef S (.lst b) = True := rfl
theorem noRef_dct {b} : noRef S (.dct b) = True := rfl
theorem isS_non {z} : isS .non z = false := rfl
theorem isS_bl {b z} : isS (.bl b) z = false := rfl
theorem isS_int {b z} : isS (.int b) z = false := rfl
theorem isS_str {b z} : isS (.str b) z = decide (b = z) := rfl
theorem isS_tup {b z} : isS (.tup b) z = false := rfl
theorem isS_lst {b z} : isS (.lst b) z = false := rfl
theorem isS_dct {b z} : isS (.dct b) z = false := rfl
theorem rdL_lst {b} : rdL (.lst b) S = some b := rfl
theorem rdL_tup {b} : rdL (.tup b) S = none := rfl
theorem rdL_int {b} : rdL (.int b) S = none := rfl
theorem rdR_lst {b} : rdR (.lst b) S = some b := rfl
theorem rdR_ro {b} : rdR (.ro b) S = some b := rfl
theorem rdS_tup {b} : rdS (.tup b) S = some b := rfl
theorem rdS_lst {b} : rdS (.lst b) S = some b := rfl
theorem rdS_ro {b} : rdS (.ro b) S = some b := rfl
theorem rdL_ref {a : Addr} {ds : List D} (h : S a = some (.lst ds)) : rdL (.ref a) S = some ds := by simp only [rdL, h]
theorem rdR_ref {a : Addr} {ds : List D} (h : S a = some (.lst ds)) : rdR (.ref a) S = some ds := rdL_ref h
theorem rdS_ref {a : Addr} {ds : List D} (h : S a = some (.lst ds)) : rdS (.ref a) S = some ds := rdL_ref h
theorem okq_non : okq S .non = True := by simp [okq, rsv, py, SeqAt.shaped, PyData.canLay0, PyData.depth]
theorem okq_bl {b} : okq S (.bl b) = True := by simp [okq, rsv, py, SeqAt.shaped, PyData.canLay0, PyData.depth]
theorem okq_int {b} : okq S (.int b) = True := by simp [okq, rsv, py, SeqAt.shaped, PyData.canLay0, PyData.depth]
theorem okq_str {b} : okq S (.str b) = (PyData.strOk b = true) := by simp [okq, rsv, py, SeqAt.shaped, PyData.canLay0, PyData.depth]
theorem eqq_int {a b : Int} : eqq S (.int a) (.int b) = decide (a = b) := by simp only [eqq, rsv, py, PyData.eqv]; exact Bool.beq_eq_decide_eq a b
theorem eqq_bl {a b : Bool} : eqq S (.bl a) (.bl b) = decide (a = b) := by simp only [eqq, rsv, py, PyData.eqv]; exact Bool.beq_eq_decide_eq a b
theorem eqq_str {a b : Str} : eqq S (.str a) (.str b) = decide (a = b) := by simp only [eqq, rsv, py, PyData.eqv]; exact Bool.beq_eq_decide_eq a b
end
end VL
namespace VL
open PySem L2
theorem isS_ro {b z} : isS (.ro b) z = false := rfl
theorem noRef_ro {b} {S : Store} : noRef S (.ro b) = True := rfl
theorem cast0 : ((0 : Nat) : Int) = 0 := rfl
theorem cast1 : ((1 : Nat) : Int) = 1 := rfl
theorem cast2 : ((2 : Nat) : Int) = 2 := rfl
theorem cast3 : ((3 : Nat) : Int) = 3 := rfl
theorem cast4 : ((4 : Nat) : Int) = 4 := rfl
theorem cast5 : ((5 : Nat) : Int) = 5 := rfl
end VL
namespace VL
open PySem L2
def Pot (S : Store) (p : Addr) : Prop := ∃ a b : Int, S p = some (.lst [.int a, .int b]) ∧ 0 ≤ a ∧ 0 ≤ b ∧ b < 2147483648
def But (p : Addr) (S S' : Store) : Prop := ∀ q, q ≠ p → S' q = S q
theorem But.refl (p : Addr) (S : Store) : But p S S := fun _ _ => rfl
theorem But.trans {p : Addr} {S S1 S2 : Store} (a : But p S S1) (b : But p S1 S2) : But p S S2 := fun q h => (b q h).trans (a q h)
theorem But.supd {p : Addr} {S : Store} {o : SO} : But p S (supd S p o) := fun q h => supd_ne h
theorem Pot.mk' {S : Store} {p : Addr} {a b : Int} (ha : 0 ≤ a) (hb : 0 ≤ b) (hb2 : b < 2147483648) : Pot (VL.supd S p (.lst [.int a, .int b])) p := ⟨a, b, supd_same, ha, hb, hb2⟩
theorem cpow10 {n : Int} (h0 : 0 ≤ n) (h : n ≤ 1000000) : CPow 10 n := ⟨h0, h, by decide⟩
theorem cmul_l {i j : Int} (h0 : -(2 ^ 64) < i) (h1 : i < 2 ^ 64) : CMul i j := .inl ⟨h0, h1⟩
theorem cmul_r {i j : Int} (h0 : -(2 ^ 64) < j) (h1 : j < 2 ^ 64) : CMul i j := .inr ⟨h0, h1⟩
theorem log2_small {m : Int} {k : Nat} (h : m.natAbs < 2 ^ k) (hk : k ≤ 9000) (h0 : 0 < k) : m.natAbs.log2 < 9000 := Nat.lt_of_lt_of_le (PySem.Flt.log2_lt_of h0 h) hk
end VL
namespace VL
open PySem L2
theorem ixN20 : ixN 2 0 = some 0 := rfl
theorem ixN21 : ixN 2 1 = some 1 := rfl
theorem rdS_supd {S : Store} {p : Addr} {ds : List D} : rdS (.ref p) (supd S p (.lst ds)) = some ds := rdS_ref supd_same
theorem rdL_supd {S : Store} {p : Addr} {ds : List D} : rdL (.ref p) (supd S p (.lst ds)) = some ds := rdL_ref supd_same
theorem rdR_supd {S : Store} {p : Addr} {ds : List D} : rdR (.ref p) (supd S p (.lst ds)) = some ds := rdR_ref supd_same
end VL
namespace VL
open PySem L2
theorem atI_ints {ns : List Int} {k : Int} (h0 : 0 ≤ k) (h1 : k < (ns.length : Int)) : ∃ n, atI (ns.map D.int) k = some (.int n) := by
  obtain ⟨m, rfl⟩ : ∃ m : Nat, k = (m : Int) := ⟨k.toNat, by omega⟩
  have hm : m < ns.length := by omega
  exact ⟨ns[m], by rw [atI_lit, List.getElem?_map, List.getElem?_eq_getElem hm]; rfl⟩
end VL
set_option maxHeartbeats 2000000
namespace VL
open PySem PySem.Spec L2
open PyProof.Rows hiding St
section
variable {X : Cx}
def keyD : D → Option Key
  | .int i => some (.inl i)
  | .str x => some (.inr x)
  | _ => none
def keysD : List (D × D) → Option (List (Key × D))
  | [] => some []
  | (k, v) :: r => match keyD k, keysD r with
    | some k, some l => some ((k, v) :: l)
    | _, _ => none
def putD (kvs : List (Key × D)) (k : Key) (v : D) : List (Key × D) := if kvs.any (fun kv => decide (kv.1 = k)) then kvs.map (fun kv => if kv.1 = k then (kv.1, v) else kv) else kvs ++ [(k, v)]
def mergeD (kvs more : List (Key × D)) : List (Key × D) := more.foldl (fun acc kv => putD acc kv.1 kv.2) kvs
def valD (kvs : List (Key × D)) (k : Key) : Option D := (kvs.find? fun kv => decide (kv.1 = k)).map (·.2)
section
variable {K : PySem.W.Frag} {G : Hp}
theorem RpK.any {k : Key} : ∀ {kvs : List (Key × V)} {ds : List (Key × D)}, RpK K G kvs ds → (kvs.any fun kv => decide (kv.1 = k)) = ds.any fun kv => decide (kv.1 = k)
  | _, _, .nil => rfl
  | _, _, .cons _ t => by rw [List.any_cons, List.any_cons, t.any]
theorem RpK.repl {k : Key} {v : V} {d : D} (r : Rp K G v d) : ∀ {kvs : List (Key × V)} {ds : List (Key × D)}, RpK K G kvs ds → RpK K G (kvs.map fun kv => if kv.1 = k then (kv.1, v) else kv) (ds.map fun kv => if kv.1 = k then (kv.1, d) else kv)
  | _, _, .nil => .nil
  | _, _, .cons (k := k') h t => by
    rw [List.map_cons, List.map_cons]
    by_cases e : k' = k
    · simp only [e, if_true]; exact .cons r (t.repl r)
    · simp only [e, if_false]; exact .cons h (t.repl r)
theorem RpK.append : ∀ {kvs ls : List (Key × V)} {ds es : List (Key × D)}, RpK K G kvs ds → RpK K G ls es → RpK K G (kvs ++ ls) (ds ++ es)
  | _, _, _, _, .nil, s => s
  | _, _, _, _, .cons h t, s => .cons h (t.append s)
theorem RpK.put {k : Key} {v : V} {d : D} (r : Rp K G v d) {kvs : List (Key × V)} {ds : List (Key × D)} (h : RpK K G kvs ds) : RpK K G (putK kvs k v) (putD ds k d) := by
  unfold putK putD
  rw [h.any]
  split
  · exact h.repl r
  · exact h.append (.cons r .nil)
theorem RpK.merge : ∀ {more : List (Key × V)} {ms : List (Key × D)} {kvs : List (Key × V)} {ds : List (Key × D)}, RpK K G more ms → RpK K G kvs ds → RpK K G (mergeK kvs more) (mergeD ds ms)
  | _, _, _, _, .nil, h => h
  | _, _, kvs, ds, .cons (k := k) (v := v) (vs := vs) (d := d) (ds := es) r t, h => by
    show RpK K G (mergeK (putK kvs k v) vs) (mergeD (putD ds k d) es)
    exact RpK.merge t (h.put r)
theorem RpK.val {k : Key} : ∀ {kvs : List (Key × V)} {ds : List (Key × D)}, RpK K G kvs ds → (valD ds k = none ∧ valV kvs k = none) ∨ ∃ v d, valD ds k = some d ∧ valV kvs k = some v ∧ Rp K G v d
  | _, _, .nil => .inl ⟨rfl, rfl⟩
  | _, _, .cons (k := k') h t => by
    unfold valD valV
    rw [List.find?_cons, List.find?_cons]
    by_cases e : k' = k
    · simp only [e, decide_true, Option.map_some]; exact .inr ⟨_, _, rfl, rfl, h⟩
    · simp only [e, decide_false]; exact t.val
theorem RpK.length : ∀ {kvs : List (Key × V)} {ds : List (Key × D)}, RpK K G kvs ds → kvs.length = ds.length
  | _, _, .nil => rfl
  | _, _, .cons _ t => by simp [t.length]
end
inductive RpP (K : PySem.W.Frag) (G : Hp) : List (V × V) → List (D × D) → Prop
  | nil : RpP K G [] []
  | cons {x y : V} {d e : D} {ps : List (V × V)} {qs : List (D × D)} (h : Rp K G x d) (h' : Rp K G y e) (t : RpP K G ps qs) : RpP K G ((x, y) :: ps) ((d, e) :: qs)
theorem RpP.keys {K : PySem.W.Frag} {G : Hp} : ∀ {ps : List (V × V)} {qs : List (D × D)} {l : List (Key × D)}, RpP K G ps qs → keysD qs = some l → ∃ kvs : List (Key × V), ps = kvs.map (fun kv => (kV kv.1, kv.2)) ∧ RpK K G kvs l
  | _, _, _, .nil, h => by cases h; exact ⟨[], rfl, .nil⟩
  | _, _, l, .cons (d := d) (qs := qs) h h' t, e => by
    unfold keysD at e
    split at e
    · rename_i k l' e1 e2
      cases e
      obtain ⟨kvs, rfl, r⟩ := t.keys e2
      cases h <;> simp only [keyD, Option.some.injEq, reduceCtorEq] at e1
      · subst e1; exact ⟨(.inl _, _) :: kvs, rfl, .cons h' r⟩
      · subst e1; exact ⟨(.inr _, _) :: kvs, rfl, .cons h' r⟩
    · cases e
/-- what is told is locked for ever -/
def tLk (t : TE) : TE := fun σ H Q => t σ H fun v H1 => ∃ d u, v = .ref d ∧ H1 d = some u ∧ Mut (some u) ∧ ∀ od, Q v (upd H1 d (.frz od u))
theorem pe_tlk {e : Expr} {t : TE} (h : PE X e t) : PE X e (tLk t) := by
  refine ⟨fun pins s σ H Q I hw => ?_⟩
  refine thn (h.run pins s σ H _ I hw) fun v s1 ⟨x, H1, I1, r, d, u, ex, hd, mu, q⟩ => ?_
  obtain ⟨od, I2⟩ := I1.lock hd mu
  exact ⟨x, _, I2, r, q od⟩
theorem upd_upd {H : Hp} {a : Addr} {o u : HO} : upd (upd H a o) a u = upd H a u := by
  funext b; unfold upd; split <;> rfl
def keyP : Key → PyData
  | .inl i => .int i
  | .inr x => .str x
mutual
def pyd : D → PyData
  | .non => .none | .bl b => .bool b | .int i => .int i | .str s => .str s
  | .tup ds => .tuple (pydL ds) | .lst ds => .list (pydL ds) | .ro ds => .list (pydL ds) | .dct kvs => .dict (pydK kvs) | .ref _ => .none
def pydL : List D → List PyData
  | [] => []
  | d :: ds => pyd d :: pydL ds
def pydK : List (Key × D) → List (PyData × PyData)
  | [] => []
  | (k, d) :: r => (keyP k, pyd d) :: pydK r
end
mutual
def whole : D → Bool
  | .non => true | .bl _ => true | .int _ => true | .str _ => true
  | .tup ds => wholeL ds | .lst ds => wholeL ds | .ro ds => wholeL ds | .dct kvs => wholeK kvs | .ref _ => false
def wholeL : List D → Bool
  | [] => true
  | d :: ds => whole d && wholeL ds
def wholeK : List (Key × D) → Bool
  | [] => true
  | (_, d) :: r => whole d && wholeK r
end
section
variable {pins : List (Addr × Obj)} {σ : L2.St} {H : Hp} {s : Shared} {G : Hp}
theorem pydK_keys : ∀ kvs : List (Key × D), (pydK kvs).map (·.1) = kvs.map fun kv => keyP kv.1
  | [] => rfl
  | (k, d) :: r => by simp only [pydK, List.map_cons, pydK_keys r]
theorem pydK_vals : ∀ kvs : List (Key × D), (pydK kvs).map (·.2) = pydL (kvs.map (·.2))
  | [] => rfl
  | (k, d) :: r => by simp only [pydK, List.map_cons, pydL, pydK_vals r]
/-- a thing of the heap with its text -/
def Shows (X : Cx) (s : Shared) (u : Value) (d : PyData) : Prop := ∃ bs as, Reads s.heap u d as ∧ ReadAtMost s.heap d.depth bs ∧ ReprK X.prog X.w bs s.heap d.depth u d.shown
def ShowsL (X : Cx) (s : Shared) (us : List Value) (ds : List PyData) : Prop := ∃ bs as, ReadsAll s.heap us ds as ∧ ReadAtMost s.heap (PyData.depthAll ds) bs ∧ ReprAllK X.prog X.w bs s.heap (PyData.depthAll ds) us (PyData.shownAll ds)
theorem ShowsL.cons {u : Value} {us : List Value} {d : PyData} {ds : List PyData} (h : Shows X s u d) (t : ShowsL X s us ds) : ShowsL X s (u :: us) (d :: ds) := by
  obtain ⟨b1, a1, r1, m1, k1⟩ := h
  obtain ⟨b2, a2, r2, m2, k2⟩ := t
  refine ⟨b1 ++ b2, _, .cons r1 r2, ?_, ?_⟩
  · exact (m1.mono (by simp only [PyData.depthAll]; omega)).append (m2.mono (by simp only [PyData.depthAll]; omega))
  · simp only [PyData.depthAll, PyData.shownAll]
    exact .cons ((k1.more fun b hb => List.mem_append_left _ hb).level_le (Nat.le_max_left _ _)) (k2.more_le (fun b hb => List.mem_append_right _ hb) (Nat.le_max_right _ _))
theorem shows_keys {P : Program} {w : World} : ∀ {es : List DictEntry} {vs : List (Key × Value)}, Pairs (mixKind P w) es vs → (∀ t ∈ PyData.shownAll (vs.map fun kv => keyP kv.1), t.length ≤ sizeLine) → PyData.showableAll (vs.map fun kv => keyP kv.1) = true →
    ShowsL X s (es.map (·.key)) (vs.map fun kv => keyP kv.1)
  | _, _, .nil, _, _ => ⟨[], [], .nil, (fun _ h => nomatch h), by simp only [List.map_nil, PyData.shownAll]; exact .nil⟩
  | e0 :: es, (k, v) :: vs, .cons h1 h2 t, hz, hs => by
    have hs' : (keyP k).showable = true ∧ PyData.showableAll (vs.map fun kv => keyP kv.1) = true := by simpa [PyData.showableAll] using hs
    have hz1 := hz _ (by rw [List.map_cons]; simp only [PyData.shownAll]; exact List.mem_cons_self)
    refine ShowsL.cons ?_ (shows_keys t (fun x hx => hz x (by rw [List.map_cons]; simp only [PyData.shownAll]; exact List.mem_cons_of_mem _ hx)) hs'.2)
    rcases keyIs_shape (k := k) h1 with ⟨i, t, rfl, e⟩ | ⟨x, t, rfl, e⟩
    · show Shows X s e0.key (keyP (.inl i))
      rw [e]
      exact ⟨[], _, .int i t, (fun _ h => nomatch h), by simp only [keyP, PyData.shown]; exact .of_is (ReprIs.int t (by simpa [PyData.showable, keyP] using hs'.1)) _ _ _⟩
    · show Shows X s e0.key (keyP (.inr x))
      rw [e]
      exact ⟨[], _, .str x t, (fun _ h => nomatch h), by simp only [keyP, PyData.shown]; exact .of_is (ReprIs.str x t (by simpa only [keyP, PyData.shown] using hz1)) _ _ _⟩
theorem kv_of {K : PySem.W.Frag} : ∀ {kvs : List (Key × V)} {ds : List (Key × D)} {vs : List (Key × Value)}, RpK K G kvs ds → KV kvs vs → (vs.map fun kv => keyP kv.1) = (ds.map fun kv => keyP kv.1) ∧ RpL K G (kvs.map (·.2)) (ds.map (·.2)) ∧ Vals (kvs.map (·.2)) (vs.map (·.2))
  | _, _, _, .nil, r => by cases r; exact ⟨rfl, .nil, .nil⟩
  | _, _, _, .cons h t, r => by
    cases r with
    | cons r rs =>
      obtain ⟨h1, h2, h3⟩ := kv_of t rs
      simp only [List.map_cons]
      exact ⟨by rw [h1, ← r.1], .cons h h2, .cons r.2 h3⟩
theorem pairs_vals {P : Program} {w : World} : ∀ {es : List DictEntry} {vs : List (Key × Value)}, Pairs (mixKind P w) es vs → es.map (·.val) = vs.map (·.2)
  | _, _, .nil => rfl
  | _, _, .cons h1 h2 t => by simp only [List.map_cons, h2, pairs_vals t]
mutual
theorem shows_of (I : Inv X pins σ H s) (g : Same G H) : ∀ (d : D) {v : V} {u : Value}, whole d = true → (pyd d).showable = true → (pyd d).shown.length ≤ sizeLine → Rp X.K G v d → RelV v u → Shows X s u (pyd d)
  | .non, _, _, _, _, _, .non, r => by cases r; exact ⟨[], _, .none, (fun _ h => nomatch h), by simp only [pyd, PyData.shown]; exact .of_is ReprIs.none _ _ _⟩
  | .bl b, _, _, _, _, _, .bl _, r => by cases r; exact ⟨[], _, .bool b, (fun _ h => nomatch h), by simp only [pyd, PyData.shown]; exact .of_is (ReprIs.bool b) _ _ _⟩
  | .int i, _, _, _, hs, _, .int _, r => by obtain ⟨t, rfl⟩ := r; exact ⟨[], _, .int i t, (fun _ h => nomatch h), by simp only [pyd, PyData.shown]; exact .of_is (ReprIs.int t (by simpa [pyd, PyData.showable] using hs)) _ _ _⟩
  | .str x, _, _, _, _, hz, .str _, r => by obtain ⟨t, rfl⟩ := r; exact ⟨[], _, .str x t, (fun _ h => nomatch h), by simp only [pyd, PyData.shown]; exact .of_is (ReprIs.str x t (by simpa only [pyd, PyData.shown] using hz)) _ _ _⟩
  | .tup ds, _, _, hw, hs, hz, .tup h l, r => by
    cases r
    have hz' : (tupleText (PyData.shownAll (pydL ds))).length ≤ sizeLine := by simpa only [pyd, PyData.shown] using hz
    obtain ⟨its, rv, ⟨o, h1, h2, n, h3⟩, _⟩ := I.tuple (same_t g h)
    obtain ⟨bs, as, h4, hb, hk⟩ := shows_ofL I g ds (by simpa [whole] using hw) (by simpa [pyd, PyData.showable] using hs) (fun t ht => Nat.le_trans (tupleText_mem_le ht) hz') l rv
    have rd : Reads s.heap _ (.tuple (pydL ds)) _ := .tuple h1 h2 h3 h4
    have hna := not_mem_of_deeper rd (by simp only [PyData.depth]; omega) hb
    refine ⟨_, _, rd, ReadAtMost.cons rd (Nat.le_succ _) hb, ?_⟩
    simp only [pyd, PyData.depth, PyData.shown]
    exact ReprK.tuple h1 h2 h3 hna hk
  | .lst ds, _, _, hw, hs, hz, .lst h l, r => by
    cases r
    exact shows_lst I g ds (SqL.of (g _ _ h)) (by simpa only [pyd, PyData.shown] using hz) (shows_ofL I g ds (by simpa [whole] using hw) (by simpa [pyd, PyData.showable] using hs) (fun t ht => Nat.le_trans (listText_mem_le ht) (by simpa only [pyd, PyData.shown] using hz)) l)
  | .ro ds, _, _, hw, hs, hz, .ro h l, r => by
    cases r
    exact shows_lst I g ds (g.seq h) (by simpa only [pyd, PyData.shown] using hz) (shows_ofL I g ds (by simpa [whole] using hw) (by simpa [pyd, PyData.showable] using hs) (fun t ht => Nat.le_trans (listText_mem_le ht) (by simpa only [pyd, PyData.shown] using hz)) l)
  | .dct kvs, _, _, hw, hs, hz, .dct (kvs := ks) h l, r => by
    cases r
    have hz' : (dictText (PyData.shownKv (pydK kvs))).length ≤ sizeLine := by simpa only [pyd, PyData.shown] using hz
    obtain ⟨_, hsys, vs, kv, o, es, ep, h1, ex, h3, _, hp, _⟩ := dk_rd I.hok (.inr ⟨_, g _ _ h⟩)
    obtain ⟨k1, k2, k3⟩ := kv_of l kv
    obtain ⟨hs1, hs2⟩ := PyData.showableKv_split (pydK kvs) (by simpa [pyd, PyData.showable] using hs)
    rw [pydK_keys] at hs1
    rw [pydK_vals] at hs2
    have z1 : ∀ t ∈ PyData.shownAll (kvs.map fun kv => keyP kv.1), t.length ≤ sizeLine := fun t ht => by
      obtain ⟨p, hp', hl⟩ := PyData.shownKv_key_le (pydK kvs) t (by rw [pydK_keys]; exact ht)
      exact Nat.le_trans hl (Nat.le_trans (dictText_mem_le hp') hz')
    have z2 : ∀ t ∈ PyData.shownAll (pydL (kvs.map (·.2))), t.length ≤ sizeLine := fun t ht => by
      obtain ⟨p, hp', hl⟩ := PyData.shownKv_val_le (pydK kvs) t (by rw [pydK_vals]; exact ht)
      exact Nat.le_trans hl (Nat.le_trans (dictText_mem_le hp') hz')
    obtain ⟨b1, a1, rd1, hb1, hk1⟩ := shows_keys (X := X) (s := s) hp (by rw [k1]; exact z1) (by rw [k1]; exact hs1)
    obtain ⟨b2, a2, rd2, hb2, hk2⟩ := shows_ofK I g kvs (by simpa [whole] using hw) hs2 z2 k2 k3
    rw [← pairs_vals hp] at rd2 hk2
    rw [k1, ← pydK_keys] at rd1 hb1 hk1
    rw [← pydK_vals] at rd2 hb2 hk2
    have rd : Reads s.heap _ (.dict (pydK kvs)) _ := .dict h1 ex.1 h3 rd1 rd2
    have hb : ReadAtMost s.heap (PyData.depthKv (pydK kvs)) (b1 ++ b2) := (hb1.mono (PyData.depthAll_keys_le _)).append (hb2.mono (PyData.depthAll_vals_le _))
    have hna := not_mem_of_deeper rd (by simp only [PyData.depth]; omega) hb
    refine ⟨_, _, rd, ReadAtMost.cons rd (Nat.le_succ _) hb, ?_⟩
    simp only [pyd, PyData.depth, PyData.shown, PyData.shownKv_eq]
    exact ReprK.dict h1 ex.1 h3 hsys hna (ReprEntriesK.of_two es.toList _ _ (hk1.more_le (fun b hb => List.mem_append_left _ hb) (PyData.depthAll_keys_le _)) (hk2.more_le (fun b hb => List.mem_append_right _ hb) (PyData.depthAll_vals_le _)))
  | .ref _, _, _, hw, _, _, _, _ => by simp [whole] at hw
theorem shows_ofL (I : Inv X pins σ H s) (g : Same G H) : ∀ (ds : List D) {vs : List V} {us : List Value}, wholeL ds = true → PyData.showableAll (pydL ds) = true → (∀ t ∈ PyData.shownAll (pydL ds), t.length ≤ sizeLine) → RpL X.K G vs ds → Vals vs us → ShowsL X s us (pydL ds)
  | [], _, _, _, _, _, .nil, r => by cases r; exact ⟨[], [], .nil, (fun _ h => nomatch h), by simp only [pydL, PyData.shownAll]; exact .nil⟩
  | d :: ds, _, _, hw, hs, hz, .cons h t, r => by
    cases r with
    | cons r rs =>
      have hw' : whole d = true ∧ wholeL ds = true := by simpa [wholeL] using hw
      have hs' : (pyd d).showable = true ∧ PyData.showableAll (pydL ds) = true := by simpa [pydL, PyData.showableAll] using hs
      exact ShowsL.cons (shows_of I g d hw'.1 hs'.1 (hz _ (by simp only [pydL, PyData.shownAll]; exact List.mem_cons_self)) h r) (shows_ofL I g ds hw'.2 hs'.2 (fun x hx => hz x (by simp only [pydL, PyData.shownAll]; exact List.mem_cons_of_mem _ hx)) t rs)
theorem shows_ofK (I : Inv X pins σ H s) (g : Same G H) : ∀ (kvs : List (Key × D)) {vs : List V} {us : List Value}, wholeK kvs = true → PyData.showableAll (pydL (kvs.map (·.2))) = true → (∀ t ∈ PyData.shownAll (pydL (kvs.map (·.2))), t.length ≤ sizeLine) → RpL X.K G vs (kvs.map (·.2)) → Vals vs us → ShowsL X s us (pydL (kvs.map (·.2)))
  | [], _, _, _, _, _, .nil, r => by cases r; exact ⟨[], [], .nil, (fun _ h => nomatch h), by simp only [List.map_nil, pydL, PyData.shownAll]; exact .nil⟩
  | (k, d) :: ds, _, _, hw, hs, hz, .cons h t, r => by
    cases r with
    | cons r rs =>
      have hw' : whole d = true ∧ wholeK ds = true := by simpa [wholeK] using hw
      have hs' : (pyd d).showable = true ∧ PyData.showableAll (pydL (ds.map (·.2))) = true := by simpa [pydL, PyData.showableAll] using hs
      exact ShowsL.cons (shows_of I g d hw'.1 hs'.1 (hz _ (by simp only [List.map_cons, pydL, PyData.shownAll]; exact List.mem_cons_self)) h r) (shows_ofK I g ds hw'.2 hs'.2 (fun x hx => hz x (by simp only [List.map_cons, pydL, PyData.shownAll]; exact List.mem_cons_of_mem _ hx)) t rs)
theorem shows_lst (I : Inv X pins σ H s) (g : Same G H) (ds : List D) {a : Addr} {xs : List V} (h : SqL X.K H a xs) (hz' : (listText (PyData.shownAll (pydL ds))).length ≤ sizeLine) (ih : ∀ {us : List Value}, Vals xs us → ShowsL X s us (pydL ds)) : Shows X s (.ref a) (.list (pydL ds)) := by
  obtain ⟨its, rv, ⟨o, n, h1, h2, _, h3⟩, _⟩ := I.list h
  obtain ⟨bs, as, h4, hb, hk⟩ := ih rv
  have rd : Reads s.heap _ (.list (pydL ds)) _ := .list h1 h2 h3 h4
  have hna := not_mem_of_deeper rd (by simp only [PyData.depth]; omega) hb
  refine ⟨_, _, rd, ReadAtMost.cons rd (Nat.le_succ _) hb, ?_⟩
  simp only [PyData.depth, PyData.shown]
  cases its with
  | nil =>
    generalize pydL ds = es at *
    cases h4
    simp only [PyData.shownAll, listText_nil]
    exact ReprK.listEmpty h1 h2 h3
  | cons x l => exact ReprK.list h1 h2 h3 hna (by simpa using hk.length_eq) (fun i y e => hk.item i y (by simpa using e))
end
/-- a list, tuple or dict by its repr -/
theorem shown_by (I : Inv X pins σ H s) (g : Same G H) (d : D) {a : Addr} (hw : whole d = true) (hs : (pyd d).showable = true) (hz : (pyd d).shown.length ≤ sizeLine) (r : Rp X.K G (.ref a) d) : ∃ T idr, ShowsBy X.prog X.w s.heap a (pyd d) T idr := by
  have lst : ∀ {ds : List D} {xs : List V}, SqL X.K H a xs → (listText (PyData.shownAll (pydL ds))).length ≤ sizeLine → (∀ {us : List Value}, Vals xs us → ShowsL X s us (pydL ds)) → ∃ T idr, ShowsBy X.prog X.w s.heap a (.list (pydL ds)) T idr := by
    intro ds xs h hz' ih
    obtain ⟨its, rv, ⟨o, n, h1, h2, _, h3⟩, _⟩ := I.list h
    obtain ⟨bs, as, h4, hb, hk⟩ := ih rv
    have rd : Reads s.heap _ (.list (pydL ds)) _ := .list h1 h2 h3 h4
    have hna := not_mem_of_deeper rd (by simp only [PyData.depth]; omega) hb
    refine ⟨"list", "list.__repr__", F.slot_list_repr.toG, F.slot_list_str, F.slot_list_format, fun s' hk0 => ⟨o, hk0 _ _ h1, h2⟩, fun A E s' Q hg hu hk0 hQ => ?_⟩
    simp only [PyData.depth] at hu
    simp only [PyData.shown] at hQ
    cases its with
    | nil =>
      generalize pydL ds = es at *
      cases h4
      simp only [PyData.shownAll, listText_nil] at hQ
      exact call_list_repr_empty ⟨o, hk0 _ _ h1, h2⟩ (hk0 _ _ h1) h3 (hQ s'.heap _ _ fun _ _ e => e)
    | cons x l => exact call_list_reprK h1 h2 h3 hna (by simpa using hk.length_eq) (fun i y e => hk.item i y (by simpa using e)) hg (fun b _ => Clear.nil b) hu hk0 hQ hz'
  cases r with
  | ref => simp [whole] at hw
  | @lst _ xs ds h l => exact lst (SqL.of (g _ _ h)) (by simpa only [pyd, PyData.shown] using hz) (shows_ofL I g ds (by simpa [whole] using hw) (by simpa [pyd, PyData.showable] using hs) (fun t ht => Nat.le_trans (listText_mem_le ht) (by simpa only [pyd, PyData.shown] using hz)) l)
  | @ro _ xs ds h l => exact lst (g.seq h) (by simpa only [pyd, PyData.shown] using hz) (shows_ofL I g ds (by simpa [whole] using hw) (by simpa [pyd, PyData.showable] using hs) (fun t ht => Nat.le_trans (listText_mem_le ht) (by simpa only [pyd, PyData.shown] using hz)) l)
  | @tup _ xs ds h l =>
    have hz' : (tupleText (PyData.shownAll (pydL ds))).length ≤ sizeLine := by simpa only [pyd, PyData.shown] using hz
    obtain ⟨its, rv, ⟨o, h1, h2, n, h3⟩, _⟩ := I.tuple (same_t g h)
    obtain ⟨bs, as, h4, hb, hk⟩ := shows_ofL I g ds (by simpa [whole] using hw) (by simpa [pyd, PyData.showable] using hs) (fun t ht => Nat.le_trans (tupleText_mem_le ht) hz') l rv
    have rd : Reads s.heap _ (.tuple (pydL ds)) _ := .tuple h1 h2 h3 h4
    have hna := not_mem_of_deeper rd (by simp only [PyData.depth]; omega) hb
    refine ⟨"tuple", "tuple.__repr__", F.slot_tuple_repr, F.slot_tuple_str, F.slot_tuple_format, fun s' hk0 => ⟨o, hk0 _ _ h1, h2⟩, fun A E s' Q hg hu hk0 hQ => ?_⟩
    simp only [pyd, PyData.depth] at hu
    simp only [pyd, PyData.shown] at hQ
    exact call_tuple_reprK h1 h2 h3 hna hk hg (fun b _ => Clear.nil b) hu hk0 hQ hz'
  | @dct _ ob ks kvs h l =>
    obtain ⟨bs0, as0, rd0, _, _⟩ := shows_of I g (.dct kvs) hw hs hz (.dct h l) (rfl : RelV (.ref a) (.ref a))
    have hz' : (dictText (PyData.shownKv (pydK kvs))).length ≤ sizeLine := by simpa only [pyd, PyData.shown] using hz
    obtain ⟨_, hsys, vs, kv, o, es, ep, h1, ex, h3, _, hp, _⟩ := dk_rd I.hok (.inr ⟨_, g _ _ h⟩)
    obtain ⟨k1, k2, k3⟩ := kv_of l kv
    obtain ⟨hs1, hs2⟩ := PyData.showableKv_split (pydK kvs) (by simpa [pyd, PyData.showable] using hs)
    rw [pydK_keys] at hs1
    rw [pydK_vals] at hs2
    have z1 : ∀ t ∈ PyData.shownAll (kvs.map fun kv => keyP kv.1), t.length ≤ sizeLine := fun t ht => by
      obtain ⟨p, hp', hl⟩ := PyData.shownKv_key_le (pydK kvs) t (by rw [pydK_keys]; exact ht)
      exact Nat.le_trans hl (Nat.le_trans (dictText_mem_le hp') hz')
    have z2 : ∀ t ∈ PyData.shownAll (pydL (kvs.map (·.2))), t.length ≤ sizeLine := fun t ht => by
      obtain ⟨p, hp', hl⟩ := PyData.shownKv_val_le (pydK kvs) t (by rw [pydK_vals]; exact ht)
      exact Nat.le_trans hl (Nat.le_trans (dictText_mem_le hp') hz')
    obtain ⟨b1, a1, rd1, hb1, hk1⟩ := shows_keys (X := X) (s := s) hp (by rw [k1]; exact z1) (by rw [k1]; exact hs1)
    obtain ⟨b2, a2, rd2, hb2, hk2⟩ := shows_ofK I g kvs (by simpa [whole] using hw) hs2 z2 k2 k3
    rw [← pairs_vals hp] at rd2 hk2
    rw [k1, ← pydK_keys] at rd1 hb1 hk1
    rw [← pydK_vals] at rd2 hb2 hk2
    have rd : Reads s.heap _ (.dict (pydK kvs)) _ := .dict h1 ex.1 h3 rd1 rd2
    have hb : ReadAtMost s.heap (PyData.depthKv (pydK kvs)) (b1 ++ b2) := (hb1.mono (PyData.depthAll_keys_le _)).append (hb2.mono (PyData.depthAll_vals_le _))
    have hna := not_mem_of_deeper rd (by simp only [PyData.depth]; omega) hb
    refine ⟨"dict", "dict.__repr__", F.slot_dict_repr, F.slot_dict_str, F.slot_dict_format, fun s' hk0 => ⟨o, hk0 _ _ h1, ex.1⟩, fun A E s' Q hg hu hk0 hQ => ?_⟩
    simp only [pyd, PyData.depth] at hu
    simp only [pyd, PyData.shown, PyData.shownKv_eq] at hQ
    exact call_dict_reprK h1 ex.1 h3 hsys hna (ReprEntriesK.of_two es.toList _ _ (hk1.more_le (fun b hb => List.mem_append_left _ hb) (PyData.depthAll_keys_le _)) (hk2.more_le (fun b hb => List.mem_append_right _ hb) (PyData.depthAll_vals_le _))) hg (fun b _ => Clear.nil b) hu hk0 hQ (by rw [← PyData.shownKv_eq]; exact hz')
end
/-- what a text of data wants -/
def fitW (d : D) : Prop := whole d = true ∧ (pyd d).showable = true ∧ (pyd d).depth ≤ 50 ∧ (pyd d).shown.length ≤ sizeLine
theorem rsv_rp {K : PySem.W.Frag} {G H : Hp} {S : Store} {d : D} {v : V} (vw : View K G S H) (hw : whole (rsv S d) = true) (r : Rp K G v d) : ∃ G', Same G' H ∧ Rp K G' v (rsv S d) := by
  cases d with
  | ref a =>
    cases r
    cases e : S a with
    | none => simp [rsv, e, whole] at hw
    | some o =>
      obtain ⟨_, u, hu, k⟩ := vw.st a _ e
      cases k with
      | lst l => simp only [rsv, e]; exact ⟨H, Same.refl H, .lst hu (l.mono vw.gh)⟩
      | dct l => simp [rsv, e, whole] at hw
      | _ => simp [rsv, e, whole] at hw
  | _ => exact ⟨G, vw.gh, r⟩
end
end VL
set_option maxHeartbeats 2000000
namespace VL
open PySem PySem.Spec L2
open PyProof.Rows hiding St
def smlI (i : Int) : Bool := decide (i.natAbs < 10 ^ 150)
theorem smlI_of {i : Int} (h0 : -1000000000000000000000000000000000000000000000 < i) (h1 : i < 1000000000000000000000000000000000000000000000) : smlI i = true := decide_eq_true (by omega)
def smlKey : Key → Bool
  | .inl i => smlI i
  | .inr x => PyData.strOk x
def cntKey : Key → Nat
  | .inl _ => 151
  | .inr x => 10 * x.length + 2
mutual
/-- small parts: ints of sixty figures, texts of true signs -/
def sml : D → Bool
  | .non => true | .bl _ => true | .int i => smlI i | .str s => PyData.strOk s
  | .tup ds => smlL ds | .lst ds => smlL ds | .ro ds => smlL ds | .dct kvs => smlK kvs | .ref _ => false
def smlL : List D → Bool
  | [] => true
  | d :: ds => sml d && smlL ds
def smlK : List (Key × D) → Bool
  | [] => true
  | (k, d) :: r => smlKey k && sml d && smlK r
end
mutual
/-- how many signs at most -/
def cnt : D → Nat
  | .non => 4 | .bl _ => 5 | .int _ => 151 | .str s => 10 * s.length + 2
  | .tup ds => cntL ds + 3 | .lst ds => cntL ds + 3 | .ro ds => cntL ds + 3 | .dct kvs => cntK kvs + 3 | .ref _ => 0
def cntL : List D → Nat
  | [] => 0
  | d :: ds => cnt d + 2 + cntL ds
def cntK : List (Key × D) → Nat
  | [] => 0
  | (k, d) :: r => cntKey k + cnt d + 4 + cntK r
end
mutual
def dep : D → Nat
  | .tup ds => depL ds + 1 | .lst ds => depL ds + 1 | .ro ds => depL ds + 1 | .dct kvs => depK kvs + 1
  | .non => 0 | .bl _ => 0 | .int _ => 0 | .str _ => 0 | .ref _ => 0
def depL : List D → Nat
  | [] => 0
  | d :: ds => max (dep d) (depL ds)
def depK : List (Key × D) → Nat
  | [] => 0
  | (_, d) :: r => max (dep d) (depK r)
end
theorem int_len60 {i : Int} (h : i.natAbs < 10 ^ 150) : (Str.ofString (toString i)).length ≤ 151 := by
  have h1 := int_text_length_le10 (a := i) (k := 150) (by decide) h
  rw [PySem.ofString_length]; omega
theorem log60 {i : Int} (h : i.natAbs < 10 ^ 150) : i.natAbs.log2 < 1920 := Nat.lt_of_lt_of_le (PySem.Flt.log2_lt_of (show 0 < 500 by decide) (Nat.lt_of_lt_of_le h (show 10 ^ 150 ≤ 2 ^ 500 by decide))) (by decide)
theorem str_len {s : Str} (h : PyData.strOk s = true) : (reprText s).length ≤ 10 * s.length + 2 := PySem.StrLaws.reprText_len s fun c hc => by
  have h' := (Array.all_eq_true_iff_forall_mem.mp h) c (by simpa using hc)
  have := of_decide_eq_true h'
  omega
theorem keyP_ok {k : Key} (h : smlKey k = true) : (keyP k).showable = true ∧ (keyP k).shown.length ≤ cntKey k := by
  cases k with
  | inl i =>
    have h' : i.natAbs < 10 ^ 150 := of_decide_eq_true h
    exact ⟨by simpa [keyP, PyData.showable] using log60 h', by simpa only [keyP, PyData.shown, cntKey] using int_len60 h'⟩
  | inr x => exact ⟨rfl, by simpa only [keyP, PyData.shown, cntKey] using str_len h⟩
mutual
theorem sml_ok : ∀ d : D, sml d = true → whole d = true ∧ (pyd d).showable = true ∧ (pyd d).shown.length ≤ cnt d ∧ (pyd d).depth ≤ dep d
  | .non, _ => ⟨rfl, rfl, by simp only [pyd, PyData.shown]; decide, by simp [pyd, PyData.depth]⟩
  | .bl b, _ => ⟨rfl, rfl, by simp only [pyd, PyData.shown]; cases b <;> decide, by simp [pyd, PyData.depth]⟩
  | .int i, h => by
    have h' : i.natAbs < 10 ^ 150 := of_decide_eq_true (by simpa only [sml, smlI] using h)
    exact ⟨rfl, by simpa [pyd, PyData.showable] using log60 h', by simpa only [pyd, PyData.shown, cnt] using int_len60 h', by simp [pyd, PyData.depth]⟩
  | .str s, h => ⟨rfl, rfl, by simpa only [pyd, PyData.shown, cnt] using str_len (by simpa [sml] using h), by simp [pyd, PyData.depth]⟩
  | .tup ds, h => by
    obtain ⟨a, b, c, e⟩ := smlL_ok ds (by simpa [sml] using h)
    refine ⟨by simpa [whole] using a, by simpa [pyd, PyData.showable] using b, ?_, by simp only [pyd, PyData.depth, dep]; omega⟩
    simp only [pyd, PyData.shown, cnt]
    exact Nat.le_trans (tupleText_len_le _) (by omega)
  | .lst ds, h => by
    obtain ⟨a, b, c, e⟩ := smlL_ok ds (by simpa [sml] using h)
    refine ⟨by simpa [whole] using a, by simpa [pyd, PyData.showable] using b, ?_, by simp only [pyd, PyData.depth, dep]; omega⟩
    simp only [pyd, PyData.shown, cnt]
    exact Nat.le_trans (listText_len_le _) (by omega)
  | .ro ds, h => by
    obtain ⟨a, b, c, e⟩ := smlL_ok ds (by simpa [sml] using h)
    refine ⟨by simpa [whole] using a, by simpa [pyd, PyData.showable] using b, ?_, by simp only [pyd, PyData.depth, dep]; omega⟩
    simp only [pyd, PyData.shown, cnt]
    exact Nat.le_trans (listText_len_le _) (by omega)
  | .dct kvs, h => by
    obtain ⟨a, b, c, e⟩ := smlK_ok kvs (by simpa [sml] using h)
    refine ⟨by simpa [whole] using a, by simpa [pyd, PyData.showable] using b, ?_, by simp only [pyd, PyData.depth, dep]; omega⟩
    simp only [pyd, PyData.shown, cnt]
    exact Nat.le_trans (dictText_len_le _) (by omega)
  | .ref _, h => by simp [sml] at h
theorem smlL_ok : ∀ ds : List D, smlL ds = true → wholeL ds = true ∧ PyData.showableAll (pydL ds) = true ∧ ((PyData.shownAll (pydL ds)).map (·.length)).sum + 2 * (PyData.shownAll (pydL ds)).length ≤ cntL ds ∧ PyData.depthAll (pydL ds) ≤ depL ds
  | [], _ => ⟨rfl, rfl, by simp [pydL, PyData.shownAll, cntL], by simp [pydL, PyData.depthAll, depL]⟩
  | d :: ds, h => by
    have h' : sml d = true ∧ smlL ds = true := by simpa [smlL] using h
    obtain ⟨a, b, c, e⟩ := sml_ok d h'.1
    obtain ⟨a', b', c', e'⟩ := smlL_ok ds h'.2
    refine ⟨by simp [wholeL, a, a'], by simp [pydL, PyData.showableAll, b, b'], ?_, by simp only [pydL, PyData.depthAll, depL]; omega⟩
    simp only [pydL, PyData.shownAll, List.map_cons, List.sum_cons, List.length_cons, cntL]
    omega
theorem smlK_ok : ∀ kvs : List (Key × D), smlK kvs = true → wholeK kvs = true ∧ PyData.showableKv (pydK kvs) = true ∧ ((PyData.shownKv (pydK kvs)).map (·.length)).sum + 2 * (PyData.shownKv (pydK kvs)).length ≤ cntK kvs ∧ PyData.depthKv (pydK kvs) ≤ depK kvs
  | [], _ => ⟨rfl, rfl, by simp [pydK, PyData.shownKv, cntK], by simp [pydK, PyData.depthKv, depK]⟩
  | (k, d) :: r, h => by
    have h' : (smlKey k = true ∧ sml d = true) ∧ smlK r = true := by simpa [smlK] using h
    obtain ⟨a, b, c, e⟩ := sml_ok d h'.1.2
    obtain ⟨a', b', c', e'⟩ := smlK_ok r h'.2
    obtain ⟨k1, k2⟩ := keyP_ok h'.1.1
    have k3 : (keyP k).depth = 0 := by cases k <;> simp [keyP, PyData.depth]
    refine ⟨by simp [wholeK, a, a'], by simp [pydK, PyData.showableKv, k1, b, b'], ?_, by simp only [pydK, PyData.depthKv, depK]; omega⟩
    simp only [pydK, PyData.shownKv, List.map_cons, List.sum_cons, List.length_cons, cntK, strLen_append]
    have : (Str.ofString ": ").length = 2 := by decide
    omega
end
theorem fitW_of {d : D} (h : sml d = true) (hc : cnt d ≤ 16000000) (hd : dep d ≤ 50) : fitW d := by
  obtain ⟨a, b, c, e⟩ := sml_ok d h
  exact ⟨a, b, by omega, Nat.le_trans c (Nat.le_trans hc (by decide))⟩
end VL
set_option maxHeartbeats 2000000
namespace VL
open PySem PySem.Spec L2
open PyProof.Rows hiding St
section
variable {X : Cx}
abbrev VPPs (X : Cx) (pos : Pos) (ks : List (Option Expr)) (vs : List Expr) (ps : List (VE × VE)) : Prop := PPs X pos ks vs (ps.map fun p => (LE X.K p.1, LE X.K p.2))
theorem vp_nil {pos : Pos} : VPPs X pos [] [] [] := pps_nil
theorem vp_cons {pos : Pos} {k v : Expr} {ks : List (Option Expr)} {vs : List Expr} {mk mv : VE} {ps : List (VE × VE)} (hk : PE X k (LE X.K mk)) (hv : PE X v (LE X.K mv)) (hr : VPPs X pos ks vs ps) : VPPs X pos (some k :: ks) (v :: vs) ((mk, mv) :: ps) := pps_cons hk hv hr
theorem for_list {ds : List D} {kp : Store → Prop} {c : CT} {mb : VS} {E : VEnds} {ρ : Sl} {S : Store} (I : Nat → Sl → Store → Prop) (h0 : I 0 ρ S) (hk : ∀ i ρ2 S2, I i ρ2 S2 → kp S2)
    (hs : ∀ i d ρ2 S2, ds[i]? = some d → I i ρ2 S2 → match mCT c d ρ2 with
      | some ρ3 => mb (E.loop (I (i + 1))) ρ3 S2
      | none => False)
    (he : ∀ ρ2 S2, I ds.length ρ2 S2 → E.nx ρ2 S2) : ∃ I : Nat → Sl → Store → Prop, I 0 ρ S ∧ ∀ i ρ2 S2, I i ρ2 S2 → kp S2 ∧ match ds[i]? with
  | none => E.nx ρ2 S2
  | some d => match mCT c d ρ2 with
    | some ρ3 => mb (E.loop (I (i + 1))) ρ3 S2
    | none => False := by
  have mono : ∀ {i : Nat} {d : D}, ds[i]? = some d → (fun ρ' S' => I (i + 1) ρ' S') = fun ρ' S' => i + 1 ≤ ds.length ∧ I (i + 1) ρ' S' := fun {i d} e => by
    have := getE e
    funext ρ' S'
    exact propext ⟨fun h => ⟨by omega, h⟩, fun h => h.2⟩
  refine ⟨fun i ρ2 S2 => i ≤ ds.length ∧ I i ρ2 S2, ⟨Nat.zero_le _, h0⟩, fun i ρ2 S2 ⟨hl, h⟩ => ⟨hk i ρ2 S2 h, ?_⟩⟩
  cases e : ds[i]? with
  | none =>
    have : i = ds.length := by have := List.getElem?_eq_none_iff.mp e; omega
    subst this
    exact he ρ2 S2 h
  | some d =>
    have := hs i d ρ2 S2 e h
    simp only [← mono e]
    exact this
/-- a comprehension whose turns leave the store as it is -/
theorem lc_turns {ds : List D} {kp : Store → Prop} {c : CT} {mt : VT} {me : VE} {vs : List Nat} {R : List D → Store → (D → Store → Prop) → Prop} {ρ : Sl} {S : Store} {Q : D → Store → Prop} (f : D → List D) (hl : ds.length ≤ sizeLine) (hk : kp S)
    (hs : ∀ d ∈ ds, ∀ J : List D → Store → Prop, J (f d) S → match mCT c d (wipeD ρ vs) with
      | some ρ3 => mt ρ3 S fun b S3 => if b = true then me ρ3 S3 fun y S4 => J [y] S4 else J [] S3
      | none => False)
    (hR : R (ds.flatMap f) S Q) : ds.length ≤ sizeLine ∧ ∃ I : Nat → List D → Store → Prop, I 0 [] S ∧ ∀ i acc S2, I i acc S2 → kp S2 ∧ match ds[i]? with
  | none => R acc S2 Q
  | some d => match mCT c d (wipeD ρ vs) with
    | some ρ3 => mt ρ3 S2 fun b S3 => if b = true then me ρ3 S3 fun y S4 => I (i + 1) (acc ++ [y]) S4 else I (i + 1) acc S3
    | none => False := by
  refine ⟨hl, fun i acc S2 => S2 = S ∧ acc = (ds.take i).flatMap f, ⟨rfl, by simp⟩, ?_⟩
  rintro i acc S2 ⟨rfl, rfl⟩
  refine ⟨hk, ?_⟩
  cases e : ds[i]? with
  | none =>
    have : ds.length ≤ i := List.getElem?_eq_none_iff.mp e
    rw [List.take_of_length_le this]
    exact hR
  | some d =>
    have hi := getE e
    have hd : ds[i] = d := by rw [List.getElem?_eq_getElem hi] at e; cases e; rfl
    have tk : ds.take (i + 1) = ds.take i ++ [d] := by rw [List.take_succ, e]; rfl
    have hJ := hs d (by rw [← hd]; exact List.getElem_mem hi) (fun y S4 => S4 = S2 ∧ (ds.take i).flatMap f ++ y = (ds.take (i + 1)).flatMap f) ⟨rfl, by rw [tk, List.flatMap_append]; simp⟩
    simp only [List.append_nil] at hJ
    exact hJ
end
theorem sml_noRef {d : D} {S : Store} (h : sml d = true) : noRef S d := by cases d <;> first | exact True.intro | (simp [sml] at h)
theorem sml_tyn {d : D} {S : Store} (h : sml d = true) : tyn d S ≠ "?" := by cases d <;> first | (simp [tyn]; done) | (simp [sml] at h)
theorem smlL_mem : ∀ {ds : List D} {d : D}, smlL ds = true → d ∈ ds → sml d = true
  | e :: ds, d, h, m => by
    have h' : sml e = true ∧ smlL ds = true := by simpa [smlL] using h
    cases m with
    | head => exact h'.1
    | tail _ m => exact smlL_mem h'.2 m
/-- small data, and how far -/
def Sm (n m : Nat) (d : D) : Prop := sml d = true ∧ cnt d ≤ n ∧ dep d ≤ m
theorem Sm.mono {n m n' m' : Nat} {d : D} (h : Sm n m d) (a : n ≤ n') (b : m ≤ m') : Sm n' m' d := ⟨h.1, Nat.le_trans h.2.1 a, Nat.le_trans h.2.2 b⟩
def smb (n m : Nat) (d : D) : Bool := sml d && decide (cnt d ≤ n) && decide (dep d ≤ m)
theorem smb_iff {n m : Nat} {d : D} : smb n m d = true ↔ Sm n m d := by simp [smb, Sm, and_assoc]
theorem Sm.all {n m : Nat} {ds : List D} {d : D} (h : d ∈ ds) (ha : ds.all (smb n m) = true) : Sm n m d := smb_iff.mp (List.all_eq_true.mp ha d h)
theorem sizeT {n : Nat} (h : n ≤ 1000000) : (n ≤ sizeLine) = True := eq_true (Nat.le_trans h (by decide))
def isWhole (d : D) : Bool := match d with
  | .int _ => true
  | _ => false
def isWithin (d : D) (a b : Int) : Bool := match d with
  | .int i => decide (a ≤ i) && decide (i ≤ b)
  | _ => false
def isHome (d : D) : Bool := match d with
  | .tup [.str s, .int k] => (decide (s = "peg") || decide (s = "bin")) && (decide (0 ≤ k) && decide (k ≤ 3))
  | _ => false
/-- things that have a kind, and whose items have -/
def kindly (S : Store) : D → Prop
  | .tup ds => ∀ d ∈ ds, tyn d S ≠ "?" ∧ noRef S d
  | d => tyn d S ≠ "?"
theorem sml_kindly {d : D} {S : Store} (h : sml d = true) : kindly S d := by
  cases d with
  | tup ds => exact fun e he => by have := smlL_mem (by simpa [sml] using h) he; exact ⟨sml_tyn this, sml_noRef this⟩
  | _ => exact sml_tyn h
end VL
set_option maxHeartbeats 2000000
namespace VL
open PySem PySem.Spec L2
open PyProof.Rows hiding St
theorem mVar_e {i : Nat} {ρ : Sl} {S : Store} {Q : D → Store → Prop} : mVar i ρ S Q = (match gv ρ i with
  | some d => Q d S
  | none => False) := rfl
theorem mC_e {d : D} {z_0 : Sl} {S : Store} {Q : D → Store → Prop} : mC d z_0 S Q = (Q d S) := rfl
theorem mOp_e {m : R2V} {ma mb : VE} {ρ : Sl} {S : Store} {Q : D → Store → Prop} : mOp m ma mb ρ S Q = (ma ρ S fun x S1 => mb ρ S1 fun y S2 => m x y S2 Q) := rfl
theorem mNum_e {C : Int → Int → Prop} {g : Int → Int → D} {x : D} {y : D} {S : Store} {Q : D → Store → Prop} : mNum C g x y S Q = (match x, y with
  | .int i, .int j => C i j ∧ Q (g i j) S
  | _, _ => False) := rfl
theorem mInt0_e {g : Int → Int → D} {x : D} {y : D} {S : Store} {Q : D → Store → Prop} : mInt0 g x y S Q = (match x, y with
  | .int i, .int j => Q (g i j) S
  | _, _ => False) := rfl
theorem mAdd_e {x : D} {y : D} {S : Store} {Q : D → Store → Prop} : mAdd  x y S Q = (match x, y with
  | .int i, .int j => Q (.int (i + j)) S
  | .str i, .str j => i.length + j.length ≤ sizeLine ∧ Q (.str (i ++ j)) S
  | .tup a, .tup b => a.length + b.length ≤ sizeLine ∧ Q (.tup (a ++ b)) S
  | x, y => match rdL x S, rdL y S with
    | some a, some b => a.length + b.length ≤ sizeLine ∧ Q (.lst (a ++ b)) S
    | _, _ => False) := rfl
theorem mMul_e {x : D} {y : D} {S : Store} {Q : D → Store → Prop} : mMul  x y S Q = (match x, y with
  | .int i, .int j => CMul i j ∧ Q (.int (i * j)) S
  | x, .int k => match rdL x S with
    | some ds => -(2 ^ 63) ≤ k ∧ k < 2 ^ 63 ∧ ds.length * k.toNat ≤ sizeLine ∧ Q (.lst (List.replicate k.toNat ds).flatten) S
    | none => False
  | _, _ => False) := rfl
theorem mEq_e {x : D} {y : D} {S : Store} {Q : D → Store → Prop} : mEq  x y S Q = (match x, y with
  | .str a, .str b => Q (.bl (decide (a = b))) S
  | x, y => okq S x ∧ okq S y ∧ Q (.bl (eqq S x y)) S) := rfl
theorem mNe_e {x : D} {y : D} {S : Store} {Q : D → Store → Prop} : mNe  x y S Q = (match x, y with
  | .str a, .str b => Q (.bl (!decide (a = b))) S
  | x, y => okq S x ∧ okq S y ∧ Q (.bl (!eqq S x y)) S) := rfl
theorem mEqS_e {x : D} {y : D} {S : Store} {Q : D → Store → Prop} : mEqS  x y S Q = (match y with
  | .str z => noRef S x ∧ Q (.bl (isS x z)) S
  | _ => False) := rfl
theorem mIx_e {x : D} {y : D} {S : Store} {Q : D → Store → Prop} : mIx  x y S Q = (match x, y with
  | .str z, .int i => z.length ≤ sizeLine ∧ (match atI z.cps.toList i with
    | some c => Q (.str ⟨#[c]⟩) S
    | none => False)
  | x, .int i => match rdS x S with
    | some ds => (match atI ds i with
      | some d => Q d S
      | none => False)
    | none => False
  | _, _ => False) := rfl
theorem mNil_e {z_0 : Sl} {S : Store} {Q : List D → Store → Prop} : mNil  z_0 S Q = (Q [] S) := rfl
theorem mCons_e {m : VE} {ms : VA} {ρ : Sl} {S : Store} {Q : List D → Store → Prop} : mCons m ms ρ S Q = (m ρ S fun d S1 => ms ρ S1 fun ds S2 => Q (d :: ds) S2) := rfl
theorem mTup_e {ms : VA} {ρ : Sl} {S : Store} {Q : D → Store → Prop} : mTup ms ρ S Q = (ms ρ S fun ds S1 => ds.length ≤ sizeLine ∧ Q (.tup ds) S1) := rfl
theorem mLst_e {ms : VA} {ρ : Sl} {S : Store} {Q : D → Store → Prop} : mLst ms ρ S Q = (ms ρ S fun ds S1 => ds.length ≤ sizeLine ∧ Q (.lst ds) S1) := rfl
theorem mLstM_e {ms : VA} {ρ : Sl} {S : Store} {Q : D → Store → Prop} : mLstM ms ρ S Q = (ms ρ S fun ds S1 => ds.length ≤ sizeLine ∧ ∀ a, S1 a = none → Q (.ref a) (supd S1 a (.lst ds))) := rfl
theorem mTest_e {m : VE} {ρ : Sl} {S : Store} {Q : Bool → Store → Prop} : mTest m ρ S Q = (m ρ S fun d S1 => match d with
  | .bl b => Q b S1
  | _ => False) := rfl
theorem mNot_e {m : VT} {ρ : Sl} {S : Store} {Q : Bool → Store → Prop} : mNot m ρ S Q = (m ρ S fun b S1 => Q (!b) S1) := rfl
theorem mAnd_e {m n : VT} {ρ : Sl} {S : Store} {Q : Bool → Store → Prop} : mAnd m n ρ S Q = (m ρ S fun b S1 => if b = true then n ρ S1 Q else Q false S1) := rfl
theorem mOr_e {m n : VT} {ρ : Sl} {S : Store} {Q : Bool → Store → Prop} : mOr m n ρ S Q = (m ρ S fun b S1 => if b = true then Q true S1 else n ρ S1 Q) := rfl
theorem mAndV_e {m n : VE} {ρ : Sl} {S : Store} {Q : D → Store → Prop} : mAndV m n ρ S Q = (m ρ S fun d S1 => match d with
  | .bl b => if b = true then n ρ S1 Q else Q (.bl false) S1
  | _ => False) := rfl
theorem mOrV_e {m n : VE} {ρ : Sl} {S : Store} {Q : D → Store → Prop} : mOrV m n ρ S Q = (m ρ S fun d S1 => match d with
  | .bl b => if b = true then Q (.bl true) S1 else n ρ S1 Q
  | _ => False) := rfl
theorem mNotV_e {m : VE} {ρ : Sl} {S : Store} {Q : D → Store → Prop} : mNotV m ρ S Q = (m ρ S fun d S1 => match d with
  | .bl b => Q (.bl (!b)) S1
  | _ => False) := rfl
theorem mChain_e {m m' : R2V} {ma mb mc : VE} {ρ : Sl} {S : Store} {Q : D → Store → Prop} : mChain m m' ma mb mc ρ S Q = (ma ρ S fun x S1 => mb ρ S1 fun y S2 => m x y S2 fun z S3 => match z with
  | .bl k => if k = true then mc ρ S3 fun w S4 => m' y w S4 Q else Q (.bl false) S3
  | _ => False) := rfl
theorem mCB_e {m : CV} {ms : VA} {ρ : Sl} {S : Store} {Q : D → Store → Prop} : mCB m ms ρ S Q = (ms ρ S fun ds S1 => m ds S1 Q) := rfl
theorem mLen_e {ds : List D} {S : Store} {Q : D → Store → Prop} : mLen  ds S Q = (match ds with
  | [.str z] => z.length ≤ sizeLine ∧ Q (.int z.length) S
  | [d] => match rdS d S with
    | some ds => Q (.int ds.length) S
    | none => False
  | _ => False) := rfl
theorem mInt1_e {g : Int → Int} {ds : List D} {S : Store} {Q : D → Store → Prop} : mInt1 g ds S Q = (match ds with
  | [.int i] => Q (.int (g i)) S
  | _ => False) := rfl
theorem mInt2_e {g : Int → Int → Int} {ds : List D} {S : Store} {Q : D → Store → Prop} : mInt2 g ds S Q = (match ds with
  | [.int i, .int j] => Q (.int (g i j)) S
  | _ => False) := rfl
theorem mBls_e {g : List Bool → Bool} {ds : List D} {S : Store} {Q : D → Store → Prop} : mBls g ds S Q = (match ds with
  | [d] => match rdR d S with
    | some ds => (match bls ds with
      | some bs => Q (.bl (g bs)) S
      | none => False)
    | none => False
  | _ => False) := rfl
theorem mTupOf_e {ds : List D} {S : Store} {Q : D → Store → Prop} : mTupOf  ds S Q = (match ds with
  | [.tup es] => Q (.tup es) S
  | [d] => match rdR d S with
    | some es => Q (.tup es) S
    | none => False
  | _ => False) := rfl
theorem mIsi_e {n : String} {m : VE} {ρ : Sl} {S : Store} {Q : D → Store → Prop} : mIsi n m ρ S Q = (m ρ S fun d S1 => tyn d S1 ≠ "?" ∧ Q (.bl (isT (tyn d S1) n)) S1) := rfl
theorem mCall_e {n : Nat} {sp : VSp} {ms : VA} {ρ : Sl} {S : Store} {Q : D → Store → Prop} : mCall n sp ms ρ S Q = (ms ρ S fun ds S1 => ds.length = n ∧ sp ds S1 Q) := rfl
theorem mNx_e {E : VEnds} {ρ : Sl} {S : Store} : mNx  E ρ S = (E.nx ρ S) := rfl
theorem mSeq_e {t u : VS} {E : VEnds} {ρ : Sl} {S : Store} : mSeq t u E ρ S = (t (E.on fun ρ' S' => u E ρ' S') ρ S) := rfl
theorem mDrop_e {m : VE} {E : VEnds} {ρ : Sl} {S : Store} : mDrop m E ρ S = (m ρ S fun _ S' => E.nx ρ S') := rfl
theorem mRet_e {m : VE} {E : VEnds} {ρ : Sl} {S : Store} : mRet m E ρ S = (m ρ S E.rt) := rfl
theorem mIf_e {c : VT} {t u : VS} {E : VEnds} {ρ : Sl} {S : Store} : mIf c t u E ρ S = (c ρ S fun b S1 => if b = true then t E ρ S1 else u E ρ S1) := rfl
theorem mAsg_e {m : VE} {g : VG} {E : VEnds} {ρ : Sl} {S : Store} : mAsg m g E ρ S = (m ρ S fun d S1 => g d ρ S1 E.nx) := rfl
theorem mSet_e {i : Nat} {m : VE} {E : VEnds} {ρ : Sl} {S : Store} : mSet i m E ρ S = (m ρ S fun d S1 => E.nx (ρ.set i (some d)) S1) := rfl
theorem mUnp_e {is : List Nat} {m : VE} {E : VEnds} {ρ : Sl} {S : Store} : mUnp is m E ρ S = (m ρ S fun d S1 => match mCT (.many is) d ρ with
  | some ρ' => E.nx ρ' S1
  | none => False) := rfl
theorem gSetIx_e {mo mi : VE} {d : D} {ρ : Sl} {S : Store} {Q : Sl → Store → Prop} : gSetIx mo mi d ρ S Q = (mo ρ S fun o S1 => mi ρ S1 fun i S2 => match o, i with
  | .ref a, .int i => match S2 a with
    | some (.lst ds) => match ixN ds.length i with
      | some j => Q ρ (supd S2 a (.lst (ds.set j d)))
      | none => False
    | _ => False
  | _, _ => False) := rfl
theorem mSq_e {m : VE} {ρ : Sl} {S : Store} {Q : List D → (Store → Prop) → Store → Prop} : mSq m ρ S Q = (m ρ S fun d S1 => match d with
  | .tup ds => Q ds (fun _ => True) S1
  | .lst ds => Q ds (fun _ => True) S1
  | .ro ds => Q ds (fun _ => True) S1
  | .ref a => match S1 a with
    | some (.lst ds) => Q ds (fun S2 => S2 a = some (.lst ds)) S1
    | _ => False
  | _ => False) := rfl
theorem mRng1_e {m : VE} {ρ : Sl} {S : Store} {Q : List D → (Store → Prop) → Store → Prop} : mRng1 m ρ S Q = (m ρ S fun d S1 => match d with
  | .int j => -(2 ^ 62) ≤ j ∧ j < 2 ^ 62 ∧ Q (rngD 0 j.toNat) (fun _ => True) S1
  | _ => False) := rfl
theorem mYes_e {z_0 : Sl} {S : Store} {Q : Bool → Store → Prop} : mYes  z_0 S Q = (Q true S) := rfl
theorem mApp_e {mo me : VE} {ρ : Sl} {S : Store} {Q : D → Store → Prop} : mApp mo me ρ S Q = (mo ρ S fun o S1 => match o with
  | .ref a => (∃ ds, S1 a = some (.lst ds)) ∧ me ρ S1 fun d S2 => match S2 a with
    | some (.lst ds) => ds.length < sizeLine ∧ Q .non (supd S2 a (.lst (ds ++ [d])))
    | _ => False
  | _ => False) := rfl
theorem mIn_e {neg : Bool} {x : D} {y : D} {S : Store} {Q : D → Store → Prop} : mIn neg x y S Q = (match x, y with
  | .str x, .str z => (match x.cps.toList with
    | [c] => Q (.bl (if neg then !decide (c ∈ z.cps.toList) else decide (c ∈ z.cps.toList))) S
    | _ => False)
  | x, y => match rdS y S with
    | some ds => flatD x = true ∧ ds.all flatD = true ∧ Q (.bl (if neg then !inF x ds else inF x ds)) S
    | none => False) := rfl
theorem mNeg_e {m : VE} {ρ : Sl} {S : Store} {Q : D → Store → Prop} : mNeg m ρ S Q = (m ρ S fun d S1 => match d with
  | .int i => Q (.int (-i)) S1
  | _ => False) := rfl
theorem mCT_1 {i : Nat} {d : D} {ρ : Sl} : mCT (.one i) d ρ = some (ρ.set i (some d)) := rfl
theorem mCT_m {is : List Nat} {ds : List D} {ρ : Sl} : mCT (.many is) (.tup ds) ρ = if ds.length = is.length then some (setAll ρ is ds) else none := rfl
theorem setAll_c {α : Type} {ρ : List (Option α)} {i : Nat} {is : List Nat} {d : α} {ds : List α} : setAll ρ (i :: is) (d :: ds) = setAll (ρ.set i (some d)) is ds := rfl
theorem setAll_n {α : Type} {ρ : List (Option α)} {ds : List α} : setAll ρ [] ds = ρ := by cases ds <;> rfl
theorem wipeD_n {ρ : Sl} : wipeD ρ [] = ρ := rfl
theorem wipeD_c {ρ : Sl} {v : Nat} {vs : List Nat} : wipeD ρ (v :: vs) = (wipeD ρ vs).set v none := rfl
theorem rFrz_e {acc : List D} {S : Store} {Q : D → Store → Prop} : rFrz acc S Q = Q (.lst acc) S := rfl
theorem rMut_e {acc : List D} {S : Store} {Q : D → Store → Prop} : rMut acc S Q = ∀ a, S a = none → Q (.ref a) (supd S a (.lst acc)) := rfl
theorem mFor_lst {c : CT} {mi : VW} {mb : VS} {E : VEnds} {ρ : Sl} {S : Store} (ds : List D) (I : Nat → Sl → Store → Prop) {kp : Store → Prop} {S1 : Store} (hm : ∀ Qi : List D → (Store → Prop) → Store → Prop, Qi ds kp S1 → mi ρ S Qi) (h0 : I 0 ρ S1) (hk : ∀ i ρ2 S2, I i ρ2 S2 → kp S2)
    (hs : ∀ (i : Nat) d ρ2 S2, ds[i]? = some d → I i ρ2 S2 → match mCT c d ρ2 with
      | some ρ3 => mb (E.loop (I (i + 1))) ρ3 S2
      | none => False)
    (he : ∀ ρ2 S2, I ds.length ρ2 S2 → E.nx ρ2 S2) : mFor c mi mb E ρ S := hm _ (for_list I h0 hk hs he)
theorem mLc_of {c : CT} {mi : VW} {mt : VT} {me : VE} {vs : List Nat} {R : List D → Store → (D → Store → Prop) → Prop} {ρ : Sl} {S : Store} {Q : D → Store → Prop} (ds : List D) (f : D → List D) {kp : Store → Prop} {S1 : Store} (hm : ∀ Qi : List D → (Store → Prop) → Store → Prop, Qi ds kp S1 → mi ρ S Qi)
    (hl : ds.length ≤ sizeLine) (hk : kp S1)
    (hs : ∀ d ∈ ds, ∀ J : List D → Store → Prop, J (f d) S1 → match mCT c d (wipeD ρ vs) with
      | some ρ3 => mt ρ3 S1 fun b S3 => if b = true then me ρ3 S3 fun y S4 => J [y] S4 else J [] S3
      | none => False)
    (hR : R (ds.flatMap f) S1 Q) : mLcG c mi mt me vs R ρ S Q := hm _ (lc_turns f hl hk hs hR)
theorem okq_of {S : Store} {d : D} (h : rsv S d = d) (k : SeqAt.shaped (py d) = true) : okq S d := by unfold okq; rw [h]; exact k
end VL
set_option maxHeartbeats 2000000
namespace VL
open PySem PySem.Spec L2
open PyProof.Rows hiding St
section
variable {X : Cx}
def rdD (d : D) (S : Store) : Option (List (Key × D)) := match d with
  | .dct kvs => some kvs
  | .ref a => match S a with
    | some (.dct kvs) => some kvs
    | _ => none
  | _ => none
theorem rdD_dct {kvs : List (Key × D)} {S : Store} : rdD (.dct kvs) S = some kvs := rfl
theorem rdD_ok {K : PySem.W.Frag} {G H : Hp} {S : Store} {d : D} {v : V} {kvs : List (Key × D)} (vw : View K G S H) (r : Rp K G v d) (h : rdD d S = some kvs) : ∃ a ks, v = .ref a ∧ Rd H a (.dK ks) ∧ RpK K G ks kvs := by
  cases r with
  | dct e r => simp only [rdD, Option.some.injEq] at h; subst h; exact ⟨_, _, rfl, .inr ⟨_, vw.gh _ _ e⟩, r⟩
  | ref a =>
    simp only [rdD] at h
    split at h
    · rename_i ds' e
      cases h
      obtain ⟨_, u, hu, k⟩ := vw.st a _ e
      cases k with
      | dct r => exact ⟨a, _, rfl, .inl hu, r⟩
    · cases h
  | _ => simp [rdD] at h
theorem key_ok {K : PySem.W.Frag} {G : Hp} {v : V} {d : D} {k : Key} (r : Rp K G v d) (h : keyD d = some k) : v = kV k := by
  cases r <;> simp only [keyD, Option.some.injEq, reduceCtorEq] at h <;> subst h <;> rfl
def mDSub (m i : VE) : VE := fun ρ S Q => m ρ S fun d S1 => i ρ S1 fun y S2 => match rdD d S2, keyD y with
  | some kvs, some k => (match valD kvs k with
    | some v => Q v S2
    | none => False)
  | _, _ => False
theorem mDSub_e {m i : VE} {ρ : Sl} {S : Store} {Q : D → Store → Prop} : mDSub m i ρ S Q = m ρ S fun d S1 => i ρ S1 fun y S2 => match rdD d S2, keyD y with
  | some kvs, some k => (match valD kvs k with
    | some v => Q v S2
    | none => False)
  | _, _ => False := rfl
theorem v_dsub {o i : Expr} {m mi : VE} {pos : Pos} (hu : X.A.units + 1 < cLine) (ho : PE X o (LE X.K m)) (hi : PE X i (LE X.K mi)) (hs : NoSl i := by first | exact fun _ _ => rfl | trivial) : PE X (.Subscript o i pos) (LE X.K (mDSub m mi)) := by
  refine PE.imp (pe_dget hu ho hi hs) fun σ H Q' ⟨ρ, S, G, Q, vw, re, hm, k⟩ => ?_
  refine ⟨ρ, S, G, _, vw, re, hm, fun d S1 v1 H1 G1 a1 r1 h1 => ?_⟩
  refine ⟨ρ, S1, G1, _, a1.vw, re.mono a1.gg, h1, fun y S2 v2 H2 G2 a2 r2 h2 => ?_⟩
  split at h2
  · rename_i kvs ky e1 e2
    obtain ⟨a, ks, rfl, hr, rk⟩ := rdD_ok a2.vw (r1.mono a2.gg) e1
    split at h2
    · rename_i w e3
      rcases rk.val (k := ky) with ⟨z, _⟩ | ⟨v, d', z1, z2, z3⟩
      · rw [e3] at z; cases z
      · rw [e3] at z1; cases z1
        exact ⟨a, v, rfl, .inl ⟨ks, ky, hr, key_ok r2 e2, z2.symm⟩, k _ S2 _ H2 G2 (a1.trans a2) z3 h2⟩
    · exact h2.elim
  · exact h2.elim
def sgnD (x : Str) : List D := x.cps.toList.map fun c => .str ⟨#[c]⟩
theorem walks_str {K : PySem.W.Frag} {G1 : Hp} {x : Str} : Walks K G1 (fun _ => True) (Its x) (sgnD x) where
  stop := fun H G S g v k => by show x.cps.size ≤ (sgnD x).length; simp [sgnD]
  goes := fun i H G S hi g v k => by show i < x.cps.size; simpa [sgnD] using hi
  yld := fun i d H u H' G S hd g v k y => by
    obtain ⟨e1, c, e2, e3⟩ := y
    subst e1 e3
    simp only [sgnD, List.getElem?_map, Array.getElem?_toList, e2, Option.map_some, Option.some.injEq] at hd
    subst hd
    exact ⟨G, Aft.refl v, .str _⟩
def mSgn (m : VE) : VW := fun ρ S Q => m ρ S fun d S1 => match d with
  | .str x => Q (sgnD x) (fun _ => True) S1
  | _ => False
theorem mSgn_e {m : VE} {ρ : Sl} {S : Store} {Q : List D → (Store → Prop) → Store → Prop} : mSgn m ρ S Q = m ρ S fun d S1 => match d with
  | .str x => Q (sgnD x) (fun _ => True) S1
  | _ => False := rfl
theorem i_str {tg e : Expr} {m : VE} (h : PE X e (LE X.K m)) : PI X tg e (LI X.K (mSgn m)) := by
  refine PI.imp (pi_str h) fun σ H R ⟨ρ, S, G, Q, vw, re, hm, k⟩ => ?_
  refine ⟨ρ, S, G, _, vw, re, hm, fun d S1 v1 H1 G1 a1 r1 h1 => ?_⟩
  cases r1 <;> try exact h1.elim
  rename_i x
  exact ⟨x, rfl, k _ _ S1 H1 G1 _ a1 walks_str h1⟩
end
end VL
set_option maxHeartbeats 2000000
namespace VL
open PySem PySem.Spec L2
open PyProof.Rows hiding St
theorem kds_codeIn {K : PySem.W.Frag} {cd : Value} {q : Str} (h : PySem.W.codeIn K cd q = true) : PySem.W.kdsCode K cd = true := by
  unfold PySem.W.codeIn at h
  unfold PySem.W.kdsCode
  split at h
  · split at h
    · rename_i e; simp only [e]
    · cases h
  · cases h
section
variable {P : Program} {w : World} {A : Around} {E : Value → Shared → Prop} {s : Shared}
abbrev freshSet (w : World) : Obj := { cls := .type "set", dict := none, data := .set #[] 0 (.fresh 0 0 (!w.params.followText "set-order")) }
theorem newSet_known {Qs : Value → Shared → Prop} (q : Qs (.ref s.heap.objs.size) { s with heap := s.heap.push (freshSet w) }) : wpAny (model P w) A (newSet (.type "set")) Qs E s := by
  unfold newSet setsByText
  refine wpAny_bind (wpAny_bind (wpAny_askSetting (wpAny_pure ?_))); dsimp only; simp only [newObj]
  exact wpAny_bind (wpAny_alloc (wpAny_pure q))
theorem two_laid {b : Bool} {el : List (Bool × Sem Value)} {ts : List (Sem Value)} {Qs : Value → Shared → Prop} (h0 : el.findIdx? (·.1) = none) (h1 : el.length ≤ 30) (h2 : el.map (·.2) = ts)
    (q : wpAny (model P w) A (evalAll ts) (fun us s1 => PySem.W.KdsFill (model P w) A E false s.heap.objs.size Qs us s1) E { s with heap := s.heap.push (freshSet w) }) :
    wpAny (model P w) A (setDisplay .oneByOne b el) Qs E s := by
  have many : (if el.length > 30 then 0 else (el.findIdx? (·.1)).getD el.length) = el.length := by rw [if_neg (by omega), h0]; rfl
  unfold setDisplay
  try dsimp only
  rw [if_neg (by decide)]
  refine wpAny_bind (newSet_known ?_); dsimp only
  rw [many, List.take_length, List.drop_length, h2]
  refine wpAny_bind (wpAny_holding (wpAny_bind (wpAny_mono q (fun us s1 q1 => ?_) fun _ _ z => z)))
  refine wpAny_bind (wpAny_holding (wpAny_bind (wpAny_mono (PySem.W.kds_for (fun x R s2 hx => ?_) us s1 q1) (fun _ s2 q2 => ?_) fun _ _ z => z)))
  · refine wpAny_bind (wpAny_mono hx (fun _ s3 q3 => ?_) fun _ _ z => z)
    first | exact wpAny_bind (wpAny_pure (wpAny_pure ⟨rfl, q3⟩)) | exact wpAny_pure ⟨rfl, q3⟩
  · have q3 : Qs (.ref s.heap.objs.size) s2 := by simpa [PySem.W.KdsFill] using q2
    rw [if_neg (by decide)]
    refine wpAny_pure ?_; rw [List.forIn_nil]
    exact wpAny_pure (wpAny_pure q3)
theorem add_one {a : Addr} {Sm : Int → Bool} {n : Nat} {k : Int} {tk : Tok} {Qs : Bool → Shared → Prop} (R : SetR w s.heap a Sm n) (room : n + 1 < scanBound)
    (q : ∀ h', Heap.SameBut a s.heap h' → SetR w h' a (fun j => Sm j || decide (j = k)) (if Sm k = true then n else n + 1) → Qs (!Sm k) { s with heap := h', toks := s.toks + 1 }) : wpAny (model P w) A (setAdd a (.int k tk)) Qs E s := by
  unfold setAdd
  refine wpAny_holding (wpAny_bind ((intKind P w).pyHash (intKind_is P w k tk) ?_))
  exact setR_add_hashed (s := { s with toks := s.toks + 1 }) R room q
end
section
variable {X : Cx}
def tSet2 (w : World) (ta tb : TE) : TE := fun σ H Q => ∀ p, H p = none → ta σ (upd H p (SetO w p (fun _ => false) 0)) fun x H1 => tb σ H1 fun y H2 => ∃ i j : Int, x = .int i ∧ y = .int j ∧ H2 p = some (SetO w p (fun _ => false) 0) ∧
  ∀ (S : Int → Bool), (∀ k, S k = true ↔ k = i ∨ k = j) → Q (.ref p) (upd H2 p (SetO w p S (if i = j then 1 else 2)))
theorem pe_set2 {a b : Expr} {ta tb : TE} {pos : Pos} (hcd : PySem.W.kdsCode X.K X.env.code = true) (ha : PE X a ta) (hb : PE X b tb) (hp : [a, b].all PySem.W.kdsPlain = true := by rfl) : PE X (.Set [a, b] 0 pos) (tSet2 X.w ta tb) := by
  refine ⟨fun pins s σ H Q I q => ?_⟩
  have hn := I.hok.fresh (Nat.le_refl s.heap.objs.size)
  have I1 : L2.Inv X pins σ (upd H s.heap.objs.size (SetO X.w s.heap.objs.size (fun _ => false) 0)) { s with heap := s.heap.push (freshSet X.w) } :=
    I.laid (t' := s.toks) (fun b u e => Heap.get?_push_of_some _ e) (Nat.le_refl _) (setO_new (setR_fresh X.w))
  rw [arm_eval_Set]
  refine wpAny_bind (wpAny_standAt (wpAny_bind (PySem.W.kds_main I.kIn hcd fun bb => ?_)))
  rw [PySem.W.kds_star [a, b] hp, List.map_map]
  have road : displayRoad 0 [a, b] = .oneByOne := by unfold displayRoad; rw [if_neg (Nat.lt_irrefl 0), if_pos (by simp)]
  rw [road]
  refine two_laid (ts := (evalEach [a, b] X.env).map fun t => do let v ← t; standAt pos; pure v) ?_ ?_ ?_ ?_
  · refine List.findIdx?_eq_none_iff.mpr fun x hx => ?_
    obtain ⟨t, _, rfl⟩ := List.mem_map.mp hx; rfl
  · rw [List.length_map, PySem.W.kds_len]; simp
  · rw [List.map_map]; try rfl
  refine PySem.W.kds_all pos [a, b] _ _ ?_
  refine wpAny_mono (ha.run pins _ σ _ _ I1 (q _ hn)) (fun u s1 ⟨x, H1, I2, rx, q1⟩ => ?_) fun _ _ z => z
  refine wpAny_mono (hb.run pins s1 σ H1 _ I2 q1) (fun u2 s2 ⟨y, H2, I3, ry, i, j, ex, ey, hS, q2⟩ => ?_) fun _ _ z => z
  subst ex ey
  obtain ⟨t1, rfl⟩ := rx
  obtain ⟨t2, rfl⟩ := ry
  show PySem.W.KdsFill (model X.prog X.w) X.A X.xe false s.heap.objs.size (EP X pins σ Q) [.int i t1, .int j t2] s2
  have R0 := setO_get I3 hS
  refine PySem.W.kds_fill_cons (add_one R0 (by decide) fun h1 sb1 R1 => ?_)
  have R1' : SetR X.w h1 s.heap.objs.size (fun k => decide (k = i)) 1 := by
    have := SetR.congr R1 (S' := fun k => decide (k = i)) (fun k => by simp)
    simpa using this
  refine PySem.W.kds_fill_cons (add_one (s := { s2 with heap := h1, toks := s2.toks + 1 }) R1' (by decide) fun h2 sb2 R2 => ?_)
  refine PySem.W.kds_fill_nil rfl ?_
  have he : ∃ u, h2.get? s.heap.objs.size = some u := by
    have ⟨o, _, _, _, ho, _⟩ := R2
    exact ⟨o, ho⟩
  have R2' : SetR X.w h2 s.heap.objs.size (fun k => decide (k = i) || decide (k = j)) (if i = j then 1 else 2) := by
    have e : (if decide (j = i) = true then 1 else 1 + 1) = if i = j then 1 else 2 := by by_cases h : i = j <;> simp [h, eq_comm]
    rw [← e]; exact R2
  exact ⟨.ref s.heap.objs.size, _, I3.write (e := s.heap.objs.size) (t' := s2.toks + 1 + 1) (by rw [hS]; trivial) (.inl rfl) (fun b u hb hu => (sb2.2 b hb).trans ((sb1.2 b hb).trans hu)) he (setO_new R2'), rfl, q2 _ fun k => by simp⟩
/-- sorted of two ints, each once -/
def sort2 (i j : Int) : List Int := if i = j then [i] else if i < j then [i, j] else [j, i]
theorem sort2_of {i j : Int} {ns : List Int} (h1 : ns.Pairwise (· < ·)) (h2 : ∀ k, k ∈ ns ↔ k = i ∨ k = j) (h3 : ns.length = if i = j then 1 else 2) : ns = sort2 i j := by
  unfold sort2
  by_cases e : i = j
  · rw [if_pos e] at h3 ⊢
    match ns, h3 with
    | [a], _ =>
      have := (h2 a).mp (by simp)
      rcases this with z | z
      · rw [z]
      · rw [z, e]
  · rw [if_neg e] at h3 ⊢
    match ns, h3 with
    | [a, b], _ =>
      have hab : a < b := by simpa using h1
      have ha := (h2 a).mp (by simp)
      have hb := (h2 b).mp (by simp)
      by_cases l : i < j
      · rw [if_pos l]
        rcases ha with rfl | rfl <;> rcases hb with rfl | rfl <;> first | rfl | omega
      · rw [if_neg l]
        rcases ha with rfl | rfl <;> rcases hb with rfl | rfl <;> first | rfl | omega
/-- sorted({a, b}): a new list of the store -/
def mSort2 (ma mb : VE) : VE := fun ρ S Q => ma ρ S fun x S1 => mb ρ S1 fun y S2 => match x, y with
  | .int i, .int j => ∀ p, S2 p = none → Q (.ref p) (supd S2 p (.lst ((sort2 i j).map D.int)))
  | _, _ => False
theorem mSort2_e {ma mb : VE} {ρ : Sl} {S : Store} {Q : D → Store → Prop} : mSort2 ma mb ρ S Q = ma ρ S fun x S1 => mb ρ S1 fun y S2 => match x, y with
  | .int i, .int j => ∀ p, S2 p = none → Q (.ref p) (supd S2 p (.lst ((sort2 i j).map D.int)))
  | _, _ => False := rfl
theorem rints {K : PySem.W.Frag} (G : Hp) : ∀ ns : List Int, RpL K G (ns.map V.int) (ns.map D.int)
  | [] => .nil
  | n :: ns => .cons (.int n) (rints G ns)
theorem v_sort2 {a b : Expr} {ma mb : VE} {p1 p2 pos : Pos} (hc : X.calm = true) (hcd : PySem.W.kdsCode X.K X.env.code = true) (hg : Gl X "sorted") (hm : X.mg "sorted" = none) (ha : PE X a (LE X.K ma)) (hb : PE X b (LE X.K mb)) (hp : [a, b].all PySem.W.kdsPlain = true := by rfl)
    (he : starEach [.Set [a, b] 0 p2] X.env = (false, eval (.Set [a, b] 0 p2) X.env) :: starEach [] X.env := by rfl) : PE X (.Call (.Name "sorted" p1) [.Set [a, b] 0 p2] [] pos) (LE X.K (mSort2 ma mb)) := by
  refine PE.imp (pe_callB (cr_sortedSet hc) hg hm (by decide +kernel) (pa_cons (pe_set2 hcd ha hb hp) pa_nil he) (by decide) (by decide) he) fun σ H Q' ⟨ρ, S, G, Q, vw, re, hm, k⟩ => ?_
  intro p hp
  have n0 := vw.none hp
  have aj := (Aft.refl vw).junk (u := SetO X.w p (fun _ => false) 0) hp n0.2 n0.1
  refine ⟨ρ, S, G, _, aj.vw, re, hm, fun x S1 v1 H1 G1 a1 r1 h1 => ?_⟩
  refine ⟨ρ, S1, G1, _, a1.vw, re.mono a1.gg, h1, fun y S2 v2 H2 G2 a2 r2 h2 => ?_⟩
  cases r1 <;> try exact h2.elim
  cases r2 <;> try exact h2.elim
  rename_i i j
  have a12 := aj.trans (a1.trans a2)
  obtain ⟨e1, s1, g1⟩ := a1.fr p _ n0.2 upd_same
  obtain ⟨e2, s2, g2⟩ := a2.fr p _ s1 e1
  refine ⟨i, j, rfl, rfl, e2, fun Sm hSm => ?_⟩
  refine ⟨p, Sm, _, rfl, upd_same, by split <;> decide, fun ns t hs hk hl ht => ?_⟩
  have en := sort2_of hs (fun k => by rw [hk, hSm]) hl
  subst en
  have gp : G2 p = none := by rw [g2, g1]; exact n0.1
  have b2 : Aft X.K G S H S2 (upd H2 p (SetO X.w p Sm (if i = j then 1 else 2))) G2 := (a12.junk (a := p) hp s2 gp)
  have b3 := b2.vw.stored (o := .lst ((sort2 i j).map D.int)) ht (.lst (rints _ _))
  exact k _ _ _ _ _ (b2.trans b3) (.ref _) (h2 t (b2.vw.none ht).2)
end
end VL
set_option maxHeartbeats 2000000
namespace VL
open PySem PySem.Spec L2
open PyProof.Rows hiding St
def sameC : Value → D → Bool
  | .none, .non => true
  | .bool a, .bl b => a == b
  | .int i _, .int j => decide (i = j)
  | .str x _, .str y => decide (x = y)
  | _, _ => false
def allC : List Value → List D → Bool
  | [], [] => true
  | v :: vs, d :: ds => sameC v d && allC vs ds
  | _, _ => false
def tupC (o : Obj) (ds : List D) : Bool := decide (o.cls = .type "tuple") && (match o.data with
  | .seq its _ => decide (its.size ≤ sizeLine) && allC its.toList ds
  | _ => false)
theorem sameC_ok {K : PySem.W.Frag} {v : Value} {d : D} (h : sameC v d = true) : ∃ u, RelV u v ∧ ∀ G, Rp K G u d := by
  unfold sameC at h
  split at h
  · exact ⟨.non, rfl, fun _ => .non⟩
  · rename_i a b
    obtain rfl : a = b := by simpa using h
    exact ⟨.bl a, rfl, fun _ => .bl a⟩
  · rename_i i t j
    obtain rfl : i = j := by simpa using h
    exact ⟨.int i, ⟨t, rfl⟩, fun _ => .int i⟩
  · rename_i x t y
    obtain rfl : x = y := by simpa using h
    exact ⟨.str x, ⟨t, rfl⟩, fun _ => .str x⟩
  · cases h
theorem allC_ok {K : PySem.W.Frag} : ∀ {vs : List Value} {ds : List D}, allC vs ds = true → ∃ us, Vals us vs ∧ ∀ G, RpL K G us ds
  | [], [], _ => ⟨[], .nil, fun _ => .nil⟩
  | v :: vs, d :: ds, h => by
    have h' : sameC v d = true ∧ allC vs ds = true := by simpa [allC] using h
    obtain ⟨u, r, q⟩ := sameC_ok (K := K) h'.1
    obtain ⟨us, rs, qs⟩ := allC_ok (K := K) h'.2
    exact ⟨u :: us, .cons r rs, fun G => .cons (q G) (qs G)⟩
  | [], _ :: _, h => by simp [allC] at h
  | _ :: _, [], h => by simp [allC] at h
theorem tupC_ok {K : PySem.W.Frag} {a : Addr} {o : Obj} {ds : List D} (l : K.lookup a = some o) (h : tupC o ds = true) : ∀ G, Rp K G (.ref a) (.tup ds) := by
  unfold tupC at h
  rw [Bool.and_eq_true] at h
  obtain ⟨h1, h2⟩ := h
  split at h2
  · rename_i its n e
    rw [Bool.and_eq_true] at h2
    obtain ⟨us, r, q⟩ := allC_ok (K := K) h2.2
    exact fun G => .tup (.inr ⟨o, its, n, l, of_decide_eq_true h1, e, of_decide_eq_true h2.1, r⟩) (q G)
  · cases h2
section
variable {X : Cx}
theorem v_gtup {x : Str} {d : D} {pos : Pos} (hg : Gl X x) (hm : ∃ a, X.mg x = some (.ref a) ∧ ∀ G, Rp X.K G (.ref a) d) (hd : (x == ("__debug__" : Str)) = false := by decide) : PE X (.Name x pos) (LE X.K (mC d)) := by
  obtain ⟨a, hm, r⟩ := hm
  exact v_c (pe_glob hg hm (v := .ref a) rfl hd) r
end
end VL
set_option maxHeartbeats 2000000
namespace VL
open PySem PySem.Spec L2
open PyProof.Rows hiding St
section
variable {X : Cx}
def mVals : List (Str × VE) → Sl → Store → (List (Key × D) → Store → Prop) → Prop
  | [], _, S, Q => Q [] S
  | (x, mv) :: r, ρ, S, Q => mv ρ S fun y S1 => mVals r ρ S1 fun ps S2 => Q ((.inr x, y) :: ps) S2
theorem mVals_n {ρ : Sl} {S : Store} {Q : List (Key × D) → Store → Prop} : mVals [] ρ S Q = Q [] S := rfl
theorem mVals_c {x : Str} {mv : VE} {r : List (Str × VE)} {ρ : Sl} {S : Store} {Q : List (Key × D) → Store → Prop} : mVals ((x, mv) :: r) ρ S Q = mv ρ S fun y S1 => mVals r ρ S1 fun ps S2 => Q ((.inr x, y) :: ps) S2 := rfl
def mDictS (ps : List (Str × VE)) : VE := fun ρ S Q => mVals ps ρ S fun kvs S1 => Q (.dct kvs) S1
theorem mDictS_e {ps : List (Str × VE)} {ρ : Sl} {S : Store} {Q : D → Store → Prop} : mDictS ps ρ S Q = mVals ps ρ S fun kvs S1 => Q (.dct kvs) S1 := rfl
abbrev VPS (X : Cx) (pos : Pos) (ks : List (Option Expr)) (vs : List Expr) (ps : List (Str × VE)) : Prop := VPPs X pos ks vs (ps.map fun p => (mC (.str p.1), p.2))
theorem vs_nil {pos : Pos} : VPS X pos [] [] [] := vp_nil
theorem vs_cons {pos p : Pos} {x : Str} {j : Nat} {v : Expr} {ks : List (Option Expr)} {vs : List Expr} {mv : VE} {ps : List (Str × VE)} (hv : PE X v (LE X.K mv)) (hr : VPS X pos ks vs ps) : VPS X pos (some (.Constant (.str x) j p) :: ks) (v :: vs) ((x, mv) :: ps) := vp_cons v_str hv hr
theorem any_none {kvs : List (Key × D)} {k : Key} (h : k ∉ kvs.map (·.1)) : (kvs.any fun kv => decide (kv.1 = k)) = false := by
  rw [List.any_eq_false]
  intro kv hkv
  simp only [decide_eq_true_eq]
  exact fun e => h (by rw [← e]; exact List.mem_map_of_mem hkv)
theorem merge_new : ∀ (more kvs : List (Key × D)), (kvs.map (·.1) ++ more.map (·.1)).Nodup → mergeD kvs more = kvs ++ more
  | [], kvs, _ => by simp [mergeD]
  | (k, v) :: r, kvs, h => by
    have hk : k ∉ kvs.map (·.1) := by
      rw [List.nodup_append] at h
      exact fun z => h.2.2 _ z _ (by simp) rfl
    have e : putD kvs k v = kvs ++ [(k, v)] := by unfold putD; rw [any_none hk]; simp
    show mergeD (putD kvs k v) r = _
    rw [e, merge_new r (kvs ++ [(k, v)]) (by simpa using h)]
    simp
theorem keys_strs : ∀ kvs : List (Str × D), keysD (kvs.map fun kv => (D.str kv.1, kv.2)) = some (kvs.map fun kv => (Sum.inr kv.1, kv.2))
  | [] => rfl
  | (x, d) :: r => by rw [List.map_cons, List.map_cons]; simp only [keysD, keyD, keys_strs r]
theorem lpS_of {K : PySem.W.Frag} {σ : L2.St} {ρ : Sl} : ∀ (ps : List (Str × VE)) {G H : Hp} {S : Store} {Q : List (Key × D) → Store → Prop} {Q' : List (V × V) → Hp → Prop}, View K G S H → REnv K G σ ρ → mVals ps ρ S Q →
    (∀ (kvs : List (Str × D)) S' vs H' G', kvs.map (·.1) = ps.map (·.1) → Aft K G S H S' H' G' → RpP K G' vs (kvs.map fun kv => (D.str kv.1, kv.2)) → Q (kvs.map fun kv => (Sum.inr kv.1, kv.2)) S' → Q' vs H') → tPairs ((ps.map fun p => (mC (.str p.1), p.2)).map fun p => (LE K p.1, LE K p.2)) σ H Q'
  | [], G, H, S, Q, Q', vw, re, hm, k => k [] S [] H G rfl (Aft.refl vw) .nil hm
  | (x, mv) :: r, G, H, S, Q, Q', vw, re, hm, k => by
    refine ⟨ρ, S, G, (fun (d : D) (S1 : Store) => d = .str x ∧ mv ρ S1 fun y S2 => mVals r ρ S2 fun ps S3 => Q ((.inr x, y) :: ps) S3), vw, re, ⟨rfl, hm⟩, fun d S1 v1 H1 G1 a1 r1 h1 => ?_⟩
    obtain ⟨rfl, h1⟩ := h1
    refine ⟨ρ, S1, G1, _, a1.vw, re.mono a1.gg, h1, fun y S2 v2 H2 G2 a2 r2 h2 => ?_⟩
    refine lpS_of r a2.vw ((re.mono a1.gg).mono a2.gg) h2 fun kvs S3 vs H3 G3 e a3 r3 h3 => ?_
    exact k ((x, y) :: kvs) S3 _ H3 G3 (by rw [List.map_cons, List.map_cons, e]) (a1.trans (a2.trans a3)) (.cons ((r1.mono a2.gg).mono a3.gg) (r2.mono a3.gg) r3) h3
theorem v_dictS {pos : Pos} {keys : List (Option Expr)} {values : List Expr} {ps : List (Str × VE)} (h : VPS X pos keys values ps) (nd : (ps.map (·.1)).Nodup) (hall : keys.all (·.isSome) = true) (hl : keys.length = values.length) (h0 : keys ≠ []) (h15 : keys.length ≤ 15) (hp : ps.length ≤ 15) :
    PE X (.Dict keys values pos) (LE X.K (mDictS ps)) := by
  refine PE.imp (pe_tlk (pe_disp h hall hl h0 h15)) fun σ H Q' ⟨ρ, S, G, Q, vw, re, hm, k⟩ => fun p hp' => ?_
  have n0 := vw.none hp'
  have aj := (Aft.refl vw).junk (u := .dK []) hp' n0.2 n0.1
  refine lpS_of ps aj.vw re hm fun kvs S1 vs H1 G1 ek a1 r1 h1 => ?_
  obtain ⟨ks, rfl, rk⟩ := r1.keys (keys_strs kvs)
  obtain ⟨e1, s1, g1⟩ := a1.fr p _ n0.2 upd_same
  have lk : ks.length ≤ 15 := by
    have h1 := rk.length
    have h2 := congrArg List.length ek
    simp only [List.length_map] at h1 h2
    omega
  have em : mergeD [] (kvs.map fun kv => (Sum.inr kv.1, kv.2)) = kvs.map fun kv => (Sum.inr kv.1, kv.2) := by
    rw [merge_new _ [] (by
      have : ((kvs.map fun kv => ((Sum.inr kv.1 : Key), kv.2)).map (·.1)) = (kvs.map (·.1)).map Sum.inr := by simp
      rw [this, ek]
      simp only [List.map_nil, List.nil_append]
      exact List.Pairwise.map _ (fun a b h z => h (Sum.inr.inj z)) nd)]
    rfl
  have rr := RpK.merge rk (.nil (K := X.K) (G := G1))
  rw [em] at rr
  refine ⟨e1, ks, rfl, lk, p, _, rfl, upd_same, trivial, fun od => ?_⟩
  rw [upd_upd]
  have gg : Same G1 (upd G1 p (.frz od (.dK (mergeK [] ks)))) := fun c w ec => by rw [upd_ne (ne_of_none ec (g1.trans n0.1))]; exact ec
  have a2 : Aft X.K G S H S1 (upd H1 p (.frz od (.dK (mergeK [] ks)))) (upd G1 p (.frz od (.dK (mergeK [] ks)))) := by
    have a12 := aj.trans a1
    refine ⟨fun b o hs e => ?_, a12.gg.trans gg, ⟨fun b o e => ?_, fun b o e => ?_⟩⟩
    · obtain ⟨x1, x2, x3⟩ := a12.fr b o hs e
      have hb := ne_of_none e hp'
      exact ⟨by rw [upd_ne hb]; exact x1, x2, by rw [upd_ne hb]; exact x3⟩
    · by_cases hb : b = p
      · subst hb; rw [upd_same] at e ⊢; exact e
      · rw [upd_ne hb] at e ⊢; exact a1.vw.gh b o e
    · have hb : b ≠ p := by intro z; subst z; rw [s1] at e; cases e
      obtain ⟨x1, u, x2, x3⟩ := a1.vw.st b o e
      exact ⟨by rw [upd_ne hb]; exact x1, u, by rw [upd_ne hb]; exact x2, x3.mono gg⟩
  exact k _ S1 _ _ _ a2 (.dct upd_same (rr.mono gg)) h1
end
end VL
namespace VL
open PySem L2
theorem units1 {A : Around} (h : A.units + 64 < cLine) : A.units + 1 < cLine := by omega
theorem keyD_int {i : Int} : keyD (.int i) = some (.inl i) := rfl
theorem keyD_str {x : Str} : keyD (.str x) = some (.inr x) := rfl
theorem atI_end {ps : List D} {x d : D} (h : ps.getLast? = some d) : atI (x :: ps) (-1) = some d := by
  have hn : ps ≠ [] := by intro z; subst z; cases h
  obtain ⟨qs, y, rfl⟩ : ∃ qs y, ps = qs ++ [y] := ⟨ps.dropLast, ps.getLast hn, (List.dropLast_concat_getLast hn).symm⟩
  simp only [List.getLast?_append, List.getLast?_singleton, Option.some_or, Option.some.injEq] at h
  subst h
  exact atI_last (x :: qs) _
def nextN (w : Str) (ps : List D) (at_ : Int) : Option (List Int) :=
  if w = "back" then some [] else if w = "go" then (match ps with | .int i :: _ => some [i] | _ => none)
  else if w = "if" ∨ w = "ifnone" ∨ w = "same" then (match ps.getLast? with | some (.int i) => some (sort2 (at_ + 1) i) | _ => none) else some [at_ + 1]
end VL
set_option maxHeartbeats 2000000
namespace VL
open PySem PySem.Spec L2
open PyProof.Rows hiding St
/-- a comprehension, with an invariant -/
theorem mLc_inv {c : CT} {mi : VW} {mt : VT} {me : VE} {vs : List Nat} {R : List D → Store → (D → Store → Prop) → Prop} {ρ : Sl} {S : Store} {Q : D → Store → Prop} (ds : List D) (I : Nat → List D → Store → Prop) {kp : Store → Prop} {S1 : Store} (hm : ∀ Qi : List D → (Store → Prop) → Store → Prop, Qi ds kp S1 → mi ρ S Qi)
    (hl : ds.length ≤ sizeLine) (h0 : I 0 [] S1) (hk : ∀ i acc S2, I i acc S2 → kp S2)
    (hs : ∀ i d acc S2, ds[i]? = some d → I i acc S2 → match mCT c d (wipeD ρ vs) with
      | some ρ3 => mt ρ3 S2 fun b S3 => if b = true then me ρ3 S3 fun y S4 => I (i + 1) (acc ++ [y]) S4 else I (i + 1) acc S3
      | none => False)
    (he : ∀ acc S2, I ds.length acc S2 → R acc S2 Q) : mLcG c mi mt me vs R ρ S Q := by
  refine hm _ ⟨hl, fun i acc S2 => i ≤ ds.length ∧ I i acc S2, ⟨Nat.zero_le _, h0⟩, fun i acc S2 ⟨hi, h⟩ => ⟨hk i acc S2 h, ?_⟩⟩
  cases e : ds[i]? with
  | none =>
    have : i = ds.length := by have := List.getElem?_eq_none_iff.mp e; omega
    subst this
    exact he acc S2 h
  | some d =>
    have h1 := getE e
    have m1 : ∀ a S', (i + 1 ≤ ds.length ∧ I (i + 1) a S') = I (i + 1) a S' := fun a S' => propext ⟨fun h => h.2, fun h => ⟨by omega, h⟩⟩
    have := hs i d acc S2 e h
    simp only [m1]
    exact this
theorem tyn_supd {S : Store} {a : Addr} {ds : List D} : tyn (.ref a) (VL.supd S a (.lst ds)) = "list" := by simp only [tyn, supd_same]
end VL
set_option maxHeartbeats 2000000
namespace VL
open PySem PySem.Spec L2
open PyProof.Rows hiding St
section
variable {P : Program} {w : World} {A : Around} {E : Value → Shared → Prop} {s : Shared}
/-- first, *rest of a tuple -/
theorem first_rest {t : Addr} {its : Array Value} {x : Value} {Qs : List Value → Shared → Prop} (hh : A.handled = none) (ht : IsTup s.heap t its) (hx : its[0]? = some x) (hz : its.size ≤ 16384)
    (q : ∀ (h2 : Heap) (tk : Nat), (∀ b o, s.heap.get? b = some o → h2.get? b = some o) → Qs [x, .ref h2.objs.size] { s with heap := h2.push { cls := .type "list", data := .seq (its.toList.drop 1).toArray 0 }, toks := tk }) : wpAny (model P w) A (unpackItems (.ref t) 2 (some 1)) Qs E s := by
  have t_ne : t ≠ s.heap.objs.size := by obtain ⟨o, ho, _⟩ := ht; exact Nat.ne_of_lt (Heap.lt_size ho)
  have pos : 0 < its.size := by rw [Array.getElem?_eq_some_iff] at hx; exact hx.1
  unfold unpackItems notIterableAtAll
  refine wpAny_bind (wpAny_bind (wpAny_specialOf ht.typeIs slot_tuple_iter.lookup (wpAny_pure ?_)))
  simp only [Bool.false_eq_true, if_false]
  refine wpAny_bind (wpAny_holding (iter_tuple ht (wpAny_bind (wpAny_holding (draw_tuple t_ne 1 0 _ _ ⟨_, Heap.get?_push_size _ rfl, rfl, rfl⟩ (ht.push _) (by omega) fun ha it_a sb_a => ?_)))))
  have ta : IsTup ha t its := (ht.push _).extBut sb_a.extBut t_ne
  obtain ⟨o1, e1, _⟩ := id it_a
  obtain ⟨o2, e2, _⟩ := id ta
  have one : (its.toList.drop 0).take 1 = [x] := by
    rw [List.drop_zero, List.take_one]
    have : its.toList.head? = some x := by rw [List.head?_eq_getElem?, Array.getElem?_toList]; exact hx
    rw [this]; rfl
  rw [one, if_neg (by simp)]
  refine wpAny_bind (wpAny_holding (PySem.W.kun_collect (s := { s with heap := ha }) (T := "tuple_iterator") (.inr (.inr (.inr rfl))) (Walks.tuple (A := A.in1) hh s.heap.objs.size t t_ne its) (fun j u st => st.1.typeIs) (k := 1) (by omega)
    ⟨it_a, ta⟩ (Heap.lt_size e1) (Heap.lt_size e2) (fun hb tk hk => ?_) (by rw [sizeLine_eq]; omega)))
  have many : (its.toList.drop 1).length = its.size - 1 := by rw [List.length_drop, Array.length_toList]
  show wpAny _ _ (if (its.toList.drop 1).length < 2 - 1 - 1 then _ else _) _ _ _
  rw [if_neg (by omega)]
  show wpAny _ _ (newList ((its.toList.drop 1).take ((its.toList.drop 1).length - (2 - 1 - 1))) >>= fun d => pure ([x] ++ [d] ++ (its.toList.drop 1).drop ((its.toList.drop 1).length - (2 - 1 - 1)))) _ _ _
  rw [show (its.toList.drop 1).length - (2 - 1 - 1) = (its.toList.drop 1).length by omega, List.take_length, List.drop_length]
  have old : ∀ b o, s.heap.get? b = some o → hb.get? b = some o := fun b o e => by
    have ne : b ≠ s.heap.objs.size := Nat.ne_of_lt (Heap.lt_size e)
    exact hk b o ne (sb_a.extBut b o ne (Heap.get?_push_of_some _ e))
  refine wpAny_bind (wpAny_newObj_type (wpAny_pure ?_) (by show (its.toList.drop 1).toArray.size ≤ sizeLine; rw [List.size_toArray, many, sizeLine_eq]; omega))
  exact q hb tk old
end
section
variable {X : Cx}
/-- word, *rest = e -/
def mStar (i j : Nat) (m : VE) : VS := fun E ρ S => m ρ S fun d S1 => match d with
  | .tup (x :: ds) => ds.length < 16000 ∧ E.nx ((ρ.set i (some x)).set j (some (.lst ds))) S1
  | _ => False
theorem mStar_e {i j : Nat} {m : VE} {E : VEnds} {ρ : Sl} {S : Store} : mStar i j m E ρ S = m ρ S fun d S1 => match d with
  | .tup (x :: ds) => ds.length < 16000 ∧ E.nx ((ρ.set i (some x)).set j (some (.lst ds))) S1
  | _ => False := rfl
def gStar (K : PySem.W.Frag) (i j : Nat) : TG := fun v σ H Q => ∃ a x xs, v = .ref a ∧ SqT K H a (x :: xs) ∧ xs.length < 16000 ∧ ∀ p, H p = none → Q ((σ.set i (some x)).set j (some (.ref p))) (upd H p (.lst xs))
theorem pg_star {i j k : Nat} {a b : Expr} {pos sp : Pos} (hc : X.calm = true) (ha : PG X a (gName i)) (hb : PG X b (gName j))
    (he : (assignEach [a, .Starred b sp] X.env) = [(false, assign a X.env), (true, assign b X.env)] := by rfl) : PG X (.Tuple [a, .Starred b sp] k pos) (gStar X.K i j) := by
  refine ⟨fun pins s σ H v u Q I r hw => ?_⟩
  obtain ⟨c, x, xs, rfl, hq, hl, hw⟩ := hw
  cases r
  obtain ⟨its, rv, ht, hz⟩ := I.tuple hq
  cases rv with
  | @cons _ ux _ us rx rxs =>
    rw [assign_Tuple]
    refine wpAny_bind (wpAny_standAt ?_)
    unfold unpack
    rw [he]
    have len := rxs.length
    refine wpAny_bind (wpAny_holding (first_rest (x := ux) (I.ok.hd hc) ht (by simp) (by simp; omega) fun h2 tk old => ?_))
    have I1 : L2.Inv X pins σ H { s with heap := h2, toks := tk } := I.kept old
    have hn := I1.hok.fresh (Nat.le_refl h2.objs.size)
    have I2 : L2.Inv X pins σ (upd H h2.objs.size (.lst xs)) { s with heap := h2.push { cls := .type "list", data := .seq ((ux :: us).toArray.toList.drop 1).toArray 0 }, toks := tk } :=
      I1.laid (t' := tk) (fun b u e => Heap.get?_push_of_some _ e) (Nat.le_refl _) ⟨by rw [sizeLine_eq]; omega, us, 0, rxs, by simpa using Heap.get?_push_size _ rfl⟩
    refine assignInOrder_cons (wpAny_mono (ha.run pins _ σ _ x ux (fun σ1 H1 => σ1 = σ.set i (some x) ∧ H1 = upd H h2.objs.size (.lst xs)) I2 rx ⟨rfl, rfl⟩) (fun _ s3 h3 => ?_) fun _ _ z => z)
    obtain ⟨σ1, H1, I3, rfl, rfl⟩ := h3
    refine assignInOrder_cons (wpAny_mono (hb.run pins s3 _ _ (.ref h2.objs.size) (.ref h2.objs.size) Q I3 rfl (hw _ hn)) (fun _ s4 h4 => ?_) fun _ _ z => z)
    exact assignInOrder_nil h4
theorem s_star {i j : Nat} {tg e : Expr} {m : VE} {pos : Pos} (he : PE X e (LE X.K m)) (hg : PG X tg (gStar X.K i j)) (hs : swapsWithSole [tg] e pos.line X.env = pure false := by rfl) (hw : swappedStores [tg] e X.env = pure none := by rfl) (h1 : (assignEach [tg] X.env).map (·.2) = [assign tg X.env] := by rfl) :
    PS X (.Assign [tg] e pos) (LS X.K (mStar i j m)) := by
  refine PS.imp (ps_asg he hg hs hw h1) fun D' σ H ⟨ρ, S, G, E, vw, re, hm, ok⟩ => ⟨ρ, S, G, _, vw, re, hm, fun d S' v H' G' a r q => ?_⟩
  split at q
  · rename_i x ds
    cases r with
    | tup ht l =>
      cases l with
      | @cons vx vxs _ _ rx rl =>
        refine ⟨_, vx, vxs, rfl, same_t a.vw.gh ht, by rw [rl.length]; exact q.1, fun p hp => ?_⟩
        have a2 := a.vw.froze (o := .lst vxs) hp
        have re' := (re.mono a.gg).mono a2.gg
        exact ok.nx _ _ _ _ _ (a.trans a2) ((re'.set (rx.mono a2.gg)).set (.lst upd_same (rl.mono a2.gg))) q.2
  · exact q.elim
end
end VL
set_option maxHeartbeats 2000000
namespace VL
open PySem PySem.Spec L2
open PyProof.Rows hiding St
section
variable {X : Cx}
abbrev VO := Sl → Store → (Option Int → Store → Prop) → Prop
def LO (K : PySem.W.Frag) (m : VO) : TO := fun σ H Q' => ∃ ρ S G Q, View K G S H ∧ REnv K G σ ρ ∧ m ρ S Q ∧ ∀ o S' H' G', Aft K G S H S' H' G' → Q o S' → Q' o H'
def mNoP : VO := fun _ S Q => Q none S
def mPart (m : VE) : VO := fun ρ S Q => m ρ S fun d S1 => match d with
  | .int i => Q (some i) S1
  | _ => False
theorem mNoP_e {ρ : Sl} {S : Store} {Q : Option Int → Store → Prop} : mNoP ρ S Q = Q none S := rfl
theorem mPart_e {m : VE} {ρ : Sl} {S : Store} {Q : Option Int → Store → Prop} : mPart m ρ S Q = m ρ S fun d S1 => match d with
  | .int i => Q (some i) S1
  | _ => False := rfl
theorem PO.imp {e : Option Expr} {t t' : TO} (h : PO X e t) (i : ∀ σ H Q, t' σ H Q → t σ H Q) : PO X e t' := ⟨fun pins s σ H Q I q => h.run pins s σ H Q I (i σ H Q q)⟩
theorem o_none : PO X none (LO X.K mNoP) := PO.imp po_none fun σ H Q' ⟨ρ, S, G, Q, vw, re, hm, k⟩ => k none S H G (Aft.refl vw) hm
theorem o_some {e : Expr} {m : VE} (h : PE X e (LE X.K m)) : PO X (some e) (LO X.K (mPart m)) :=
  PO.imp (po_some h) fun σ H Q' ⟨ρ, S, G, Q, vw, re, hm, k⟩ => ⟨ρ, S, G, _, vw, re, hm, fun d S1 v H1 G1 a1 r1 h1 => by
    cases r1 <;> try exact h1.elim
    exact ⟨_, rfl, k _ S1 H1 G1 a1 h1⟩⟩
def cutD (ds : List D) (lo hi : Option Int) : List D := (ds.drop (HT.sIx ds.length 0 lo)).take (HT.sIx ds.length ds.length hi - HT.sIx ds.length 0 lo)
theorem RpL.cut {K : PySem.W.Frag} {G : Hp} {xs : List V} {ds : List D} (r : RpL K G xs ds) (lo hi : Option Int) : RpL K G (cutV xs lo hi) (cutD ds lo hi) := by
  unfold cutV cutD
  rw [r.length]
  exact (r.drop _).take _
theorem cutD_all {ds : List D} {lo hi : Option Int} (h : HT.sIx ds.length 0 lo = 0 ∧ HT.sIx ds.length ds.length hi = ds.length) : cutD ds lo hi = ds := by
  unfold cutD
  rw [h.1, h.2, List.drop_zero, Nat.sub_zero, List.take_length]
def mSlc (m : VE) (ml mh : VO) : VE := fun ρ S Q => m ρ S fun d S1 => ml ρ S1 fun l S2 => mh ρ S2 fun u S3 => match d with
  | .tup ds => Q (.tup (cutD ds l u)) S3
  | .str z => z.length ≤ sizeLine ∧ Q (.str (cutS z l u)) S3
  | d => match rdR d S3 with
    | some ds => Q (.lst (cutD ds l u)) S3
    | none => False
theorem mSlc_e {m : VE} {ml mh : VO} {ρ : Sl} {S : Store} {Q : D → Store → Prop} : mSlc m ml mh ρ S Q = m ρ S fun d S1 => ml ρ S1 fun l S2 => mh ρ S2 fun u S3 => match d with
  | .tup ds => Q (.tup (cutD ds l u)) S3
  | .str z => z.length ≤ sizeLine ∧ Q (.str (cutS z l u)) S3
  | d => match rdR d S3 with
    | some ds => Q (.lst (cutD ds l u)) S3
    | none => False := rfl
theorem v_slc {e : Expr} {lo hi : Option Expr} {m : VE} {ml mh : VO} {p2 pos : Pos} (he : PE X e (LE X.K m)) (hl : PO X lo (LO X.K ml)) (hh : PO X hi (LO X.K mh)) : PE X (.Subscript e (.Slice lo hi none p2) pos) (LE X.K (mSlc m ml mh)) := by
  refine PE.imp (pe_slice (SlR.or sl_tupA (SlR.or sl_list sl_str)) he hl hh) fun σ H Q' ⟨ρ, S, G, Q, vw, re, hm, k⟩ => ?_
  refine ⟨ρ, S, G, _, vw, re, hm, fun d S1 v1 H1 G1 a1 r1 h1 => ?_⟩
  refine ⟨ρ, S1, G1, _, a1.vw, re.mono a1.gg, h1, fun l S2 H2 G2 a2 h2 => ?_⟩
  refine ⟨ρ, S2, G2, _, a2.vw, (re.mono a1.gg).mono a2.gg, h2, fun u S3 H3 G3 a3 h3 => ?_⟩
  have rr := (r1.mono a2.gg).mono a3.gg
  have a13 := a1.trans (a2.trans a3)
  split at h3
  · cases rr with
    | @tup a xs ds ht rl =>
      refine .inl ⟨a, xs, rfl, same_t a3.vw.gh ht, fun w => ?_, fun _ p hp => ?_⟩
      · rw [rl.length] at w
        rw [cutD_all w] at h3
        exact k _ S3 _ H3 G3 a13 (.tup ht rl) h3
      · have a4 := a3.vw.froze (o := .tup (cutV xs l u)) hp
        exact k _ S3 _ _ _ (a13.trans a4) (.tup (SqT.of upd_same) ((rl.cut l u).mono a4.gg)) h3
  · cases rr
    exact .inr (.inr ⟨_, rfl, h3.1, k _ S3 _ H3 G3 a13 (.str _) h3.2⟩)
  · split at h3
    · rename_i ds e
      obtain ⟨a, xs, rfl, q, rl⟩ := rdR_ok a3.vw rr e
      refine .inr (.inl ⟨a, xs, rfl, q, fun p hp => ?_⟩)
      have a4 := a3.vw.froze (o := .lst (cutV xs l u)) hp
      exact k _ S3 _ _ _ (a13.trans a4) (.lst upd_same ((rl.cut l u).mono a4.gg)) h3
    · exact h3.elim
end
end VL
set_option maxHeartbeats 2000000
namespace VL
open PySem PySem.Spec L2
open PyProof.Rows hiding St
inductive Kd where
  | l | t | s
def rowK (k : Kd) (K : PySem.W.Frag) (H : Hp) (v : V) (xs : List V) : Prop := match k with
  | .l => ∃ a, v = .ref a ∧ SqL K H a xs
  | .t => ∃ a, v = .ref a ∧ SqT K H a xs
  | .s => ∃ x : Str, v = .str x ∧ xs = x.cps.toList.map fun c => V.str ⟨#[c]⟩
def itK (k : Kd) (u : Value) (it : Addr) (i : Nat) (h : Heap) : Prop := match k, u with
  | .l, .ref a => h.IsListIter it a i
  | .t, .ref a => h.IsTupleIter it a i
  | .s, .str x t => h.IsStrIter it (PySem.strIterType x) x t i
  | _, _ => False
theorem itK.obj {k : Kd} {u : Value} {it : Addr} {i : Nat} {h : Heap} (q : itK k u it i h) : ∃ o, h.get? it = some o ∧ ∀ v, o.data ≠ .cell v := by
  unfold itK at q
  split at q
  · obtain ⟨o, e, _, d⟩ := q; exact ⟨o, e, fun v z => by rw [d] at z; cases z⟩
  · obtain ⟨o, e, _, d⟩ := q; exact ⟨o, e, fun v z => by rw [d] at z; cases z⟩
  · obtain ⟨o, e, _, d⟩ := q; exact ⟨o, e, fun v z => by rw [d] at z; cases z⟩
  · exact q.elim
theorem itK.at {k : Kd} {u : Value} {it : Addr} {i : Nat} {h h' : Heap} (q : itK k u it i h) (e : ∀ o, h.get? it = some o → h'.get? it = some o) : itK k u it i h' := by
  unfold itK at q ⊢
  split at q
  · obtain ⟨o, e1, r⟩ := q; exact ⟨o, e _ e1, r⟩
  · obtain ⟨o, e1, r⟩ := q; exact ⟨o, e _ e1, r⟩
  · obtain ⟨o, e1, r⟩ := q; exact ⟨o, e _ e1, r⟩
  · exact q.elim
section
variable {X : Cx} {pins : List (Addr × Obj)} {σ : L2.St} {H : Hp} {s : Shared}
theorem vals_back : ∀ {xs : List V} {us : List Value} {i : Nat} {w : Value}, Vals xs us → us[i]? = some w → ∃ y, xs[i]? = some y ∧ RelV y w
  | _, _, _, _, .nil, e => by simp at e
  | _, _, 0, _, .cons r _, e => by simp at e; subst e; exact ⟨_, rfl, r⟩
  | _, _, i + 1, w, .cons _ t, e => by
    obtain ⟨y, a, b⟩ := vals_back (i := i) (w := w) t (by simpa using e)
    exact ⟨y, by simpa using a, b⟩
/-- the row at hand gives the items one by one -/
theorem draws_of {k : Kd} {v : V} {u : Value} {xs : List V} {A : Around} {it : Addr} {i : Nat} (I : L2.Inv X pins σ H s) (hh : A.handled = none) (r : RelV v u) (row : rowK k X.K H v xs) (q : itK k u it i s.heap) (ap : ∀ a, u = .ref a → a ≠ it) :
    ∃ fp Pp St, Draws X.prog X.w A it fp xs.length Pp St ∧ St i s.heap ∧ (∀ j h, St j h → itK k u it j h) ∧ (∀ j x, Pp j x → ∃ y, xs[j]? = some y ∧ RelV y x) ∧ it ∈ fp ∧ ∀ c ∈ fp, c = it ∨ u = .ref c := by
  cases k with
  | l =>
    obtain ⟨a, rfl, sq⟩ := row
    cases r
    obtain ⟨its, rv, p, _⟩ := I.list sq
    have e : its.toArray.size = xs.length := by rw [List.size_toArray]; exact rv.length.symm
    refine ⟨_, _, _, e ▸ Draws.list hh it a (ap a rfl) its.toArray, ⟨q, p.isList⟩, fun j h z => z.1, fun j x z => ?_, by simp, fun c hc => ?_⟩
    · obtain ⟨y, h1, h2⟩ := vals_back (i := j) rv (by simpa using z); exact ⟨y, h1, h2⟩
    · simp only [List.mem_cons, List.not_mem_nil, or_false] at hc; exact hc.imp id fun z => by rw [z]
  | t =>
    obtain ⟨a, rfl, sq⟩ := row
    cases r
    obtain ⟨its, rv, p, _⟩ := I.tuple sq
    have e : its.toArray.size = xs.length := by rw [List.size_toArray]; exact rv.length.symm
    refine ⟨_, _, _, e ▸ Draws.tuple hh it a (ap a rfl) its.toArray, ⟨q, p⟩, fun j h z => z.1, fun j x z => ?_, by simp, fun c hc => ?_⟩
    · obtain ⟨y, h1, h2⟩ := vals_back (i := j) rv (by simpa using z); exact ⟨y, h1, h2⟩
    · simp only [List.mem_cons, List.not_mem_nil, or_false] at hc; exact hc.imp id fun z => by rw [z]
  | s =>
    obtain ⟨x, rfl, rfl⟩ := row
    obtain ⟨t, rfl⟩ := r
    have e : x.cps.size = (x.cps.toList.map fun c => V.str ⟨#[c]⟩).length := by simp
    refine ⟨_, _, _, e ▸ Draws.text hh it x t, q, fun j h z => z, fun j y z => ?_, by simp, fun c hc => .inl (by simpa using hc)⟩
    obtain ⟨c, w, h1, rfl⟩ := z
    exact ⟨.str ⟨#[c]⟩, by simp [h1], w, rfl⟩
theorem rowK_inj {k : Kd} {v : V} {xs ys : List V} (I : L2.Inv X pins σ H s) (a : rowK k X.K H v xs) (b : rowK k X.K H v ys) : xs = ys := by
  cases k with
  | l =>
    obtain ⟨a, rfl, p⟩ := a
    obtain ⟨b, e, q⟩ := b
    cases e
    exact I.list_inj p q
  | t =>
    obtain ⟨a, rfl, p⟩ := a
    obtain ⟨b, e, q⟩ := b
    cases e
    exact I.tuple_inj p q
  | s =>
    obtain ⟨x, rfl, rfl⟩ := a
    obtain ⟨y, e, rfl⟩ := b
    cases e
    rfl
def ItG (K : PySem.W.Frag) (k1 k2 : Kd) (v1 v2 : V) : It :=
  ⟨fun i H => ∃ (xs ys : List V) (x y : V), rowK k1 K H v1 xs ∧ rowK k2 K H v2 ys ∧ xs[i]? = some x ∧ ys[i]? = some y,
    fun i H v H' => ∃ T x y, v = .ref T ∧ H T = none ∧ H' = upd H T (.tup [x, y]) ∧ (∀ xs, rowK k1 K H v1 xs → xs[i]? = some x) ∧ ∀ ys, rowK k2 K H v2 ys → ys[i]? = some y,
    fun i H => ∃ xs ys : List V, rowK k1 K H v1 xs ∧ rowK k2 K H v2 ys ∧ ((i = xs.length ∧ i ≤ ys.length) ∨ (i = ys.length ∧ i ≤ xs.length))⟩
structure FarZ (z TI TO i1 i2 : Addr) (u1 u2 : Value) : Prop where
  d : [z, TI, TO, i1, i2].Nodup
  a1 : ∀ a, u1 = .ref a → a ∉ [z, TI, TO, i1, i2]
  a2 : ∀ a, u2 = .ref a → a ∉ [z, TI, TO, i1, i2]
theorem FarZ.sep {z TI TO i1 i2 : Addr} {u1 u2 : Value} (F : FarZ z TI TO i1 i2 u1 u2) {fp1 fp2 : List Addr} (m1 : i1 ∈ fp1) (m2 : i2 ∈ fp2) (c1 : ∀ c ∈ fp1, c = i1 ∨ u1 = .ref c) (c2 : ∀ c ∈ fp2, c = i2 ∨ u2 = .ref c) : PySem.ZipSep2 z TI TO i1 i2 fp1 fp2 := by
  have d := F.d
  simp only [List.nodup_cons, List.mem_cons, List.not_mem_nil, or_false, not_or, List.nodup_nil, and_true, not_false_eq_true] at d
  obtain ⟨⟨d1, d2, d3, d4⟩, ⟨d5, d6, d7⟩, ⟨d8, d9⟩, d10⟩ := d
  have f1 : ∀ c ∈ fp1, c ∈ [z, TI, TO, i1, i2] → c = i1 := fun c h h' => (c1 c h).elim id fun e => absurd h' (F.a1 c e)
  have f2 : ∀ c ∈ fp2, c ∈ [z, TI, TO, i1, i2] → c = i2 := fun c h h' => (c2 c h).elim id fun e => absurd h' (F.a2 c e)
  exact { TIz := Ne.symm d1, TOz := Ne.symm d2, TITO := d5, TIi1 := d6, mem1 := m1, zf1 := fun h => d3 (f1 _ h (by simp)), Tf1 := fun h => d8 (f1 _ h (by simp)), TIi2 := d7, mem2 := m2, zf2 := fun h => d4 (f2 _ h (by simp)), Tf2 := fun h => d9 (f2 _ h (by simp)), sep1_2 := fun h => d10 (f2 _ h (by simp)), sep2_1 := fun h => d10 (f1 _ h (by simp)).symm }
theorem turn_g {P : Program} {w : World} {K : PySem.W.Frag} {elts : List Expr} {kk : Nat} {tpos : Pos} {z TI TO i1 i2 : Addr} {k1 k2 : Kd} {v1 v2 : V} {u1 u2 : Value} (F : FarZ z TI TO i1 i2 u1 u2) (r1 : RelV v1 u1) (r2 : RelV v2 u2) :
    Turn P w K (.Tuple elts kk tpos) (ItG K k1 k2 v1 v2) [z, TI, TO, i1, i2] z (fun i h => IsZip h z TI TO .none ∧ IsPair h TI (.ref i1) (.ref i2) ∧ (∃ x y, IsPair h TO x y) ∧ itK k1 u1 i1 i h ∧ itK k2 u2 i2 i h) where
  mem := by simp
  obj := fun i h st c hc => by
    obtain ⟨q1, q2, ⟨x, y, q3⟩, q4, q5⟩ := st
    simp only [List.mem_cons, List.not_mem_nil, or_false] at hc
    rcases hc with rfl | rfl | rfl | rfl | rfl
    · exact ⟨_, q1, fun v e => nomatch e⟩
    · exact ⟨_, q2, fun v e => nomatch e⟩
    · exact ⟨_, q3, fun v e => nomatch e⟩
    · exact q4.obj
    · exact q5.obj
  keep := fun i h h' st k => by
    obtain ⟨q1, q2, ⟨x, y, q3⟩, q4, q5⟩ := st
    exact ⟨k z (by simp) _ q1, k TI (by simp) _ q2, ⟨x, y, k TO (by simp) _ q3⟩, q4.at fun o e => k i1 (by simp) o e, q5.at fun o e => k i2 (by simp) o e⟩
  item := by
    intro X hP hw hK hc i pins s σ H E I hf st hg
    subst hP hw hK
    obtain ⟨q1, q2, ⟨x0, y0, q3⟩, q4, q5⟩ := st
    obtain ⟨xs, ys, x, y, hx, hy, ex, ey⟩ := hg
    obtain ⟨fp1, P1, S1, D1, s1, t1, p1, m1, c1⟩ := draws_of (A := X.A.in1) I (I.ok.hd hc) r1 hx q4 fun a e z => F.a1 a e (by subst z; simp)
    obtain ⟨fp2, P2, S2, D2, s2, t2, p2, m2, c2⟩ := draws_of (A := X.A.in1) I (I.ok.hd hc) r2 hy q5 fun a e z => F.a2 a e (by subst z; simp)
    have zl : z < s.heap.objs.size := Heap.lt_size q1
    have d := F.d
    simp only [List.nodup_cons, List.mem_cons, List.not_mem_nil, or_false, not_or, List.nodup_nil, and_true, not_false_eq_true] at d
    obtain ⟨⟨d1, d2, d3, d4⟩, ⟨d5, d6, d7⟩, ⟨d8, d9⟩, d10⟩ := d
    refine PySem.wpAny_pyNext_zipD2_item (F.sep m1 m2 c1 c2) D1 D2 q1 q2 q3 s1 s2 (getE ex) (getE ey) fun w1 w2 h' tk y1 y2 z' TO' s1' s2' hT hsz hk => ?_
    refine ⟨_, rfl, wpAny_letOwnedTupleGo_zip (s := { s with heap := h', toks := tk }) z' fun h'' z'' sb => ?_⟩
    obtain ⟨x', ex', rx'⟩ := p1 _ _ y1
    obtain ⟨y', ey', ry'⟩ := p2 _ _ y2
    rw [ex] at ex'; cases ex'
    rw [ey] at ey'; cases ey'
    have hT2 : h''.get? s.heap.objs.size = some { cls := .type "tuple", data := .seq #[w1, w2] } := (sb.2 _ (Nat.ne_of_gt zl)).trans hT
    have new : ObjOk X.prog X.w (upd H s.heap.objs.size (.tup [x, y])) h'' s.heap.objs.size (.tup [x, y]) := ⟨by show 2 ≤ sizeLine; decide, [w1, w2], .cons rx' (.cons ry' .nil), ⟨_, hT2, rfl, _, rfl⟩⟩
    have I1 : L2.Inv X pins σ (upd H s.heap.objs.size (.tup [x, y])) { s with heap := h'', toks := tk } :=
      I.turnedNew (t' := tk) (ch := [z, TI, TO, i1, i2]) (fun c o hb e => (sb.2 c (fun e' => hb (by simp [e']))).trans (hk c o (fun e' => hb (by simp [e'])) (fun e' => hb (by simp [e'])) (fun e' => hb (by simp [e'])) (fun e' => hb (by simp [e'])) e)) hf (Nat.le_refl _) new
    refine ⟨.ref s.heap.objs.size, _, I1, rfl, ⟨_, x, y, rfl, I.hok.fresh (Nat.le_refl _), rfl, fun l hl => by rw [rowK_inj I hl hx]; exact ex, fun l hl => by rw [rowK_inj I hl hy]; exact ey⟩, ⟨z'', ?_, ⟨w1, w2, ?_⟩, ?_, ?_⟩, fun c hcm => ?_⟩
    · exact (sb.2 _ (Ne.symm d1)).trans (hk _ _ (Ne.symm d1) d5 d6 d7 q2)
    · exact (sb.2 _ (Ne.symm d2)).trans TO'
    · exact (t1 _ _ s1').at fun o e => (sb.2 _ (Ne.symm d3)).trans e
    · exact (t2 _ _ s2').at fun o e => (sb.2 _ (Ne.symm d4)).trans e
    · have lt : c < s.heap.objs.size := by
        obtain ⟨_, e4, _⟩ := q4.obj
        obtain ⟨_, e5, _⟩ := q5.obj
        simp only [List.mem_cons, List.not_mem_nil, or_false] at hcm
        rcases hcm with rfl | rfl | rfl | rfl | rfl
        · exact zl
        · exact Heap.lt_size q2
        · exact Heap.lt_size q3
        · exact Heap.lt_size e4
        · exact Heap.lt_size e5
      rw [upd_ne (Nat.ne_of_lt lt)]
      exact (hf c hcm).1
  done := by
    intro X hP hw hK hc i pins s σ H E I hf st hg
    subst hP hw hK
    obtain ⟨q1, q2, ⟨x0, y0, q3⟩, q4, q5⟩ := st
    obtain ⟨xs, ys, hx, hy, hend⟩ := hg
    obtain ⟨fp1, P1, S1, D1, s1, t1, p1, m1, c1⟩ := draws_of (A := X.A.in1) I (I.ok.hd hc) r1 hx q4 fun a e z => F.a1 a e (by subst z; simp)
    obtain ⟨fp2, P2, S2, D2, s2, t2, p2, m2, c2⟩ := draws_of (A := X.A.in1) I (I.ok.hd hc) r2 hy q5 fun a e z => F.a2 a e (by subst z; simp)
    exact PySem.wpAny_pyNext_zipD2_end (F.sep m1 m2 c1 c2) D1 D2 q1 q2 q3 s1 s2 (by omega) (by omega) (hend.imp And.left And.left) fun h' tk hk => ⟨rfl, I.turnedL (t' := tk) (ch := [z, TI, TO, i1, i2]) (fun c o hb e =>
      hk c o (fun e' => hb (by simp [e'])) (fun e' => hb (by simp [e'])) (fun e' => hb (by simp [e'])) (fun e' => hb (by simp [e'])) e) hf⟩
  self := fun A i s Q E st h => wpAny_pyIter_zip st.1 h
end
end VL
namespace VL
open PySem PySem.Spec L2
open PyProof.Rows hiding St
section
variable {X : Cx} {pins : List (Addr × Obj)} {σ : L2.St} {H : Hp} {s : Shared}
theorem begins_of {k : Kd} {v : V} {u : Value} {xs : List V} (I : L2.Inv X pins σ H s) (r : RelV v u) (row : rowK k X.K H v xs) :
    ∃ (o : Obj) (Hb : Heap → Prop), PySem.Begins u o Hb ∧ Hb s.heap ∧ (∀ (h' : Heap) it, h'.get? it = some o → itK k u it 0 h') ∧ ∀ a, u = .ref a → a < s.heap.objs.size := by
  cases k with
  | l =>
    obtain ⟨a, rfl, sq⟩ := row
    cases r
    obtain ⟨its, rv, p, _⟩ := I.list sq
    exact ⟨_, _, PySem.begins_list a its.toArray, p.isList, fun h' it e => ⟨_, e, rfl, rfl⟩, fun b e => by cases e; exact p.lt⟩
  | t =>
    obtain ⟨a, rfl, sq⟩ := row
    cases r
    obtain ⟨its, rv, p, _⟩ := I.tuple sq
    exact ⟨_, _, PySem.begins_tuple a its.toArray, p, fun h' it e => ⟨_, e, rfl, rfl⟩, fun b e => by cases e; obtain ⟨o, e, _⟩ := p; exact Heap.lt_size e⟩
  | s =>
    obtain ⟨x, rfl, rfl⟩ := row
    obtain ⟨t, rfl⟩ := r
    exact ⟨_, _, PySem.begins_text x t, trivial, fun h' it e => ⟨_, e, rfl, rfl⟩, fun b e => by cases e⟩
def iG (K : PySem.W.Frag) (ta : TA) : TI := fun σ H R => ta σ H fun vs H1 => ∃ v1 v2 xs ys k1 k2, vs = [v1, v2] ∧ rowK k1 K H1 v1 xs ∧ rowK k2 K H1 v2 ys ∧ R (ItG K k1 k2 v1 v2) H1
theorem pi_g {e e2 : Expr} {ta : TA} {p pos tpos : Pos} {elts : List Expr} {kk : Nat} (hg : Gl X "zip") (hm : X.mg "zip" = none) (ha : PA X [e, e2] ta)
    (hs : starEach [e, e2] X.env = (false, eval e X.env) :: starEach [e2] X.env := by rfl) (hpl : (backTo pos (starEach [e2] X.env)).any (·.1) = false := by rfl) :
    PI X (.Tuple elts kk tpos) (.Call (.Name "zip" p) [e, e2] [] pos) (iG X.K ta) := by
  refine ⟨fun pins s σ H R I h => ?_⟩
  refine Call_ (ld_blt I hg hm PyProof.Rows.boot_zip (PyProof.Rows.callWith_type1 (thn (ha.run pos pins s σ H _ I h) fun us s1 ⟨vs, H1, I1, rr, q1⟩ => ?_) hs hpl))
  obtain ⟨v1, v2, xs, ys, k1, k2, rfl, w1, w2, q⟩ := q1
  cases rr with
  | @cons _ u1 _ us1 r1 rr =>
    cases rr with
    | @cons _ u2 _ us2 r2 rr =>
      cases rr
      obtain ⟨o1, B1, b1, p1, t1, l1⟩ := begins_of I1 r1 w1
      obtain ⟨o2, B2, b2, p2, t2, l2⟩ := begins_of I1 r2 w2
      refine PySem.zip_begins2 b1 b2 p1 p2 fun h' z1 z2 z3 z4 z5 hsz hk => wpAny_pyIter_zip z1 ?_
      have I2 : L2.Inv X pins σ H1 { s1 with heap := h' } := I1.kept (t' := s1.toks) hk
      have out : ∀ a : Addr, a < s1.heap.objs.size → a ∉ [s1.heap.objs.size + 4, s1.heap.objs.size + 2, s1.heap.objs.size + 3, s1.heap.objs.size, s1.heap.objs.size + 1] := fun a lt h => by
        simp only [List.mem_cons, List.not_mem_nil, or_false] at h
        rcases h with z | z | z | z | z <;> rw [z] at lt <;> first | exact Nat.lt_irrefl _ lt | exact absurd lt (Nat.not_lt.mpr (Nat.le_add_right _ _))
      have far : FarZ (s1.heap.objs.size + 4) (s1.heap.objs.size + 2) (s1.heap.objs.size + 3) s1.heap.objs.size (s1.heap.objs.size + 1) u1 u2 := ⟨by simp, fun a e => out a (l1 a e), fun a e => out a (l2 a e)⟩
      exact ⟨s1.heap.objs.size + 4, [s1.heap.objs.size + 4, s1.heap.objs.size + 2, s1.heap.objs.size + 3, s1.heap.objs.size, s1.heap.objs.size + 1], _, _, H1, rfl, I2, turn_g far r1 r2, ⟨z1, z2, ⟨_, _, z3⟩, t1 _ _ z4, t2 _ _ z5⟩, fun c hc => by
        have le : s1.heap.objs.size ≤ c := Nat.not_lt.mp fun lt => out c lt hc
        exact I1.fpOk le (I1.hok.fresh le), q⟩
def rdW (d : D) (S : Store) : Option (List D) := match d with
  | .str x => some (sgnD x)
  | d => rdS d S
def kindD : D → Kd
  | .tup _ => .t
  | .str _ => .s
  | _ => .l
theorem row_of {K : PySem.W.Frag} {G H : Hp} {S : Store} {d : D} {v : V} {ds : List D} (vw : View K G S H) (r : Rp K G v d) (h : rdW d S = some ds) : ∃ xs, rowK (kindD d) K H v xs ∧ RpL K G xs ds := by
  have lst : kindD d = .l → rdR d S = some ds → ∃ xs, rowK (kindD d) K H v xs ∧ RpL K G xs ds := fun e h => by
    obtain ⟨a, xs, rfl, q, l⟩ := rdR_ok vw r h
    exact ⟨xs, by rw [e]; exact ⟨a, rfl, q⟩, l⟩
  cases d with
  | str x =>
    cases r
    simp only [rdW, Option.some.injEq] at h
    subst h
    refine ⟨_, ⟨x, rfl, rfl⟩, ?_⟩
    unfold sgnD
    induction x.cps.toList with
    | nil => exact .nil
    | cons c cs ih => exact .cons (.str _) ih
  | tup es =>
    simp only [rdW, rdS, Option.some.injEq] at h
    subst h
    cases r with
    | tup ht l => exact ⟨_, ⟨_, rfl, same_t vw.gh ht⟩, l⟩
  | non => exact lst rfl h
  | bl => exact lst rfl h
  | int => exact lst rfl h
  | lst => exact lst rfl h
  | ro => exact lst rfl h
  | dct => exact lst rfl h
  | ref => exact lst rfl h
def zipD (ds es : List D) : List D := (ds.zip es).map fun p => .tup [p.1, p.2]
def mZip (m n : VE) : VW := fun ρ S Q => m ρ S fun d S1 => n ρ S1 fun e S2 => match rdW d S2, rdW e S2 with
  | some ds, some es => Q (zipD ds es) (fun S' => rdW d S' = some ds ∧ rdW e S' = some es) S2
  | _, _ => False
theorem mZip_e {m n : VE} {ρ : Sl} {S : Store} {Q : List D → (Store → Prop) → Store → Prop} : mZip m n ρ S Q = m ρ S fun d S1 => n ρ S1 fun e S2 => match rdW d S2, rdW e S2 with
  | some ds, some es => Q (zipD ds es) (fun S' => rdW d S' = some ds ∧ rdW e S' = some es) S2
  | _, _ => False := rfl
theorem walks_zip {K : PySem.W.Frag} {G1 : Hp} {d e : D} {v1 v2 : V} {ds es : List D} (r1 : Rp K G1 v1 d) (r2 : Rp K G1 v2 e) :
    Walks K G1 (fun S' => rdW d S' = some ds ∧ rdW e S' = some es) (ItG K (kindD d) (kindD e) v1 v2) (zipD ds es) where
  stop := fun H G S g v k => by
    obtain ⟨xs, w1, l1⟩ := row_of v (r1.mono g) k.1
    obtain ⟨ys, w2, l2⟩ := row_of v (r2.mono g) k.2
    refine ⟨xs, ys, w1, w2, ?_⟩
    have a := l1.length
    have b := l2.length
    simp only [zipD, List.length_map, List.length_zip]
    omega
  goes := fun i H G S hi g v k => by
    obtain ⟨xs, w1, l1⟩ := row_of v (r1.mono g) k.1
    obtain ⟨ys, w2, l2⟩ := row_of v (r2.mono g) k.2
    have a := l1.length
    have b := l2.length
    simp only [zipD, List.length_map, List.length_zip] at hi
    exact ⟨xs, ys, xs[i]'(by omega), ys[i]'(by omega), w1, w2, by simp, by simp⟩
  yld := fun i q H x H' G S hd g v k y => by
    obtain ⟨T, x', y', rfl, hT, rfl, f1, f2⟩ := y
    obtain ⟨xs, w1, l1⟩ := row_of v (r1.mono g) k.1
    obtain ⟨ys, w2, l2⟩ := row_of v (r2.mono g) k.2
    obtain ⟨d', e1, rd⟩ := l1.getV (f1 xs w1)
    obtain ⟨e', e2, re⟩ := l2.getV (f2 ys w2)
    have : q = .tup [d', e'] := by
      simp only [zipD, List.getElem?_map, List.getElem?_zip_eq_some, Option.map_eq_some_iff] at hd
      obtain ⟨p, ⟨h1, h2⟩, h3⟩ := hd
      rw [e1] at h1; cases h1
      rw [e2] at h2; cases h2
      exact h3.symm
    subst this
    have a3 := v.froze (o := .tup [x', y']) hT
    exact ⟨_, a3, .tup (SqT.of upd_same) (.cons (rd.mono a3.gg) (.cons (re.mono a3.gg) .nil))⟩
theorem i_zip {e e2 : Expr} {m n : VE} {p pos tpos : Pos} {elts : List Expr} {kk : Nat} (hg : Gl X "zip") (hm : X.mg "zip" = none) (h1 : PE X e (LE X.K m)) (h2 : PE X e2 (LE X.K n))
    (hs : starEach [e, e2] X.env = (false, eval e X.env) :: starEach [e2] X.env := by rfl) (hs2 : starEach [e2] X.env = (false, eval e2 X.env) :: starEach [] X.env := by rfl) (hpl : (backTo pos (starEach [e2] X.env)).any (·.1) = false := by rfl) :
    PI X (.Tuple elts kk tpos) (.Call (.Name "zip" p) [e, e2] [] pos) (LI X.K (mZip m n)) := by
  refine PI.imp (pi_g hg hm (pa_cons h1 (pa_cons h2 pa_nil hs2) hs) hs hpl) fun σ H R ⟨ρ, S, G, Q, vw, re, hm, k⟩ => ?_
  refine ⟨ρ, S, G, _, vw, re, hm, fun d S1 v1 H1 G1 a1 r1 h1 => ?_⟩
  refine ⟨ρ, S1, G1, _, a1.vw, re.mono a1.gg, h1, fun e S2 v2 H2 G2 a2 r2 h2 => ?_⟩
  split at h2
  · rename_i ds es e1 e2
    obtain ⟨xs, w1, l1⟩ := row_of a2.vw (r1.mono a2.gg) e1
    obtain ⟨ys, w2, l2⟩ := row_of a2.vw r2 e2
    exact ⟨v1, v2, xs, ys, _, _, rfl, w1, w2, k _ _ S2 H2 G2 _ (a1.trans a2) (walks_zip (r1.mono a2.gg) r2) h2⟩
  · exact h2.elim
end
end VL
set_option maxHeartbeats 2000000
namespace VL
open PySem PySem.Spec L2
open PyProof.Rows hiding St
def strKeys : List DictEntry → Bool
  | [] => true
  | e :: r => (match e.key with | .str _ _ => true | _ => false) && strKeys r
def kvOf : List DictEntry → List (Str × Value)
  | [] => []
  | e :: r => ((match e.key with | .str x _ => x | _ => ""), e.val) :: kvOf r
inductive KVs (K : PySem.W.Frag) : List (Str × Value) → List (Str × D) → Prop
  | nil : KVs K [] []
  | cons {k : Str} {u : Value} {d : D} {us : List (Str × Value)} {ds : List (Str × D)} (h : ∃ v, RelV v u ∧ ∀ G, Rp K G v d) (t : KVs K us ds) : KVs K ((k, u) :: us) ((k, d) :: ds)
theorem kv_tup {K : PySem.W.Frag} {a : Addr} {o : Obj} {ds : List D} (l : K.lookup a = some o) (h : tupC o ds = true) : ∃ v, RelV v (.ref a) ∧ ∀ G, Rp K G v (.tup ds) := ⟨.ref a, rfl, tupC_ok l h⟩
theorem find_kv {z : Str} : ∀ {es : List DictEntry}, strKeys es = true → (es.find? (·.key.isStr z) = none ∧ (kvOf es).lookup z = none) ∨ ∃ e, es.find? (·.key.isStr z) = some e ∧ (kvOf es).lookup z = some e.val
  | [], _ => .inl ⟨rfl, rfl⟩
  | e :: r, h => by
    have h' : (match e.key with | .str _ _ => true | _ => false) = true ∧ strKeys r = true := by simpa [strKeys] using h
    have ih := find_kv (z := z) h'.2
    cases ek : e.key with
    | str x t =>
      simp only [List.find?_cons, kvOf, ek, List.lookup_cons]
      by_cases hz : x = z
      · subst hz
        have : (Value.str x t).isStr x = true := by simp [Value.isStr]
        rw [this]
        exact .inr ⟨e, rfl, by simp⟩
      · have h1 : (Value.str x t).isStr z = false := by simp [Value.isStr, hz]
        have h2 : (z == x) = false := by simpa using fun q => hz q.symm
        rw [h1, h2]
        exact ih
    | _ => rw [ek] at h'; simp at h'
theorem keys_noRef : ∀ {es : List DictEntry}, strKeys es = true → es.any (·.refKey) = false
  | [], _ => rfl
  | e :: r, h => by
    have h' : (match e.key with | .str _ _ => true | _ => false) = true ∧ strKeys r = true := by simpa [strKeys] using h
    rw [List.any_cons, keys_noRef h'.2, Bool.or_false]
    unfold DictEntry.refKey
    cases ek : e.key with
    | str x t => simp
    | _ => simp [ek] at h'
/-- at x: a dict of the module with these items -/
def KD (K : PySem.W.Frag) (w : World) (mg : Str → Option Value) (x : Str) (kvs : List (Str × D)) : Prop :=
  ∃ (d : Addr) (es : Array DictEntry) (n : Nat), mg x = some (.ref d) ∧ KDict K w d es n ∧ ∀ z, (kvs.lookup z = none → PySem.W.nsIn K d z = some none) ∧ ∀ q, kvs.lookup z = some q → ∃ u0 v0, PySem.W.nsIn K d z = some (some u0) ∧ RelV v0 u0 ∧ ∀ G, Rp K G v0 q
theorem KVs.look {K : PySem.W.Frag} {z : Str} : ∀ {us : List (Str × Value)} {ds : List (Str × D)}, KVs K us ds → (us.lookup z = none ∧ ds.lookup z = none) ∨ ∃ u v q, us.lookup z = some u ∧ ds.lookup z = some q ∧ RelV v u ∧ ∀ G, Rp K G v q
  | _, _, .nil => .inl ⟨rfl, rfl⟩
  | _, _, .cons (k := k) (u := u) (d := d) ⟨v, r, g⟩ t => by
    simp only [List.lookup_cons]
    cases hz : z == k with
    | true => exact .inr ⟨u, v, d, rfl, rfl, r, g⟩
    | false => exact t.look
theorem kd_mk {K : PySem.W.Frag} {w : World} {mg : Str → Option Value} {x : Str} {d : Addr} {es : Array DictEntry} {n : Nat} {us : List (Str × Value)} {kvs : List (Str × D)} (hm : mg x = some (.ref d)) (l : K.lookup d = some ⟨.type "dict", none, .dict es n, #[]⟩)
    (lit : PySem.W.KeysLit w.params es.toList) (low : (d == sysModules) = false) (sk : strKeys es.toList = true) (hu : kvOf es.toList = us) (h : KVs K us kvs) : KD K w mg x kvs := by
  refine ⟨d, es, n, hm, ⟨l, lit, low⟩, fun z => ?_⟩
  have ns : PySem.W.nsIn K d z = some (us.lookup z) := by
    unfold PySem.W.nsIn
    rw [l]
    simp only
    rw [← hu]
    rcases find_kv (z := z) sk with ⟨a, b⟩ | ⟨e, a, b⟩
    · rw [a, b]; simp only [keys_noRef sk]; rfl
    · rw [a, b]
  rcases h.look (z := z) with ⟨a, b⟩ | ⟨u, v, q, a, b, r, g⟩
  · exact ⟨fun _ => by rw [ns, a], fun q e => (by rw [b] at e; cases e)⟩
  · refine ⟨fun e => ?_, fun q' e => ?_⟩
    · rw [b] at e; cases e
    · rw [b] at e; cases e; exact ⟨u, v, by rw [ns, a], r, g⟩
section
variable {X : Cx}
def mKSub (kvs : List (Str × D)) (mi : VE) : VE := fun ρ S Q => mi ρ S fun y S1 => match y with
  | .str z => (match kvs.lookup z with
    | some d => Q d S1
    | none => False)
  | _ => False
theorem mKSub_e {kvs : List (Str × D)} {mi : VE} {ρ : Sl} {S : Store} {Q : D → Store → Prop} : mKSub kvs mi ρ S Q = mi ρ S fun y S1 => match y with
  | .str z => (match kvs.lookup z with
    | some d => Q d S1
    | none => False)
  | _ => False := rfl
theorem v_ksub {x : Str} {kvs : List (Str × D)} {i : Expr} {mi : VE} {p pos : Pos} (hg : Gl X x) (hK : KD X.K X.w X.mg x kvs) (hi : PE X i (LE X.K mi)) (hs : PlainIx i := by exact fun _ _ => rfl) (hd : (x == ("__debug__" : Str)) = false := by decide) : PE X (.Subscript (.Name x p) i pos) (LE X.K (mKSub kvs mi)) := by
  obtain ⟨d, es, n, hm, D, lk⟩ := hK
  refine PE.imp (pe_ix ix_kdict (pe_glob hg hm (v := .ref d) rfl hd) hi hs) fun σ H Q' ⟨ρ, S, G, Q, vw, re, hm, k⟩ => ?_
  refine ⟨ρ, S, G, _, vw, re, hm, fun y S1 v1 H1 G1 a1 r1 h1 => ?_⟩
  cases r1 <;> try exact h1.elim
  rename_i z
  simp only at h1
  split at h1
  · rename_i q e
    obtain ⟨u0, v0, e0, r0, g0⟩ := (lk z).2 q e
    exact ⟨d, z, v0, rfl, rfl, ⟨es, n, u0, D.at_, D.lit, e0, r0⟩, k _ S1 _ H1 G1 a1 (g0 G1) h1⟩
  · exact h1.elim
def mKIn (neg : Bool) (kvs : List (Str × D)) (mi : VE) : VE := fun ρ S Q => mi ρ S fun y S1 => match y with
  | .str z => Q (.bl (if neg then !(kvs.lookup z).isSome else (kvs.lookup z).isSome)) S1
  | _ => False
theorem mKIn_e {neg : Bool} {kvs : List (Str × D)} {mi : VE} {ρ : Sl} {S : Store} {Q : D → Store → Prop} : mKIn neg kvs mi ρ S Q = mi ρ S fun y S1 => match y with
  | .str z => Q (.bl (if neg then !(kvs.lookup z).isSome else (kvs.lookup z).isSome)) S1
  | _ => False := rfl
theorem kd_ns {K : PySem.W.Frag} {w : World} {d : Addr} {kvs : List (Str × D)} {z : Str} (h : (kvs.lookup z = none → PySem.W.nsIn K d z = some none) ∧ ∀ q, kvs.lookup z = some q → ∃ u0 v0, PySem.W.nsIn K d z = some (some u0) ∧ RelV v0 u0 ∧ ∀ G, Rp K G v0 q) :
    ∃ r, PySem.W.nsIn K d z = some r ∧ r.isSome = (kvs.lookup z).isSome := by
  cases e : kvs.lookup z with
  | none => exact ⟨none, h.1 e, rfl⟩
  | some q => obtain ⟨u, v, e0, _⟩ := h.2 q e; exact ⟨some u, e0, rfl⟩
theorem le_kin {neg : Bool} {d : Addr} {kvs : List (Str × D)} {mi : VE} {σ : L2.St} {H : Hp} {Q' : VK} (lk : ∀ z, (kvs.lookup z = none → PySem.W.nsIn X.K d z = some none) ∧ ∀ q, kvs.lookup z = some q → ∃ u0 v0, PySem.W.nsIn X.K d z = some (some u0) ∧ RelV v0 u0 ∧ ∀ G, Rp X.K G v0 q)
    (q : LE X.K (mKIn neg kvs mi) σ H Q') : LE X.K mi σ H fun y H1 => ∃ (z : Str) (r : Option Value), y = .str z ∧ V.ref d = .ref d ∧ PySem.W.nsIn X.K d z = some r ∧ Q' (.bl (if neg then !r.isSome else r.isSome)) H1 := by
  obtain ⟨ρ, S, G, Q, vw, re, hm, k⟩ := q
  refine ⟨ρ, S, G, _, vw, re, hm, fun y S1 v1 H1 G1 a1 r1 h1 => ?_⟩
  cases r1 <;> try exact h1.elim
  rename_i z
  obtain ⟨r, e1, e2⟩ := kd_ns (w := X.w) (lk z)
  refine ⟨z, r, rfl, rfl, e1, ?_⟩
  rw [e2]
  exact k _ S1 _ H1 G1 a1 (.bl _) h1
end
end VL
set_option maxHeartbeats 2000000
namespace VL
open PySem PySem.Spec L2
open PyProof.Rows hiding St
section
variable {X : Cx}
abbrev VGs := List D → Sl → Store → (Sl → Store → Prop) → Prop
def LGs (K : PySem.W.Frag) (m : VGs) : TGs := fun vs σ H Q' => ∃ ρ S G ds Q, View K G S H ∧ REnv K G σ ρ ∧ RpL K G vs ds ∧ m ds ρ S Q ∧ ∀ ρ' S' σ' H' G', Aft K G S H S' H' G' → REnv K G' σ' ρ' → Q ρ' S' → Q' σ' H'
theorem PGs.imp {ts : List Expr} {t t' : TGs} (h : PGs X ts t) (i : ∀ vs σ H Q, t' vs σ H Q → t vs σ H Q) : PGs X ts t' := ⟨fun pins s σ H vs us Q I r q => h.run pins s σ H vs us Q I r (i vs σ H Q q)⟩
def gsNil : VGs := fun ds ρ S Q => ds = [] ∧ Q ρ S
def gsCons (g : VG) (gs : VGs) : VGs := fun ds ρ S Q => match ds with
  | d :: r => g d ρ S fun ρ1 S1 => gs r ρ1 S1 Q
  | [] => False
theorem gsNil_e {ds : List D} {ρ : Sl} {S : Store} {Q : Sl → Store → Prop} : gsNil ds ρ S Q = (ds = [] ∧ Q ρ S) := rfl
theorem gsCons_e {g : VG} {gs : VGs} {d : D} {r : List D} {ρ : Sl} {S : Store} {Q : Sl → Store → Prop} : gsCons g gs (d :: r) ρ S Q = g d ρ S fun ρ1 S1 => gs r ρ1 S1 Q := rfl
theorem gs_nil : PGs X [] (LGs X.K gsNil) := PGs.imp pgs_nil fun vs σ H Q' ⟨ρ, S, G, ds, Q, vw, re, r, hm, k⟩ => by
  obtain ⟨rfl, q⟩ := hm
  cases r
  exact ⟨rfl, k ρ S σ H G (Aft.refl vw) re q⟩
theorem gs_cons {e : Expr} {es : List Expr} {g : VG} {gs : VGs} (h1 : PG X e (LG X.K g)) (h2 : PGs X es (LGs X.K gs)) (hs : (assignEach (e :: es) X.env).map (·.2) = assign e X.env :: (assignEach es X.env).map (·.2) := by rfl) : PGs X (e :: es) (LGs X.K (gsCons g gs)) :=
  PGs.imp (pgs_cons h1 h2 hs) fun vs σ H Q' ⟨ρ, S, G, ds, Q, vw, re, r, hm, k⟩ => by
    cases r with
    | nil => exact hm.elim
    | @cons v vr d dr rv rr =>
      refine ⟨v, vr, rfl, ρ, S, G, d, _, vw, re, rv, hm, fun ρ1 S1 σ1 H1 G1 a1 re1 q1 => ?_⟩
      exact ⟨ρ1, S1, G1, dr, Q, a1.vw, re1, rr.mono a1.gg, q1, fun ρ2 S2 σ2 H2 G2 a2 re2 q2 => k ρ2 S2 σ2 H2 G2 (a1.trans a2) re2 q2⟩
def gNm (i : Nat) : VG := fun d ρ S Q => Q (ρ.set i (some d)) S
theorem gNm_e {i : Nat} {d : D} {ρ : Sl} {S : Store} {Q : Sl → Store → Prop} : gNm i d ρ S Q = Q (ρ.set i (some d)) S := rfl
theorem g_nm {i : Nat} {e : Expr} (h : PG X e (gName i)) : PG X e (LG X.K (gNm i)) := PG.imp h fun v σ H Q' ⟨ρ, S, G, d, Q, vw, re, r, hm, k⟩ => k _ S _ H G (Aft.refl vw) (re.set r) hm
/-- a, b[c] = e, e a tuple -/
def mMix (n : Nat) (m : VE) (gs : VGs) : VS := fun E ρ S => m ρ S fun d S1 => match d with
  | .tup ds => ds.length = n ∧ gs ds ρ S1 E.nx
  | _ => False
theorem mMix_e {n : Nat} {m : VE} {gs : VGs} {E : VEnds} {ρ : Sl} {S : Store} : mMix n m gs E ρ S = m ρ S fun d S1 => match d with
  | .tup ds => ds.length = n ∧ gs ds ρ S1 E.nx
  | _ => False := rfl
theorem s_mix {n : Nat} {es : List Expr} {k : Nat} {e : Expr} {m : VE} {gs : VGs} {tp pos : Pos} (hc : X.calm = true) (he : PE X e (LE X.K m)) (hg : PGs X es (LGs X.K gs)) (hn : (assignEach es X.env).length = n := by rfl) (hst : (assignEach es X.env).findIdx? (·.1) = none := by rfl)
    (hs : swapsWithSole [.Tuple es k tp] e pos.line X.env = pure false := by rfl) (hw : swappedStores [.Tuple es k tp] e X.env = pure none := by rfl) (h1 : (assignEach [.Tuple es k tp] X.env).map (·.2) = [assign (.Tuple es k tp) X.env] := by rfl) : PS X (.Assign [.Tuple es k tp] e pos) (LS X.K (mMix n m gs)) := by
  refine PS.imp (ps_asg he (pg_tup hc hg hn hst) hs hw h1) fun D' σ H ⟨ρ, S, G, E, vw, re, hm, ok⟩ => ⟨ρ, S, G, _, vw, re, hm, fun d S' v H' G' a r q => ?_⟩
  split at q
  · cases r with
    | tup ht l =>
      exact ⟨_, _, rfl, same_t a.vw.gh ht, by rw [l.length]; exact q.1, ρ, S', G', _, _, a.vw, re.mono a.gg, l, q.2, fun ρ' S2 σ' H2 G2 a2 re2 q2 => ok.nx ρ' S2 σ' H2 G2 (a.trans a2) re2 q2⟩
  · exact q.elim
/-- a text of the module -/
theorem v_gstr {x y : Str} {pos : Pos} (hg : Gl X x) (hm : ∃ t, X.mg x = some (.str y t)) (hd : (x == ("__debug__" : Str)) = false := by decide) : PE X (.Name x pos) (LE X.K (mC (.str y))) := by
  obtain ⟨t, hm⟩ := hm
  exact v_c (pe_glob hg hm (v := .str y) ⟨_, rfl⟩ hd) fun _ => .str y
theorem t_knotin {x : Str} {kvs : List (Str × D)} {i : Expr} {mi : VE} {p pos : Pos} (hg : Gl X x) (hK : KD X.K X.w X.mg x kvs) (hi : PE X i (LE X.K mi)) (hd : (x == ("__debug__" : Str)) = false := by decide) (hm2 : behindInMarks .NotIn (.Name x p) = false := by rfl) : PT X (.Compare i [.NotIn] [.Name x p] pos) (LT X.K (mTest (mKIn true kvs mi))) := by
  obtain ⟨d, es, n, hm, D, lk⟩ := hK
  exact PT.imp (pt_cmpR (op_notIn_kd D) hi (pe_glob hg hm (v := .ref d) rfl hd) hm2) fun σ H Q' q => le_kin (neg := true) lk (lt_B q)
theorem op_eqT0 (hu : X.A.units < cLine) : OpR X (compareOp .Eq) (fun x y H Q => ∃ a b xs, x = .ref a ∧ y = .ref b ∧ SqT X.K H a xs ∧ SqT X.K H b [] ∧ Q (.bl (decide (xs = []))) H) := by
  intro pins s σ H x y v u Q I rx ry h
  obtain ⟨a, b, xs, rfl, rfl, h1, h2, q⟩ := h
  cases rx
  cases ry
  obtain ⟨its, r1, t1, _⟩ := I.tuple h1
  obtain ⟨its2, r2, t2, _⟩ := I.tuple h2
  cases r2
  refine SeqAt.RcAt.tuples (e := fun _ => true) t1 t2 hu (fun j _ z => absurd z (by simp)) _ _ _ _ ⟨.bl (decide (xs = [])), H, I, ?_, q⟩
  have e : decide (xs = []) = ((List.range (min its.toArray.size (#[] : Array Value).size)).all (fun _ => true) && its.toArray.size == (#[] : Array Value).size) := by
    cases r1 <;> simp
  rw [e]
  rfl
def mEqT0 : R2V := fun x y S Q => match x, y with
  | .tup ds, .tup [] => Q (.bl (decide (ds = []))) S
  | _, _ => False
theorem mEqT0_e {ds : List D} {S : Store} {Q : D → Store → Prop} : mEqT0 (.tup ds) (.tup []) S Q = Q (.bl (decide (ds = []))) S := rfl
theorem ov_eqT0 (hu : X.A.units < cLine) : OpV X (compareOp .Eq) mEqT0 := by
  refine ⟨_, op_eqT0 hu, ?_⟩
  intro x y v1 v2 G S H Q Q' vw r1 r2 h k
  unfold mEqT0 at h
  split at h
  · cases r1 with
    | @tup a xs ds h1 l1 =>
      cases r2 with
      | @tup b ys es h2 l2 =>
        cases l2
        refine ⟨a, b, xs, rfl, rfl, same_t vw.gh h1, same_t vw.gh h2, k _ S _ H G (Aft.refl vw) ?_ h⟩
        have same : ∀ {ds : List D}, RpL X.K G xs ds → decide (xs = []) = decide (ds = []) := fun l => by cases l <;> simp
        rw [same l1]
        exact .bl _
  · exact h.elim
end
end VL
set_option maxHeartbeats 2000000
namespace VL
open PySem PySem.Spec L2
open PyProof.Rows hiding St
def lineTab : List (Str × List (Nat × Str)) := [("put", [(104, "written"), (110, "number")]), ("none", [(104, "written")]), ("copy", [(104, "written"), (103, "read")]), ("add", [(104, "written"), (103, "read"), (103, "read")]), ("less", [(104, "written"), (103, "read"), (103, "read")]),
  ("new", [(104, "written"), (97, "few"), (97, "few")]), ("getn", [(104, "written"), (103, "read"), (107, "field")]), ("setn", [(103, "read"), (107, "field"), (103, "read")]), ("getb", [(104, "written"), (103, "read"), (107, "field")]), ("setb", [(103, "read"), (107, "field"), (103, "read")]),
  ("tell", [(103, "read")]), ("go", [(116, "goal")]), ("if", [(103, "read"), (116, "goal")]), ("ifnone", [(103, "read"), (116, "goal")]), ("same", [(103, "read"), (103, "read"), (116, "goal")]), ("call", [(116, "called")]), ("back", []), ("rest", [])]
def isFrom (d : D) : Bool := match d with
  | .int i => decide (0 ≤ i)
  | _ => false
def fitC (c : Nat) (d : D) : Bool := if c = 104 ∨ c = 103 then isHome d else if c = 110 then isWhole d else if c = 97 then isWithin d 0 3 else if c = 107 then isWithin d 0 2 else isFrom d
def partB (p : Str) (d : D) : Bool := if p = "written" ∨ p = "read" then isHome d else if p = "number" then isWhole d else if p = "few" then isWithin d 0 3 else if p = "field" then isWithin d 0 2 else isFrom d
def fitsAll : List (Nat × Str) → List D → Bool
  | [], [] => true
  | e :: es, d :: ds => fitC e.1 d && fitsAll es ds
  | _, _ => false
def lineD (d : D) : Bool := match d with
  | .tup (.str w :: ds) => (match lineTab.lookup w with
    | some es => fitsAll es ds
    | none => false)
  | _ => false
theorem look_map {α β γ : Type} [BEq α] (f : β → γ) (z : α) : ∀ l : List (α × β), (l.map fun e => (e.1, f e.2)).lookup z = (l.lookup z).map f
  | [] => rfl
  | (k, b) :: l => by
    simp only [List.map_cons, List.lookup_cons, look_map f z l]
    cases z == k <;> rfl
theorem look_mem {β : Type} {z : Str} {b : β} : ∀ {l : List (Str × β)}, l.lookup z = some b → (z, b) ∈ l
  | (k, c) :: l, h => by
    simp only [List.lookup_cons] at h
    cases e : z == k with
    | true => rw [e] at h; cases h; rw [eq_of_beq e]; exact List.mem_cons_self
    | false => rw [e] at h; exact List.mem_cons_of_mem _ (look_mem h)
/-- the signs and the names of parts say the same -/
def pairs : List (Nat × Str) := [(104, "written"), (103, "read"), (110, "number"), (97, "few"), (107, "field"), (116, "goal"), (116, "called")]
def okPair (e : Nat × Str) : Bool := decide (e ∈ pairs)
theorem pair_fit {e : Nat × Str} (h : okPair e = true) (d : D) : partB e.2 d = fitC e.1 d := by
  have h' : e ∈ pairs := of_decide_eq_true h
  simp only [pairs, List.mem_cons, List.not_mem_nil, or_false] at h'
  rcases h' with rfl | rfl | rfl | rfl | rfl | rfl | rfl <;> rfl
theorem table_ok : ∀ e ∈ lineTab, e.2.all okPair = true ∧ e.2.length ≤ 3 := by decide +kernel
def AllSm (n m : Nat) (ds : List D) : Prop := ∀ d ∈ ds, Sm n m d
theorem AllSm.row {n m : Nat} : ∀ {ds : List D}, AllSm n m ds → smlL ds = true ∧ cntL ds ≤ (n + 2) * ds.length ∧ depL ds ≤ m
  | [], _ => ⟨rfl, Nat.zero_le _, Nat.zero_le _⟩
  | d :: ds, h => by
    obtain ⟨a, b, c⟩ := AllSm.row (fun e he => h e (List.mem_cons_of_mem _ he) : AllSm n m ds)
    obtain ⟨x, y, z⟩ := h d List.mem_cons_self
    refine ⟨by simp only [smlL, x, a, Bool.and_self], ?_, ?_⟩
    · simp only [cntL, List.length_cons, Nat.mul_succ]; omega
    · simp only [depL]; omega
theorem AllSm.tup {n m k : Nat} {ds : List D} (h : AllSm n m ds) (hk : ds.length ≤ k) : Sm ((n + 2) * k + 3) (m + 1) (.tup ds) := by
  obtain ⟨a, b, c⟩ := h.row
  have := Nat.mul_le_mul_left (n + 2) hk
  exact ⟨by simpa only [sml] using a, by simp only [VL.cnt]; omega, by simp only [dep]; omega⟩
theorem AllSm.app {n m : Nat} {ds es : List D} (h : AllSm n m ds) (k : AllSm n m es) : AllSm n m (ds ++ es) := fun d hd => (List.mem_append.mp hd).elim (h d) (k d)
theorem AllSm.cut {n m : Nat} {ds : List D} (h : AllSm n m ds) (lo hi : Option Int) : AllSm n m (cutD ds lo hi) := fun d hd => h d (List.mem_of_mem_drop (List.mem_of_mem_take hd))
theorem AllSm.set {n m : Nat} {ds : List D} (h : AllSm n m ds) {i : Nat} {d : D} (hd : Sm n m d) : AllSm n m (ds.set i d) := fun e he => (List.mem_or_eq_of_mem_set he).elim (h e) fun z => by rw [z]; exact hd
theorem cut_one {d : D} {ds : List D} : cutD (d :: ds) (some 1) none = ds := by
  unfold cutD HT.sIx
  simp
theorem rdW_tup {ds : List D} {S : Store} : rdW (.tup ds) S = some ds := rfl
theorem rdW_lst {ds : List D} {S : Store} : rdW (.lst ds) S = some ds := rfl
theorem rdW_str {x : Str} {S : Store} : rdW (.str x) S = some (sgnD x) := rfl
def strsOf (es : List (Nat × Str)) : List D := es.map fun p => D.str p.2
def fP (d : D) : List D := match d with
  | .tup [.str p, x] => [.bl (partB p x)]
  | _ => []
theorem parts_bls : ∀ {es : List (Nat × Str)} {r : List D}, es.length = r.length → es.all okPair = true → ∃ bs, bls ((zipD (strsOf es) r).flatMap fP) = some bs ∧ bs.all id = fitsAll es r
  | [], [], _, _ => ⟨[], rfl, rfl⟩
  | e :: es, d :: r, h, ok => by
    have ok' : okPair e = true ∧ es.all okPair = true := by simpa using ok
    obtain ⟨bs, h1, h2⟩ := parts_bls (es := es) (r := r) (by simpa using h) ok'.2
    refine ⟨fitC e.1 d :: bs, ?_, ?_⟩
    · have : (zipD (strsOf (e :: es)) (d :: r)).flatMap fP = D.bl (partB e.2 d) :: (zipD (strsOf es) r).flatMap fP := by
        simp [zipD, strsOf, fP]
      rw [this, pair_fit ok'.1]
      simp only [bls, h1, Option.map_some]
    · simp only [List.all_cons, id_eq, h2, fitsAll]
theorem fits_len : ∀ {es : List (Nat × Str)} {r : List D}, es.length ≠ r.length → fitsAll es r = false
  | [], [], h => absurd rfl h
  | [], _ :: _, _ => rfl
  | _ :: _, [], _ => rfl
  | e :: es, d :: r, h => by simp only [fitsAll, fits_len (es := es) (r := r) (by simpa using h), Bool.and_false]
theorem zip_mem {es : List (Nat × Str)} {r : List D} {d : D} (h : d ∈ zipD (strsOf es) r) : ∃ p x, d = .tup [.str p, x] ∧ x ∈ r := by
  simp only [zipD, List.mem_map] at h
  obtain ⟨⟨a, b⟩, h1, rfl⟩ := h
  have h2 := List.of_mem_zip h1
  simp only [strsOf, List.mem_map] at h2
  obtain ⟨⟨e, _, rfl⟩, h3⟩ := h2
  exact ⟨e.2, b, rfl, h3⟩
def signs6 : List Nat := [104, 103, 110, 97, 107, 116]
theorem look_none {β : Type} {z : Str} : ∀ {l : List (Str × β)}, l.lookup z = none → z ∉ l.map (·.1)
  | [], _ => by simp
  | (k, c) :: l, h => by
    simp only [List.lookup_cons] at h
    cases e : z == k with
    | true => rw [e] at h; cases h
    | false =>
      rw [e] at h
      simp only [List.map_cons, List.mem_cons, not_or]
      exact ⟨fun q => by subst q; simp at e, look_none h⟩
theorem look_some {β : Type} {z : Str} {l : List (Str × β)} (h : z ∈ l.map (·.1)) : ∃ b, l.lookup z = some b := by
  cases e : l.lookup z with
  | none => exact absurd h (look_none e)
  | some b => exact ⟨b, rfl⟩
theorem table_signs : ∀ e ∈ lineTab, (e.2.map (·.1)).all (fun c => decide (c ∈ signs6)) = true ∧ PyData.strOk e.1 = true ∧ e.1.length ≤ 10 ∧ PyData.strOk (Txt.upper e.1) = true ∧ (Txt.upper e.1).length ≤ 10 := by decide +kernel
end VL
set_option maxHeartbeats 2000000
namespace VL
open PySem PySem.Spec L2
open PyProof.Rows hiding St
section
variable {X : Cx}
def strsD : List D → Option (List Str)
  | [] => some []
  | .str x :: ds => (strsD ds).map (x :: ·)
  | _ :: _ => none
theorem strsD_ok {K : PySem.W.Frag} {G : Hp} : ∀ {xs : List V} {ds : List D} {ys : List Str}, RpL K G xs ds → strsD ds = some ys → xs = ys.map V.str
  | _, _, _, .nil, h => by simp [strsD] at h; subst h; rfl
  | _, _, _, .cons r t, h => by
    cases r <;> try (simp [strsD] at h; done)
    rename_i b ds' _
    cases e : strsD ds' with
    | none => simp [strsD, e] at h
    | some bs' => simp [strsD, e] at h; subst h; rw [strsD_ok t e]; rfl
def mJoin (m n : VE) : VE := fun ρ S Q => m ρ S fun x S1 => match x with
  | .str a => n ρ S1 fun y S2 => (match rdS y S2 with
    | some ds => (match strsD ds with
      | some ys => (ys.map (·.length)).sum + ys.length * a.length ≤ 16777216 ∧ Q (.str (Txt.join a ys)) S2
      | none => False)
    | none => False)
  | _ => False
theorem mJoin_e {m n : VE} {ρ : Sl} {S : Store} {Q : D → Store → Prop} : mJoin m n ρ S Q = m ρ S fun x S1 => match x with
  | .str a => n ρ S1 fun y S2 => (match rdS y S2 with
    | some ds => (match strsD ds with
      | some ys => (ys.map (·.length)).sum + ys.length * a.length ≤ 16777216 ∧ Q (.str (Txt.join a ys)) S2
      | none => False)
    | none => False)
  | _ => False := rfl
theorem v_join {o e : Expr} {m n : VE} {apos pos : Pos} (w : PE X (.Call (.Attribute o "join" apos) [e] [] pos) (tM1 (fun x xs H Q => ∃ a p, ∃ ys : List Str, x = .str a ∧ xs = [.ref p] ∧ (SqL X.K H p (ys.map V.str) ∨ SqT X.K H p (ys.map V.str)) ∧
      (ys.map (·.length)).sum + ys.length * a.length ≤ 16777216 ∧ Q (.str (Txt.join a ys)) H) (LE X.K m) (LE X.K n))) : PE X (.Call (.Attribute o "join" apos) [e] [] pos) (LE X.K (mJoin m n)) := by
  refine PE.imp w fun σ H Q' ⟨ρ, S, G, Q, vw, re, hm, k⟩ => ?_
  refine ⟨ρ, S, G, _, vw, re, hm, fun d S1 v1 H1 G1 a1 r1 h1 => ?_⟩
  cases r1 <;> try exact h1.elim
  rename_i a
  refine ⟨⟨a, rfl⟩, ρ, S1, G1, _, a1.vw, re.mono a1.gg, h1, fun y S2 v2 H2 G2 a2 r2 h2 => ?_⟩
  split at h2
  · rename_i ds e1
    split at h2
    · rename_i ys e2
      obtain ⟨p, xs, rfl, q, l⟩ := rdS_ok a2.vw r2 e1
      have := strsD_ok l e2
      subst this
      exact ⟨a, p, ys, rfl, rfl, q, h2.1, k _ S2 _ H2 G2 (a1.trans a2) (.str _) h2.2⟩
    · exact h2.elim
  · exact h2.elim
end
end VL
namespace VL
open PySem PySem.Spec L2
open PyProof.Rows hiding St
section
variable {X : Cx}
def mDGet1 (m i : VE) : VE := fun ρ S Q => m ρ S fun d S1 => (rdD d S1).isSome = true ∧ i ρ S1 fun y S2 => match rdD d S2, keyD y with
  | some kvs, some k => Q ((valD kvs k).getD .non) S2
  | _, _ => False
theorem mDGet1_e {m i : VE} {ρ : Sl} {S : Store} {Q : D → Store → Prop} : mDGet1 m i ρ S Q = m ρ S fun d S1 => (rdD d S1).isSome = true ∧ i ρ S1 fun y S2 => match rdD d S2, keyD y with
  | some kvs, some k => Q ((valD kvs k).getD .non) S2
  | _, _ => False := rfl
theorem v_dget1 {o e : Expr} {m mi : VE} {apos cpos : Pos} (hu : X.A.units + 1 < cLine) (ho : PE X o (LE X.K m)) (hi : PE X e (LE X.K mi)) (M : M1 X o "get" apos e cpos) : PE X (.Call (.Attribute o "get" apos) [e] [] cpos) (LE X.K (mDGet1 m mi)) := by
  refine PE.imp (pe_dget1 hu ho hi M) fun σ H Q' ⟨ρ, S, G, Q, vw, re, hm, k⟩ => ?_
  refine ⟨ρ, S, G, _, vw, re, hm, fun d S1 v1 H1 G1 a1 r1 ⟨h0, h1⟩ => ?_⟩
  obtain ⟨kvs0, e0⟩ := Option.isSome_iff_exists.mp h0
  obtain ⟨a, ks0, rfl, hr0, rk0⟩ := rdD_ok a1.vw r1 e0
  refine ⟨a, rfl, .inl ⟨ks0, hr0⟩, ρ, S1, G1, _, a1.vw, re.mono a1.gg, h1, fun y S2 v2 H2 G2 a2 r2 h2 => ?_⟩
  split at h2
  · rename_i kvs ky e1 e2
    obtain ⟨a', ks, e, hr, rk⟩ := rdD_ok a2.vw (r1.mono a2.gg) e1
    cases e
    refine ⟨valV ks ky, .inl ⟨ks, ky, hr, key_ok r2 e2, rfl⟩, ?_⟩
    rcases rk.val (k := ky) with ⟨z1, z2⟩ | ⟨v, d', z1, z2, z3⟩
    · rw [z1] at h2; rw [z2]; exact k _ S2 _ H2 G2 (a1.trans a2) .non h2
    · rw [z1] at h2; rw [z2]; exact k _ S2 _ H2 G2 (a1.trans a2) z3 h2
  · exact h2.elim
end
end VL
set_option maxHeartbeats 2000000
namespace VL
open PySem PySem.Spec L2
open PyProof.Rows hiding St
def ItE (K : PySem.W.Frag) (k : Kd) (v : V) : It :=
  ⟨fun i H => ∃ (xs : List V) (x : V), rowK k K H v xs ∧ xs[i]? = some x,
    fun i H u H' => ∃ T x, u = .ref T ∧ H T = none ∧ H' = upd H T (.tup [.int (i : Nat), x]) ∧ ∀ xs, rowK k K H v xs → xs[i]? = some x,
    fun i H => ∃ xs : List V, rowK k K H v xs ∧ i = xs.length⟩
theorem turn_e {P : Program} {w : World} {K : PySem.W.Frag} {elts : List Expr} {kk : Nat} {tpos : Pos} {e it : Addr} {k : Kd} {v : V} {u : Value} (ne : e ≠ it) (far : ∀ a, u = .ref a → a ≠ e ∧ a ≠ it) (r : RelV v u) :
    Turn P w K (.Tuple elts kk tpos) (ItE K k v) [e, it] e (fun i h => (∃ old, IsEnum h e it ((i : Nat) : Int) old) ∧ itK k u it i h) where
  mem := by simp
  obj := fun i h st c hc => by
    obtain ⟨⟨old, q1⟩, q2⟩ := st
    simp only [List.mem_cons, List.not_mem_nil, or_false] at hc
    rcases hc with rfl | rfl
    · exact ⟨_, q1, fun v z => nomatch z⟩
    · exact q2.obj
  keep := fun i h h' st k => by
    obtain ⟨⟨old, q1⟩, q2⟩ := st
    exact ⟨⟨old, k e (by simp) _ q1⟩, q2.at fun o z => k it (by simp) o z⟩
  item := by
    intro X hP hw hK hc i pins s σ H E I hf st hg
    subst hP hw hK
    obtain ⟨⟨old, q1⟩, q2⟩ := st
    obtain ⟨xs, x, hx, ex⟩ := hg
    obtain ⟨fp, Pp, S1, D1, s1, t1, p1, m1, c1⟩ := draws_of (A := X.A.in1) I (I.ok.hd hc) r hx q2 fun a z => (far a z).2
    have el : e < s.heap.objs.size := Heap.lt_size q1
    have ef : e ∉ fp := fun h => (c1 e h).elim ne fun z => (far e z).1 rfl
    refine PySem.wpAny_pyNext_enum_itemD D1 q1 s1 (getE ex) ne ef fun w1 h' tk y1 ho s1' hT hsz hk => ?_
    refine ⟨_, rfl, wpAny_letOwnedTupleGo_enum (s := { s with heap := h', toks := tk + 1 }) ho fun h'' he' sb => ?_⟩
    obtain ⟨x', ex', rx'⟩ := p1 _ _ y1
    rw [ex] at ex'; cases ex'
    have hT2 : h''.get? s.heap.objs.size = some { cls := .type "tuple", data := .seq #[.int i tk, w1] } := (sb.2 _ (Nat.ne_of_gt el)).trans hT
    have new : ObjOk X.prog X.w (upd H s.heap.objs.size (.tup [.int (i : Nat), x])) h'' s.heap.objs.size (.tup [.int (i : Nat), x]) := ⟨by show 2 ≤ sizeLine; decide, [.int i tk, w1], .cons ⟨_, rfl⟩ (.cons rx' .nil), ⟨_, hT2, rfl, _, rfl⟩⟩
    have I1 : L2.Inv X pins σ (upd H s.heap.objs.size (.tup [.int (i : Nat), x])) { s with heap := h'', toks := tk + 1 } :=
      I.turnedNew (t' := tk + 1) (ch := [e, it]) (fun b ob hb z => (sb.2 b (fun z' => hb (by simp [z']))).trans (hk b ob (fun z' => hb (by simp [z'])) (fun z' => hb (by simp [z'])) z)) hf (Nat.le_refl _) new
    refine ⟨.ref s.heap.objs.size, _, I1, rfl, ⟨_, x, rfl, I.hok.fresh (Nat.le_refl _), rfl, fun l hl => by rw [rowK_inj I hl hx]; exact ex⟩, ⟨⟨w1, ?_⟩, (t1 _ _ s1').at fun o z => (sb.2 it (Ne.symm ne)).trans z⟩, fun b hb => ?_⟩
    · rw [show ((i + 1 : Nat) : Int) = (i : Int) + 1 by omega]; exact he'
    · have lt : b < s.heap.objs.size := by
        obtain ⟨_, e4, _⟩ := q2.obj
        simp only [List.mem_cons, List.not_mem_nil, or_false] at hb
        rcases hb with rfl | rfl
        · exact el
        · exact Heap.lt_size e4
      rw [upd_ne (Nat.ne_of_lt lt)]
      exact (hf b hb).1
  done := by
    intro X hP hw hK hc i pins s σ H E I hf st hg
    subst hP hw hK
    obtain ⟨⟨old, q1⟩, q2⟩ := st
    obtain ⟨xs, hx, hi⟩ := hg
    obtain ⟨fp, Pp, S1, D1, s1, t1, p1, m1, c1⟩ := draws_of (A := X.A.in1) I (I.ok.hd hc) r hx q2 fun a z => (far a z).2
    subst hi
    obtain ⟨f0, f1, f2, f3, f4, f5⟩ := hf it (by simp)
    exact PySem.wpAny_pyNext_enum_endD D1 q1 s1 fun h' eb => ⟨rfl, I.turned (t' := s.toks) (fun b o hb z => eb b o hb z) f0 f1 f3 f4 f5⟩
  self := fun A i s Q E st h => let ⟨⟨_, he⟩, _⟩ := st; wpAny_pyIter_enum he h
end VL
namespace VL
open PySem PySem.Spec L2
open PyProof.Rows hiding St
abbrev freshEnum (h : Heap) : Obj := { cls := .type "enumerate", data := .fields #[.none, .bool false, .ref h.objs.size, rawInt 0, .none, .none] }
theorem enum_made {v : Value} {o : Obj} {Hb : Heap → Prop} (B : PySem.Begins v o Hb) :
    Meets (Builtin.«enumerate.__new__» ⟨[.type "enumerate", v], []⟩) (fun _ R s => Hb s.heap ∧ R (.ok (.ret (.ref (s.heap.push o).objs.size))) { s with heap := (s.heap.push o).push (freshEnum s.heap) }) :=
  .of_wp fun prog w A R s h => by
    obtain ⟨hp, gs, dr, tk, os⟩ := s; obtain ⟨hb, h⟩ := h
    have sub := PySem.sub_enumerate
    have go : ∀ {A' : Around} {E : Value → Shared → Prop} {Qs : Value → Shared → Prop}, Qs (.ref hp.objs.size) ⟨hp.push o, gs, dr, tk, os⟩ → wpAny (model prog w) A' (pyIter v) Qs E ⟨hp, gs, dr, tk, os⟩ := fun q => B.iter prog w _ _ ⟨hp, gs, dr, tk, os⟩ _ hb q
    wp_walk using go
    refine wpAny_stack_any fun st => wpAny_pure ?_
    split
    · rename_i c _ _ _ _ _
      cases (c == Value.type "enumerate") <;> (wp_walk using go) <;> exact ⟨_, rfl, h⟩
    · wp_walk using go
      exact ⟨_, rfl, h⟩
end VL
namespace VL
open PySem PySem.Spec L2
open PyProof.Rows hiding St
section
variable {P : Program} {w : World} {A : Around} {E : Value → Shared → Prop} {s : Shared}
theorem enum_called {v : Value} {o : Obj} {Hb : Heap → Prop} {Qs : Value → Shared → Prop} (B : PySem.Begins v o Hb) (hb : Hb s.heap)
    (q : ∀ h', IsEnum h' (s.heap.objs.size + 1) s.heap.objs.size 0 .none → h'.get? s.heap.objs.size = some o → (∀ b ob, s.heap.get? b = some ob → h'.get? b = some ob) → Qs (.ref (s.heap.objs.size + 1)) { s with heap := h' }) :
    wpAny (model P w) A (call (.type "enumerate") [v]) Qs E s := by
  refine callType_new F.called_enumerate (by decide) (F.typeCall_enumerate_1 _) (F.newCall_enumerate_1 _) (fun obj => F.args_object_init_2 obj _) F.entry_enumerate_new (enum_made B) ⟨hb, ?_⟩
  have sz : (s.heap.push o).objs.size = s.heap.objs.size + 1 := Heap.size_push ..
  have at_ : IsEnum ((s.heap.push o).push (freshEnum s.heap)) (s.heap.objs.size + 1) s.heap.objs.size 0 .none := by
    have := Heap.get?_push_size (s.heap.push o) (o := freshEnum s.heap) rfl
    rw [sz] at this; exact this
  show _ ∧ _
  rw [sz]
  exact ⟨⟨_, at_, rfl⟩, q _ at_ (Heap.get?_push_of_some _ (Heap.get?_push_size _ B.free)) fun b ob z => Heap.get?_push_of_some _ (Heap.get?_push_of_some _ z)⟩
end
section
variable {X : Cx}
def iE (K : PySem.W.Frag) (ta : TA) : TI := fun σ H R => ta σ H fun vs H1 => ∃ v xs k, vs = [v] ∧ rowK k K H1 v xs ∧ R (ItE K k v) H1
theorem pi_e {e : Expr} {ta : TA} {p pos tpos : Pos} {elts : List Expr} {kk : Nat} (hg : Gl X "enumerate") (hm : X.mg "enumerate" = none) (ha : PA X [e] ta) (hs : starEach [e] X.env = [(false, eval e X.env)] := by rfl) :
    PI X (.Tuple elts kk tpos) (.Call (.Name "enumerate" p) [e] [] pos) (iE X.K ta) := by
  refine ⟨fun pins s σ H R I h => ?_⟩
  refine Call_ (ld_blt I hg hm boot_enumerate (PyProof.Rows.callWith_type1 (thn (ha.run pos pins s σ H _ I h) fun us s1 ⟨vs, H1, I1, rr, q1⟩ => ?_) hs rfl))
  obtain ⟨v, xs, k, rfl, w1, q⟩ := q1
  cases rr with
  | @cons _ u1 _ us1 r1 rr =>
    cases rr
    obtain ⟨o1, B1, b1, p1, t1, l1⟩ := begins_of I1 r1 w1
    refine enum_called b1 p1 fun h' z1 z2 hk => wpAny_pyIter_enum z1 ?_
    have I2 : L2.Inv X pins σ H1 { s1 with heap := h' } := I1.kept (t' := s1.toks) hk
    refine ⟨s1.heap.objs.size + 1, [s1.heap.objs.size + 1, s1.heap.objs.size], _, _, H1, rfl, I2, turn_e (Nat.succ_ne_self _) (fun a z => ⟨Nat.ne_of_lt (Nat.lt_succ_of_lt (l1 a z)), Nat.ne_of_lt (l1 a z)⟩) r1, ⟨⟨.none, z1⟩, t1 _ _ z2⟩, fun b hb => ?_, q⟩
    have le : s1.heap.objs.size ≤ b := by
      simp only [List.mem_cons, List.not_mem_nil, or_false] at hb
      rcases hb with z | z
      · rw [z]; exact Nat.le_add_right _ _
      · rw [z]; exact Nat.le_refl _
    exact I1.fpOk le (I1.hok.fresh le)
def enumD (ds : List D) : List D := (ds.zipIdx).map fun p => .tup [.int (p.2 : Nat), p.1]
theorem enumD_get {ds : List D} {i : Nat} {d : D} (h : ds[i]? = some d) : (enumD ds)[i]? = some (.tup [.int (i : Nat), d]) := by
  simp [enumD, h]
def mEnu (m : VE) : VW := fun ρ S Q => m ρ S fun d S1 => match rdW d S1 with
  | some ds => Q (enumD ds) (fun S' => rdW d S' = some ds) S1
  | none => False
theorem mEnu_e {m : VE} {ρ : Sl} {S : Store} {Q : List D → (Store → Prop) → Store → Prop} : mEnu m ρ S Q = m ρ S fun d S1 => match rdW d S1 with
  | some ds => Q (enumD ds) (fun S' => rdW d S' = some ds) S1
  | none => False := rfl
theorem walks_enu {K : PySem.W.Frag} {G1 : Hp} {d : D} {v1 : V} {ds : List D} (r1 : Rp K G1 v1 d) : Walks K G1 (fun S' => rdW d S' = some ds) (ItE K (kindD d) v1) (enumD ds) where
  stop := fun H G S g v k => by
    obtain ⟨xs, w1, l1⟩ := row_of v (r1.mono g) k
    exact ⟨xs, w1, by simp [enumD, l1.length]⟩
  goes := fun i H G S hi g v k => by
    obtain ⟨xs, w1, l1⟩ := row_of v (r1.mono g) k
    have a := l1.length
    simp only [enumD, List.length_map, List.length_zipIdx] at hi
    exact ⟨xs, xs[i]'(by omega), w1, by simp⟩
  yld := fun i q H x H' G S hd g v k y => by
    obtain ⟨T, x', rfl, hT, rfl, f1⟩ := y
    obtain ⟨xs, w1, l1⟩ := row_of v (r1.mono g) k
    obtain ⟨d', e1, rd⟩ := l1.getV (f1 xs w1)
    rw [enumD_get e1] at hd
    cases hd
    have a3 := v.froze (o := .tup [.int (i : Nat), x']) hT
    exact ⟨_, a3, .tup (SqT.of upd_same) (.cons (.int _) (.cons (rd.mono a3.gg) .nil))⟩
theorem i_enu {e : Expr} {m : VE} {p pos tpos : Pos} {elts : List Expr} {kk : Nat} (hg : Gl X "enumerate") (hm : X.mg "enumerate" = none) (h1 : PE X e (LE X.K m)) (hs : starEach [e] X.env = [(false, eval e X.env)] := by rfl) (hs2 : starEach [e] X.env = (false, eval e X.env) :: starEach [] X.env := by rfl) :
    PI X (.Tuple elts kk tpos) (.Call (.Name "enumerate" p) [e] [] pos) (LI X.K (mEnu m)) := by
  refine PI.imp (pi_e hg hm (pa_cons h1 pa_nil hs2) hs) fun σ H R ⟨ρ, S, G, Q, vw, re, hm, k⟩ => ?_
  refine ⟨ρ, S, G, _, vw, re, hm, fun d S1 v1 H1 G1 a1 r1 h1 => ?_⟩
  split at h1
  · rename_i ds e1
    obtain ⟨xs, w1, l1⟩ := row_of a1.vw r1 e1
    exact ⟨v1, xs, _, rfl, w1, k _ _ S1 H1 G1 _ a1 (walks_enu r1) h1⟩
  · exact h1.elim
end
end VL
set_option maxHeartbeats 2000000
namespace VL
open PySem PySem.Spec L2
open PyProof.Rows hiding St
/-- what a comprehension does with an item -/
def emitOf (e : Expr) (acc : Value) (env : Env) : Sem Unit := match e with
  | .ListComp elt _ _ _ => eval elt env >>= fun v => call (.builtin "list.append") [acc, v] >>= fun _ => pure ()
  | .SetComp elt _ _ _ => eval elt env >>= fun v => standAt elt.pos >>= fun _ => call (.builtin "set.add") [acc, v] >>= fun _ => pure ()
  | .DictComp k v _ _ _ => match acc with
    | .ref d => eval k env >>= fun kv => holding [kv] (eval v env) >>= fun vv => standAt { k.pos with endLine := v.pos.endLine, endCol := v.pos.endCol } >>= fun _ => holding [kv, vv] (dictSet d kv vv)
    | _ => unsupported "-"
  | _ => pure ()
def isComp : Expr → Bool
  | .ListComp .. | .SetComp .. | .DictComp .. => true
  | _ => false
def nestOf (e : Expr) (k : Nat) (i : Expr) (acc : Value) (env : Env) (more : Sem PySem.Fin) : Sem PySem.Fin :=
  eval i env >>= fun x => standAt i.pos >>= fun _ => foldedSetIterable i env x >>= fun x => holding [x] (pyIter x) >>= fun it => runOwn (.compStart e (k + 1) it acc env) env >>= fun _ => more
def oneTurn (t i : Expr) (ifs : List Expr) (it : Value) (env : Env) (inner : Sem PySem.Fin → Sem PySem.Fin) (more : Sem PySem.Fin) : Sem PySem.Fin := do
  standAt i.pos
  match ← pyNext it with
    | none => pure (.done .next)
    | some v =>
      letOwnedTupleGo t it v
      assign t env v
      let mut ok := true
      for c in ifs do
        if ok then ok ← isTrue c env (eval c env)
      if ok then inner more else more
theorem turn_leaf {e : Expr} {k : Nat} {t i : Expr} {ifs : List Expr} {it : Value} {d : Addr} {env : Env} (he : isComp e = true) (hk : (clausesOf e)[k]? = some ⟨t, i, ifs, 0⟩) (hk1 : (clausesOf e)[k + 1]? = none) :
    compTurn e k it (.ref d) env = oneTurn t i ifs it env (fun m => emitOf e (.ref d) env >>= fun _ => m) (again (.compLoop e k it (.ref d) env)) := by
  cases e <;> try (exact absurd he Bool.false_ne_true)
  all_goals
    simp only [clausesOf] at hk hk1
    unfold compTurn oneTurn emitOf
    simp only [hk, hk1]
    rfl
theorem turn_nest {e : Expr} {k : Nat} {t i t1 i1 : Expr} {ifs ifs1 : List Expr} {it acc : Value} {env : Env} (he : isComp e = true) (hk : (clausesOf e)[k]? = some ⟨t, i, ifs, 0⟩) (hk1 : (clausesOf e)[k + 1]? = some ⟨t1, i1, ifs1, 0⟩) :
    compTurn e k it acc env = oneTurn t i ifs it env (nestOf e k i1 acc env) (again (.compLoop e k it acc env)) := by
  cases e <;> try (exact absurd he Bool.false_ne_true)
  all_goals
    simp only [clausesOf] at hk hk1
    unfold compTurn oneTurn nestOf
    simp only [hk, hk1]
    rfl
section
variable {prog : Program} {w : World} {A : Around} {R : Result → Shared → Prop} {s : Shared} {e t i : Expr} {ifs : List Expr} {k : Nat} {it acc : Value} {env : Env} {inner : Sem PySem.Fin → Sem PySem.Fin}
/-- a clause's loop by an invariant that falls -/
theorem loop_by (he : isComp e = true) (ht : compTurn e k it acc env = oneTurn t i ifs it env inner (again (.compLoop e k it acc env))) (I : Nat → Shared → Prop)
    (turn : ∀ n s, I n s → wpAny (model prog w) A (pyNext it) (fun r s1 => match r with
      | none => R (.ok .next) s1
      | some v => wpAny (model prog w) A (letOwnedTupleGo t it v) (fun _ s2 => wpAny (model prog w) A (assign t env v) (fun _ s3 =>
        wpAny (model prog w) A (forIn ifs true fun c r => if r = true then isTrue c env (eval c env) >>= fun ok => pure (ForInStep.yield ok) else pure (ForInStep.yield r)) (fun ok s4 =>
          if ok = true then ∀ (more : Sem PySem.Fin) (Q : PySem.Fin → Shared → Prop) (E : Value → Shared → Prop), (∀ s5 m, m < n → I m s5 → wpAny (model prog w) A more Q E s5) → wpAny (model prog w) A (inner more) Q E s4
          else ∃ m, m < n ∧ I m s4) (fun _ _ => False) s3) (fun _ _ => False) s2) (fun _ _ => False) s1) (fun _ _ => False) s)
    (n : Nat) (h : I n s) : codeAny (model prog w) A (.compLoop e k it acc env) R s := by
  refine codeAny_loop rfl I (fun n s hI => ?_) n h
  have hu : A.under (.compLoop e k it acc env) = A := by cases e <;> first | rfl | exact absurd he Bool.false_ne_true
  have hd : (model prog w).den (.compLoop e k it acc env) = (compTurn e k it acc env).onRaise (fun x => do noteFrame x env; theTreesLotGoes x) := by cases e <;> first | rfl | exact absurd he Bool.false_ne_true
  rw [hu, hd]
  refine wpAny_noted ?_
  rw [ht]
  unfold oneTurn
  refine wpAny_bind (wpAny_standAt (wpAny_bind (thnF (turn n s hI) fun r s1 h1 => ?_)))
  cases r with
  | none => exact wpAny_pure h1
  | some v =>
    refine wpAny_bind (thnF h1 fun _ s2 h2 => wpAny_bind (thnF h2 fun _ s3 h3 => wpAny_bind (thnF h3 fun ok s4 h4 => ?_)))
    cases ok with
    | false => exact wpAny_pure ⟨rfl, h4⟩
    | true => exact h4 _ _ _ fun s5 m hm h5 => wpAny_pure ⟨rfl, m, hm, h5⟩
/-- a clause's start -/
theorem start_by {t i : Expr} {ifs : List Expr} (he : isComp e = true) (hk : (clausesOf e)[k]? = some ⟨t, i, ifs, 0⟩) (h0 : codeAny (model prog w) A (.compLoop e k it acc env) R s)
    (h : wpAny (model prog w) A (pyIter it) (fun it' s' => codeAny (model prog w) A (.compLoop e k it' acc env) R s') (notedBy (model prog w) A env fun x s' => R (.error x) s') s) :
    codeAny (model prog w) A (.compStart e k it acc env) R s := by
  refine codeAny_of_tree ?_
  have hu : A.under (.compStart e k it acc env) = A := by cases e <;> first | rfl | exact absurd he Bool.false_ne_true
  have hd : (model prog w).den (.compStart e k it acc env) = (compStart e k it acc env).onRaise (fun x => do noteFrame x env; standAt theWindowsPlace) := by cases e <;> first | rfl | exact absurd he Bool.false_ne_true
  rw [hu, hd]
  refine wpAny_notedAt ?_
  unfold compStart
  simp only [hk, Option.elim, show ((0 : Nat) != 0) = false from rfl, Bool.false_eq_true, if_false]
  show wpAny _ _ (ask >>= _) _ _ s
  refine wpAny_bind (wpAny_askSetting (wpAny_ite ?_))
  split
  · first
      | exact wpAny_bind (wpAny_pure (wpAny_pure (And.intro rfl h0)))
      | exact wpAny_pure (And.intro rfl h0)
  · exact wpAny_bind (wpAny_rule (wpAny_bind (wpAny_standAt (wpAny_bind (wpAny_mono h (fun it' s' h' => wpAny_pure (And.intro rfl h')) fun _ _ x => x)))))
end
/-- what an item leads to, in the block's context -/
abbrev TB := L2.St → Hp → (Hp → Prop) → Prop
structure PIn (X : Cx) (inner : Sem PySem.Fin → Sem PySem.Fin) (vs : List Nat) (t : TB) : Prop where
  run : ∀ (pins : List (Addr × Obj)) (s : Shared) (σ : L2.St) (H : Hp) (Q : Hp → Prop), Inv X pins σ H s → t σ H Q → ∀ (more : Sem PySem.Fin) (Qf : PySem.Fin → Shared → Prop) (Ef : Value → Shared → Prop),
    (∀ s' H', Inv X pins (L2.wipe σ vs) H' s' → Q H' → wpAny (model X.prog X.w) X.A more Qf Ef s') → wpAny (model X.prog X.w) X.A (inner more) Qf Ef s
def turnsAsk (J : It) (g : TG) (tt : TT) (tb : TB) (vs : List Nat) (σ : L2.St) (Q : Hp → Prop) (W : Nat → Nat → Hp → Prop) : Prop := ∀ i m H, W i m H →
  (J.stop i H ∧ Q H) ∨ (J.go i H ∧ ∃ Nx : Hp → Prop, (∀ H', Nx H' → ∃ m', m' < m ∧ W (i + 1) m' H') ∧ ∀ x H', J.yld i H x H' → g x (L2.wipe σ vs) H' fun σ2 H2 => L2.wipe σ2 vs = L2.wipe σ vs ∧ tt σ2 H2 fun b H3 =>
    if b = true then tb σ2 H3 Nx else Nx H3)
def tNest (wi : TI) (g : TG) (tt : TT) (tb : TB) (vs : List Nat) : TB := fun σ H Q => wi σ H fun J H1 => ∃ W : Nat → Nat → Hp → Prop, (∃ m, W 0 m H1) ∧ turnsAsk J g tt tb vs σ Q W
section
variable {X : Cx} {e tg iter : Expr} {ifs : List Expr} {k : Nat} {d : Addr} {inner : Sem PySem.Fin → Sem PySem.Fin} {wi : TI} {g : TG} {tt : TT} {tb : TB} {vs vs1 : List Nat}
theorem thnX {α : Type} {t : Sem α} {Q Q' : α → Shared → Prop} {M : Model} {A : Around} {E E' : Value → Shared → Prop} {s : Shared} (hx : ∀ u s, ¬ E u s) (h : wpAny M A t Q E s) (hQ : ∀ a s, Q a s → Q' a s) : wpAny M A t Q' E' s := wpAny_mono h hQ fun u s x => (hx u s x).elim
theorem wipe_in {σ σ2 : L2.St} (h : L2.wipe σ2 vs = L2.wipe σ vs) (hv : ∀ i ∈ vs1, i ∈ vs) {j : Nat} {v : V} (e : (L2.wipe σ vs)[j]? = some (some v)) : (L2.wipe σ2 vs1)[j]? = some (some v) := by
  rw [← h] at e
  obtain ⟨e1, e2⟩ := wipe_some e
  rw [wipe_get, if_neg fun z => e2 (hv j z.1)]
  exact e1
/-- the loop over an iterator whose objects are fp -/
theorem loop_run {R : Result → Shared → Prop} {J : It} {fp : List Addr} {it : Addr} {tn : Nat → Heap → Prop} {pins : List (Addr × Obj)} {σ : L2.St} {H : Hp} {s : Shared} {Q : Hp → Prop} {W : Nat → Nat → Hp → Prop} {m : Nat} (he : isComp e = true) (hc : X.calm = true) (hx : ∀ u s, ¬ X.xe u s)
    (hturn : compTurn e k (.ref it) (.ref d) X.env = oneTurn tg iter ifs (.ref it) X.env inner (again (.compLoop e k (.ref it) (.ref d) X.env)))
    (hg : PG X tg g) (ht : PTs X ifs tt) (hb : PIn X inner vs1 tb) (hv : ∀ i ∈ vs1, i ∈ vs) (T : Turn X.prog X.w X.K tg J fp it tn) (hfp : ∀ H', (∀ b ∈ fp, H' b = none) → ∀ b ∈ fp, FpOk X pins H' b)
    (I : Inv X pins (L2.wipe σ vs) H s) (st : tn 0 s.heap) (nf : ∀ b ∈ fp, H b = none) (w0 : W 0 m H) (asks : turnsAsk J g tt tb vs σ Q W)
    (hR : ∀ s' H', Inv X pins (L2.wipe σ vs) H' s' → (∀ b ∈ fp, H' b = none) → Q H' → R (.ok .next) s') : codeAny (model X.prog X.w) X.A (.compLoop e k (.ref it) (.ref d) X.env) R s := by
  refine loop_by he hturn (fun n s' => ∃ i H', Inv X pins (L2.wipe σ vs) H' s' ∧ tn i s'.heap ∧ (∀ b ∈ fp, H' b = none) ∧ W i n H') ?_ m ⟨0, H, I, st, nf, w0⟩
  rintro n s1 ⟨i, H1, I1, st1, n1, w1⟩
  rcases asks i n H1 w1 with ⟨stop, q⟩ | ⟨go, Nx, hNx, step⟩
  · refine thnF (T.done X rfl rfl rfl hc i pins s1 _ H1 (fun _ _ => False) I1 (hfp H1 n1) st1 stop) fun r s2 ⟨hr, I2⟩ => ?_
    subst hr
    exact hR s2 H1 I2 n1 q
  · refine thnF (T.item X rfl rfl rfl hc i pins s1 _ H1 (fun _ _ => False) I1 (hfp H1 n1) st1 go) fun r s2 ⟨u, hr, h2⟩ => ?_
    subst hr
    refine thnF h2 fun _ s3 ⟨x, H3, I3, r3, y3, st3, n3⟩ => ?_
    have J3 := I3.pinned (hfp H3 n3) (T.obj _ _ st3)
    refine thnX hx (hg.run _ s3 _ H3 x u _ J3 r3 (step x H3 y3)) fun _ s4 ⟨σ4, H4, I4, e4, q4⟩ => ?_
    refine thnX hx (ht.run _ s4 σ4 H4 _ I4 q4) fun b s5 ⟨H5, I5, q5⟩ => ?_
    have lens : (L2.wipe σ vs).length = σ4.length := by rw [← e4, wipe_length]
    -- the turn's end
    have fin : ∀ {σ9 : L2.St} {s' : Shared} {H' : Hp}, Inv X (pins ++ pinsAt fp s3.heap) σ9 H' s' → (L2.wipe σ vs).length = σ9.length → (∀ (j : Nat) v, (L2.wipe σ vs)[j]? = some (some v) → σ9[j]? = some (some v)) → Nx H' →
        ∃ m', m' < n ∧ ∃ i H', Inv X pins (L2.wipe σ vs) H' s' ∧ tn i s'.heap ∧ (∀ b ∈ fp, H' b = none) ∧ W i m' H' := fun {σ9 s' H'} I' hl hk nx => by
      obtain ⟨m', hm, w'⟩ := hNx H' nx
      have pin' : ∀ b ∈ fp, ∀ o, s3.heap.get? b = some o → s'.heap.get? b = some o ∧ H' b = none := fun b hb o e =>
        let z := I'.pin (b, o) (List.mem_append_right _ (List.mem_append_right _ (mem_pinsAt hb e)))
        ⟨z.1, z.2.1⟩
      refine ⟨m', hm, i + 1, H', (I'.unpinned (pins := pins)).weak hl hk, T.keep _ _ _ st3 fun b hb o e => (pin' b hb o e).1, fun b hb => ?_, w'⟩
      obtain ⟨o, e, _⟩ := T.obj _ _ st3 b hb
      exact (pin' b hb o e).2
    cases b with
    | false =>
      simp only [Bool.false_eq_true, if_false] at q5 ⊢
      exact fin I5 lens (fun j v e => by rw [← e4] at e; exact (wipe_some e).1) q5
    | true =>
      simp only [if_true] at q5 ⊢
      intro more Q' E' hmore
      refine hb.run _ s5 σ4 H5 _ I5 q5 more Q' E' fun s' H' I' nx => ?_
      obtain ⟨m', hm, i', H'', z⟩ := fin I' (lens.trans (wipe_length σ4 vs1).symm) (fun j v e => wipe_in e4 hv e) nx
      exact hmore s' m' hm ⟨i', H'', z⟩
/-- a clause within another -/
theorem in_nest (he : isComp e = true) (hx : ∀ u s, ¬ X.xe u s) (hc : X.calm = true) (hi : PI X tg iter wi) (hg : PG X tg g) (ht : PTs X ifs tt) (hb : PIn X inner vs1 tb) (hv : ∀ i ∈ vs1, i ∈ vs) (hk : (clausesOf e)[k + 1]? = some ⟨tg, iter, ifs, 0⟩)
    (hturn : ∀ it, compTurn e (k + 1) it (.ref d) X.env = oneTurn tg iter ifs it X.env inner (again (.compLoop e (k + 1) it (.ref d) X.env))) (hs : ∀ x, foldedSetIterable iter X.env x = pure x) :
    PIn X (nestOf e k iter (.ref d) X.env) vs (tNest wi g tt tb vs) := by
  refine ⟨fun pins s σ H Q I h more Qf Ef hmore => ?_⟩
  unfold nestOf
  refine wpAny_bind (thnX hx (hi.run pins s σ H _ I h) fun x s1 h1 => wpAny_bind (wpAny_standAt (wpAny_bind (wpAny_of_eq (hs x) (wpAny_bind (wpAny_holding (thnX hx h1 fun itv s2 h2 => ?_)))))))
  obtain ⟨it, fp, tn, J, H2, e2, I2, T, st2, f2, W, ⟨m, w0⟩, asks⟩ := h2
  subst e2
  refine wpAny_bind (wpAny_runOwn ?_)
  rw [Around.mark_none]
  have loop : codeAny (model X.prog X.w) X.A (.compLoop e (k + 1) (.ref it) (.ref d) X.env) (fun r s' => match r with
      | .ok _ => wpAny (model X.prog X.w) X.A more Qf Ef s'
      | .error _ => False) s2 := by
    refine loop_run (J := J) (fp := fp) (tn := tn) (W := W) (m := m) he hc hx (hturn (.ref it)) hg ht hb hv T (fun H' hn b hb => ⟨hn b hb, (f2 b hb).2⟩) (I2.weak (wipe_length _ _) fun j v e => (wipe_some e).1) st2 (fun b hb => (f2 b hb).1) w0 asks fun s' H' I' _ q => hmore s' H' I' q
  refine codeAny_mono (start_by he hk loop (T.self X.A 0 _ _ _ st2 loop)) fun r s' hr => ?_
  cases r with
  | ok f => exact hr
  | error u => exact hr.elim
end
/-- a new thing that a comprehension fills -/
structure PAcc (X : Cx) (new : Sem Value) (o : Addr → HO) : Prop where
  run : ∀ (pins : List (Addr × Obj)) (s : Shared) (σ : L2.St) (H : Hp) (Q : Value → Shared → Prop), Inv X pins σ H s →
    (∀ D s', H D = none → s.heap.objs.size ≤ D → s.heap.objs.size ≤ s'.heap.objs.size → (∀ b u, s.heap.get? b = some u → s'.heap.get? b = some u) → Inv X pins σ (upd H D (o D)) s' → Q (.ref D) s') → wpAny (model X.prog X.w) X.A new Q X.xe s
section
variable {X : Cx}
theorem acc_list : PAcc X (newList []) (fun _ => .lst []) := ⟨fun pins s σ H Q I h => by
  refine wpAny_newObj_type (h s.heap.objs.size _ (I.hok.fresh (Nat.le_refl _)) (Nat.le_refl _) (by rw [Heap.size_push]; exact Nat.le_succ _) (fun b u e => Heap.get?_push_of_some _ e) (I.laid (t' := s.toks) (fun b o e => Heap.get?_push_of_some _ e) (Nat.le_refl _) ⟨Nat.zero_le _, [], 0, .nil, Heap.get?_push_size _ rfl⟩)) (by show 0 ≤ sizeLine; decide)⟩
def tComp (wi : TI) (g : TG) (tt : TT) (tb : Addr → TB) (o : Addr → HO) (vs : List Nat) : TE := fun σ H Q => wi σ H fun J H1 => ∀ D, H1 D = none → ∃ W : Nat → Nat → Hp → Prop, (∃ m, W 0 m (upd H1 D (o D))) ∧ turnsAsk J g tt (tb D) vs σ (Q (.ref D)) W
/-- a comprehension, whatever it makes, however many clauses -/
theorem comp_core {pins : List (Addr × Obj)} {s : Shared} {σ : L2.St} {H : Hp} {Q : VK} {e tg iter : Expr} {ifs : List Expr} {gs : List Comprehension} {scope : Scope} {own : List (Str × Nat)} {vs1 : List Nat} {pos' : Pos} {wi : TI} {g : TG} {tt : TT} {tb : Addr → TB} {use : Option (Value → Sem Unit)} {Qf : Value → Shared → Prop} {new : Sem Value} {o : Addr → HO} {inner : Addr → Env → Sem PySem.Fin → Sem PySem.Fin}
    (he : isComp e = true) (hcl : clausesOf e = ⟨tg, iter, ifs, 0⟩ :: gs) (hnew : PAcc X new o) (hturn : ∀ it d env, compTurn e 0 it (.ref d) env = oneTurn tg iter ifs it env (inner d env) (again (.compLoop e 0 it (.ref d) env)))
    (hc : X.calm = true) (hN : X.N.Nodup) (I : Inv X pins σ H s) (hi : PI X tg iter wi) (ok : BlkOk X.N X.env.scope scope own) (hv : ∀ i ∈ vs1, i ∈ own.map (·.2))
    (hg : ∀ (s : Shared) (H : Hp) (C : Addr) (cl : List (Str × Addr)) (fp : List Addr), PG (X.blk s H scope (compEnvC scope cl C X.env) fp) tg g) (ht : ∀ (s : Shared) (H : Hp) (C : Addr) (cl : List (Str × Addr)) (fp : List Addr), PTs (X.blk s H scope (compEnvC scope cl C X.env) fp) ifs tt)
    (hb : ∀ (d : Addr) (s : Shared) (H : Hp) (C : Addr) (cl : List (Str × Addr)) (fp : List Addr), PIn (X.blk s H scope (compEnvC scope cl C X.env) fp) (inner d (compEnvC scope cl C X.env)) vs1 (tb d)) (hs : ∀ x, foldedSetIterable iter X.env x = pure x)
    (h : tComp wi g tt tb o (own.map (·.2)) σ H Q)
    (hRR : ∀ D C s' m H', Inv X pins σ H' s' → Q (.ref D) H' → s'.heap.Ns C m → FpOk X pins H' C → compPost (model X.prog X.w) X.A X.xe use Qf (.ref D) C (.ok .next) s') :
    wpAny (model X.prog X.w) X.A (comprehension e scope X.env pos' new false (eval iter X.env) use) Qf X.xe s := by
  have hfree : ∀ y ∈ scope.names, y.2 = .free → ∃ c, X.env.cells.lookup y.1 = some c := fun y hy e => by
    rcases ok.free y hy e with k | k
    · exact I.ok.has _ (.inl k)
    · exact I.ok.has _ (.inr k)
  refine wpAny_comprehension_free (use := use) hcl hs (closure_ok hfree) ok.kind (fun y hy e => by rw [ok.uniq y hy, e]) (thn (hi.run pins s σ H _ I h) fun xv s1 hx => thn hx fun itv s2 h2 => ?_)
  obtain ⟨it, fp, tn, J, H2, e2, I2, T, st2, f2, q⟩ := h2
  subst e2
  refine hnew.run pins s2 σ H2 _ I2 fun D s3 hDn hD1 hD2 kp3 I3 => newEnv_comp ?_
  obtain ⟨W, ⟨m0, w0⟩, asks⟩ := q D hDn
  have sz : ∀ b ∈ fp, b < s2.heap.objs.size := fun b hb => let ⟨_, e, _⟩ := T.obj _ _ st2 b hb; Heap.lt_size e
  have f3 : ∀ b ∈ fp, FpOk X pins (upd H2 D (o D)) b ∧ b < s3.heap.objs.size := fun b hb =>
    ⟨⟨by rw [upd_ne (Nat.ne_of_lt (Nat.lt_of_lt_of_le (sz b hb) hD1))]; exact (f2 b hb).1, (f2 b hb).2⟩, Nat.lt_of_lt_of_le (sz b hb) hD2⟩
  have st3 : tn 0 s3.heap := T.keep _ _ _ st2 fun b _ u e => kp3 b u e
  have I4 := block_start I3 ok hN f3
  have pg := hg s3 (upd H2 D (o D)) s3.heap.objs.size (cellsFrom (s3.heap.objs.size + 1) scope.names (cloFrom X.env.cells scope.names [])) fp
  have pt := ht s3 (upd H2 D (o D)) s3.heap.objs.size (cellsFrom (s3.heap.objs.size + 1) scope.names (cloFrom X.env.cells scope.names [])) fp
  have pb := hb D s3 (upd H2 D (o D)) s3.heap.objs.size (cellsFrom (s3.heap.objs.size + 1) scope.names (cloFrom X.env.cells scope.names [])) fp
  show codeAny _ _ (.compStart e 0 (.ref it) (.ref D) (compEnvC scope (cellsFrom (s3.heap.objs.size + 1) scope.names (cloFrom X.env.cells scope.names [])) s3.heap.objs.size X.env)) (compPost (model X.prog X.w) X.A X.xe use Qf (.ref D) s3.heap.objs.size) { s3 with heap := pushCells (s3.heap.push { cls := .type "dict", data := .dict #[] }) scope.names }
  have nfp : ∀ b ∈ fp, (upd H2 D (o D)) b = none := fun b hb => (f3 b hb).1.1
  generalize hce : compEnvC scope (cellsFrom (s3.heap.objs.size + 1) scope.names (cloFrom X.env.cells scope.names [])) s3.heap.objs.size X.env = ce at I4 pg pt pb ⊢
  have cL : ce.locals = s3.heap.objs.size := by subst hce; rfl
  generalize hH3 : upd H2 D (o D) = H3 at I3 I4 pg pt pb w0 nfp f3
  have st4 : tn 0 (pushCells (s3.heap.push { cls := .type "dict", data := .dict #[] }) scope.names) := T.keep _ _ _ st3 fun b _ u e => pushCells_keeps _ _ _ _ (Heap.get?_push_of_some _ e)
  have loop : codeAny (model X.prog X.w) X.A (.compLoop e 0 (.ref it) (.ref D) ce) (compPost (model X.prog X.w) X.A X.xe use Qf (.ref D) s3.heap.objs.size) { s3 with heap := pushCells (s3.heap.push { cls := .type "dict", data := .dict #[] }) scope.names } := by
    refine loop_run (X := X.blk s3 H3 scope ce fp) (J := J) (fp := fp) (tn := tn) (W := W) (m := m0) (pins := []) he hc (fun _ _ z => z) (hturn (.ref it) D ce) pg pt pb hv T (fun H' hn b hb => ?_) I4 st4 nfp w0 asks fun s' H' I' n' qq => ?_
    · exact ⟨hn b hb, (I4.ok.exf b hb).1, I4.ok.exfs b hb, .inl hb, fun x c e => (I4.ok.exf b hb).2 x c e, fun p hp => absurd (show p ∈ ([] : List (Addr × Obj)) ++ [] from hp) (by simp)⟩
    · -- back in the def's context
      have I7 : Inv X pins σ H' s' := I3.call' (ch := fp) I'.os I'.base I'.hok I'.bare fun b hb => ⟨(f3 b hb).1.2.2.2.1, (f3 b hb).1.2.1, (f3 b hb).1.2.2.2.2.1, (f3 b hb).1.2.2.2.2.2⟩
      have nC : H' s3.heap.objs.size = none := by
        have z : H' ce.locals = none := I'.free
        rwa [cL] at z
      obtain ⟨m, hn, _⟩ := I'.loc
      have hn : s'.heap.Ns ce.locals m := hn
      rw [cL] at hn
      exact hRR D s3.heap.objs.size s' m H' I7 qq hn (I3.fpOk (Nat.le_refl _) nC)
  exact start_by he (by rw [hcl]; rfl) loop (T.self X.A 0 _ _ _ st4 loop)
end
end VL
set_option maxHeartbeats 2000000
namespace VL
open PySem PySem.Spec L2
open PyProof.Rows hiding St
abbrev VB (A : Type) := Sl → Store → A → (A → Store → Prop) → Prop
section
variable {A : Type} {K : PySem.W.Frag} {rel : Hp → A → HO → Prop}
def LB (K : PySem.W.Frag) (rel : Hp → A → HO → Prop) (d : Addr) (m : VB A) : TB := fun σ H Q' => ∃ (G0 : Hp) (S0 : Store) (H0 : Hp) (ρ : Sl) (S : Store) (G : Hp) (acc : A) (o : HO) (Q : A → Store → Prop), H0 d = none ∧ Aft K G0 S0 H0 S H G ∧ REnv K G σ ρ ∧ H d = some o ∧ rel G acc o ∧ S d = none ∧ G d = none ∧ m ρ S acc Q ∧
  ∀ acc' S' H' G' o', Same G G' → Aft K G0 S0 H0 S' H' G' → H' d = some o' → rel G' acc' o' → S' d = none → G' d = none → Q acc' S' → Q' H'
def turnsV (c : CT) (mt : VT) (mb : VB A) (vs : List Nat) (ds : List D) (kp : Store → Prop) (ρ : Sl) (a0 : A) (S1 : Store) (Qe : A → Store → Prop) : Prop := ∃ I : Nat → A → Store → Prop, I 0 a0 S1 ∧ ∀ i acc S2, I i acc S2 → kp S2 ∧ match ds[i]? with
  | none => Qe acc S2
  | some d => match mCT c d (wipeD ρ vs) with
    | some ρ3 => mt ρ3 S2 fun b S3 => if b = true then mb ρ3 S3 acc (I (i + 1)) else I (i + 1) acc S3
    | none => False
def bNest (c : CT) (mi : VW) (mt : VT) (mb : VB A) (vs : List Nat) : VB A := fun ρ S acc Q => mi ρ S fun ds kp S1 => turnsV c mt mb vs ds kp ρ acc S1 Q
theorem turns_ask {G0 H0 : Hp} {S0 : Store} {σ : L2.St} {ρ : Sl} {S1 : Store} {H1 G1 : Hp} {J : It} {kp : Store → Prop} {ds : List D} {c : CT} {mt : VT} {mb : VB A} {vs : List Nat} {a0 : A} {o : HO} {d : Addr} {Qe : A → Store → Prop} {Q' : Hp → Prop} (hm : ∀ {G G' : Hp} {a : A} {o : HO}, Same G G' → rel G a o → rel G' a o)
    (hw : c.within vs) (hd0 : H0 d = none) (a1 : Aft K G0 S0 H0 S1 H1 G1) (wk : Walks K G1 kp J ds) (re : REnv K G1 σ ρ) (hH : H1 d = some o) (hr : rel G1 a0 o) (hS : S1 d = none) (hG : G1 d = none) (t : turnsV c mt mb vs ds kp ρ a0 S1 Qe)
    (k : ∀ acc' S' H' G' o', Same G1 G' → Aft K G0 S0 H0 S' H' G' → H' d = some o' → rel G' acc' o' → S' d = none → G' d = none → Qe acc' S' → Q' H') :
    ∃ W : Nat → Nat → Hp → Prop, (∃ m, W 0 m H1) ∧ turnsAsk J (gCT K c) (LT K mt) (LB K rel d mb) vs σ Q' W := by
  obtain ⟨I, I0, step⟩ := t
  refine ⟨fun i m H2 => m = ds.length - i ∧ i ≤ ds.length ∧ ∃ acc o2 S2 G2, Same G1 G2 ∧ Aft K G0 S0 H0 S2 H2 G2 ∧ H2 d = some o2 ∧ S2 d = none ∧ G2 d = none ∧ rel G2 acc o2 ∧ I i acc S2, ⟨_, rfl, Nat.zero_le _, a0, o, S1, G1, Same.refl G1, a1, hH, hS, hG, hr, I0⟩, ?_⟩
  rintro i m H2 ⟨rfl, hi, acc, o2, S2, G2, g2, a2, hH2, hS2, hG2, r2, h2⟩
  obtain ⟨hk, st⟩ := step i acc S2 h2
  by_cases hlt : i < ds.length
  · have e : ds[i]? = some ds[i] := by simp
    rw [e] at st
    simp only at st
    split at st
    · rename_i ρ3 eb
      refine .inr ⟨wk.goes i H2 G2 S2 hlt g2 a2.vw hk, fun H' => ∃ acc o' S' G', Same G1 G' ∧ Aft K G0 S0 H0 S' H' G' ∧ H' d = some o' ∧ S' d = none ∧ G' d = none ∧ rel G' acc o' ∧ I (i + 1) acc S', ?_, fun x H3 hy => ?_⟩
      · rintro H' ⟨acc', o', S', G', z⟩
        exact ⟨ds.length - (i + 1), by omega, rfl, hlt, acc', o', S', G', z⟩
      · obtain ⟨G3, a3, rx⟩ := wk.yld i ds[i] H2 x H3 G2 S2 e g2 a2.vw hk hy
        have r0 : REnv K G3 (L2.wipe σ vs) (wipeD ρ vs) := (re.mono (g2.trans a3.gg)).wipe vs
        obtain ⟨σ3, r3, w3, k3⟩ := gCT_ok a3.vw.gh r0 rx eb
        obtain ⟨h3, s3, g3⟩ := a3.fr d _ hS2 hH2
        refine k3 _ ⟨?_, ρ3, S2, G3, _, a3.vw, r3, st, fun b S4 H4 G4 a4 q4 => ?_⟩
        · rw [w3 vs hw]
          exact wipe_eq (wipe_length σ vs) fun j hj => by rw [wipe_get, if_neg (fun z => hj z.1)]
        · obtain ⟨h4, s4, g4⟩ := a4.fr d _ hS2 h3
          have a04 := a2.trans (a3.trans a4)
          have gg4 := g2.trans (a3.gg.trans a4.gg)
          have gd : G4 d = none := by rw [g4, g3]; exact hG2
          have rr := hm (a3.gg.trans a4.gg) r2
          cases b with
          | true => exact ⟨G0, S0, H0, ρ3, S4, G4, acc, o2, _, hd0, a04, r3.mono a4.gg, h4, rr, s4, gd, q4, fun acc' S' H' G' o' g' a' x1 x2 x3 x4 q => ⟨acc', o', S', G', gg4.trans g', a', x1, x3, x4, x2, q⟩⟩
          | false => exact ⟨acc, o2, S4, G4, gg4, a04, h4, s4, gd, rr, q4⟩
    · exact st.elim
  · have ei : i = ds.length := by omega
    subst ei
    rw [List.getElem?_eq_none (Nat.le_refl _)] at st
    exact .inl ⟨wk.stop H2 G2 S2 g2 a2.vw hk, k acc S2 H2 G2 o2 g2 a2 hH2 r2 hS2 hG2 st⟩
theorem lb_nest {c : CT} {mi : VW} {mt : VT} {mb : VB A} {vs : List Nat} {d : Addr} (hm : ∀ {G G' : Hp} {a : A} {o : HO}, Same G G' → rel G a o → rel G' a o) (hw : c.within vs) {σ : L2.St} {H : Hp} {Q' : Hp → Prop}
    (q : LB K rel d (bNest c mi mt mb vs) σ H Q') : tNest (LI K mi) (gCT K c) (LT K mt) (LB K rel d mb) vs σ H Q' := by
  obtain ⟨G0, S0, H0, ρ, S, G, acc, o, Q, hd0, a0, re, hH, hr, hS, hG, hm', k⟩ := q
  refine ⟨ρ, S, G, _, a0.vw, re, hm', fun ds kp S1 H1 G1 J a1 wk t => ?_⟩
  obtain ⟨h1, s1, g1⟩ := a1.fr d _ hS hH
  exact turns_ask hm hw hd0 (a0.trans a1) wk (re.mono a1.gg) h1 (hm a1.gg hr) s1 (g1.trans hG) t fun acc' S' H' G' o' g' a' x1 x2 x3 x4 q => k acc' S' H' G' o' (a1.gg.trans g') a' x1 x2 x3 x4 q
/-- what is made of the filled thing -/
def RecA (K : PySem.W.Frag) (rel : Hp → A → HO → Prop) (R : A → Store → (D → Store → Prop) → Prop) : Prop := ∀ (G : Hp) (S : Store) (H : Hp) (a : Addr) (o : HO) (acc : A) (Q : D → Store → Prop), View K G S H → H a = some o → S a = none → G a = none → rel G acc o → R acc S Q →
  ∃ S' G' d, Q d S' ∧ View K G' S' H ∧ Same G G' ∧ Rp K G' (.ref a) d ∧ ∀ b, b ≠ a → S' b = S b ∧ G' b = G b
def mComp (c : CT) (mi : VW) (mt : VT) (mb : VB A) (vs : List Nat) (a0 : A) (R : A → Store → (D → Store → Prop) → Prop) : VE := fun ρ S Q => mi ρ S fun ds kp S1 => turnsV c mt mb vs ds kp ρ a0 S1 fun acc S2 => R acc S2 Q
theorem le_comp {c : CT} {mi : VW} {mt : VT} {mb : VB A} {vs : List Nat} {a0 : A} {R : A → Store → (D → Store → Prop) → Prop} {o : Addr → HO} (hm : ∀ {G G' : Hp} {a : A} {o : HO}, Same G G' → rel G a o → rel G' a o) (h0 : ∀ G d, rel G a0 (o d)) (hR : RecA K rel R) (hw : c.within vs) (σ : L2.St) (H : Hp) (Q' : VK)
    (q : LE K (mComp c mi mt mb vs a0 R) σ H Q') : tComp (LI K mi) (gCT K c) (LT K mt) (fun d => LB K rel d mb) o vs σ H Q' := by
  obtain ⟨ρ, S, G, Q, vw, re, hm', k⟩ := q
  refine ⟨ρ, S, G, _, vw, re, hm', fun ds kp S1 H1 G1 J a1 wk t L hL => ?_⟩
  have n0 := a1.vw.none hL
  refine turns_ask hm hw hL ((Aft.refl a1.vw).junk hL n0.2 n0.1) wk (re.mono a1.gg) upd_same (h0 _ _) n0.2 n0.1 t fun acc' S' H' G' o' g' a' x1 x2 x3 x4 q => ?_
  obtain ⟨S2, G2, d, qd, v', gg, rd, ot⟩ := hR G' S' H' L o' acc' Q a'.vw x1 x3 x4 x2 q
  refine k d S2 (.ref L) H' G2 ⟨fun b ob hb eb => ?_, (a1.gg.trans g').trans gg, v'⟩ rd qd
  obtain ⟨y1, y2, y3⟩ := a1.fr b ob hb eb
  have hbL : b ≠ L := ne_of_none y1 hL
  obtain ⟨e1, e2, e3⟩ := a'.fr b ob y2 y1
  exact ⟨e1, by rw [(ot b hbL).1]; exact e2, by rw [(ot b hbL).2]; rw [e3]; exact y3⟩
end
def relL (K : PySem.W.Frag) : Hp → List D → HO → Prop := fun G acc o => ∃ xs, o = .lst xs ∧ RpL K G xs acc
theorem relL_mono {K : PySem.W.Frag} {G G' : Hp} {a : List D} {o : HO} (g : Same G G') (h : relL K G a o) : relL K G' a o := let ⟨xs, e, r⟩ := h; ⟨xs, e, r.mono g⟩
def bList (me : VE) : VB (List D) := fun ρ S acc Q => acc.length < sizeLine ∧ me ρ S fun y S' => Q (acc ++ [y]) S'
section
variable {X : Cx}
def tLeafL (te : TE) (d : Addr) : TB := fun σ H Q => te σ H fun y H4 => ∃ acc, H4 d = some (.lst acc) ∧ acc.length < sizeLine ∧ Q (upd H4 d (.lst (acc ++ [y])))
theorem in_list {elt : Expr} {gs : List Comprehension} {sc : Scope} {p : Pos} {te : TE} {d : Addr} (hx : ∀ u s, ¬ X.xe u s) (he : PE X elt te) : PIn X (fun m => emitOf (.ListComp elt gs sc p) (.ref d) X.env >>= fun _ => m) [] (tLeafL te d) := by
  refine ⟨fun pins s σ H Q I h more Qf Ef hmore => ?_⟩
  unfold emitOf
  refine wpAny_bind (wpAny_bind (thnX hx (he.run pins s σ H _ I h) fun v s1 ⟨y, H1, I1, r1, acc, hd, hz, q⟩ => ?_))
  exact wpAny_bind (app_ok I1 hd hz r1 fun s2 I2 => wpAny_pure (hmore s2 _ I2 q))
theorem PIn.imp {inner : Sem PySem.Fin → Sem PySem.Fin} {vs : List Nat} {t t' : TB} (h : PIn X inner vs t) (i : ∀ σ H Q, t' σ H Q → t σ H Q) : PIn X inner vs t' := ⟨fun pins s σ H Q I q => h.run pins s σ H Q I (i σ H Q q)⟩
theorem b_list {elt : Expr} {gs : List Comprehension} {sc : Scope} {p : Pos} {me : VE} {d : Addr} (hx : ∀ u s, ¬ X.xe u s) (he : PE X elt (LE X.K me)) : PIn X (fun m => emitOf (.ListComp elt gs sc p) (.ref d) X.env >>= fun _ => m) [] (LB X.K (relL X.K) d (bList me)) := by
  refine PIn.imp (in_list hx he) fun σ H Q' ⟨G0, S0, H0, ρ, S, G, acc, o, Q, hd0, a0, re, hH, ⟨xs, eo, l⟩, hS, hG, hm, k⟩ => ?_
  subst eo
  refine ⟨ρ, S, G, _, a0.vw, re, hm.2, fun y S1 v H1 G1 a1 r1 q1 => ?_⟩
  obtain ⟨h1, s1, g1⟩ := a1.fr d _ hS hH
  have gd : G1 d = none := g1.trans hG
  exact ⟨xs, h1, by rw [l.length]; exact hm.1, k _ S1 _ G1 _ a1.gg ((a0.trans a1).junk hd0 s1 gd) upd_same ⟨_, rfl, (l.mono a1.gg).append (.cons r1 .nil)⟩ s1 gd q1⟩
theorem recA_frz {K : PySem.W.Frag} : RecA K (relL K) rFrz := fun G S H a o acc Q vw ha hs hg ⟨xs, eo, l⟩ q => by subst eo; exact recR_frz K G S H a xs acc Q vw ha hs hg l q
section
variable {elt tg iter tg1 iter1 tg2 iter2 : Expr} {ifs ifs1 ifs2 : List Expr} {scope : Scope} {own : List (Str × Nat)} {pos : Pos} {c c1 c2 : CT} {mi mi1 mi2 : VW} {mt mt1 mt2 : VT} {me : VE} {vs1 vs2 : List Nat} {R : List D → Store → (D → Store → Prop) → Prop}
theorem v_lc2 (hR : ∀ K, RecA K (relL K) R) (hw : c.within (own.map (·.2))) (hw1 : c1.within vs1) (hv : ∀ i ∈ vs1, i ∈ own.map (·.2)) (hc : X.calm = true) (hN : X.N.Nodup) (ok : BlkOk X.N X.env.scope scope own) (hi : PI X tg iter (LI X.K mi))
    (hg : ∀ (s : Shared) (H : Hp) (C : Addr) (cl : List (Str × Addr)) (fp : List Addr), PG (X.blk s H scope (compEnvC scope cl C X.env) fp) tg (gCT X.K c)) (ht : ∀ (s : Shared) (H : Hp) (C : Addr) (cl : List (Str × Addr)) (fp : List Addr), PTs (X.blk s H scope (compEnvC scope cl C X.env) fp) ifs (LT X.K mt))
    (hi1 : ∀ (s : Shared) (H : Hp) (C : Addr) (cl : List (Str × Addr)) (fp : List Addr), PI (X.blk s H scope (compEnvC scope cl C X.env) fp) tg1 iter1 (LI X.K mi1)) (hg1 : ∀ (s : Shared) (H : Hp) (C : Addr) (cl : List (Str × Addr)) (fp : List Addr), PG (X.blk s H scope (compEnvC scope cl C X.env) fp) tg1 (gCT X.K c1))
    (ht1 : ∀ (s : Shared) (H : Hp) (C : Addr) (cl : List (Str × Addr)) (fp : List Addr), PTs (X.blk s H scope (compEnvC scope cl C X.env) fp) ifs1 (LT X.K mt1)) (he : ∀ (s : Shared) (H : Hp) (C : Addr) (cl : List (Str × Addr)) (fp : List Addr), PE (X.blk s H scope (compEnvC scope cl C X.env) fp) elt (LE X.K me))
    (hs : ∀ x, foldedSetIterable iter X.env x = pure x := by intro _; rfl) (hs1 : ∀ env x, foldedSetIterable iter1 env x = pure x := by intro _ _; rfl) :
    PE X (.ListComp elt [⟨tg, iter, ifs, 0⟩, ⟨tg1, iter1, ifs1, 0⟩] scope pos) (LE X.K (mComp c mi mt (bNest c1 mi1 mt1 (bList me) vs1) (own.map (·.2)) [] R)) := by
  refine PE.imp (t := tComp (LI X.K mi) (gCT X.K c) (LT X.K mt) (fun d => LB X.K (relL X.K) d (bNest c1 mi1 mt1 (bList me) vs1)) (fun _ => .lst []) (own.map (·.2))) ⟨fun pins s σ H Q I h => ?_⟩ fun σ H Q' q => le_comp (rel := relL X.K) (o := fun _ => .lst []) relL_mono (fun G d => ⟨[], rfl, .nil⟩) (hR _) hw σ H Q' q
  rw [eval_ListComp]
  refine comp_core (vs1 := vs1) (inner := fun d env => nestOf (.ListComp elt [⟨tg, iter, ifs, 0⟩, ⟨tg1, iter1, ifs1, 0⟩] scope pos) 0 iter1 (.ref d) env) rfl rfl acc_list (fun it d env => turn_nest rfl rfl rfl) hc hN I hi ok hv hg ht (fun d s H C cl fp => ?_) hs h fun D C s' m H' I' q hn f => ⟨m, hn, fun h'' sb => ?_⟩
  · refine PIn.imp (in_nest (vs1 := []) rfl (fun _ _ z => z) hc (hi1 s H C cl fp) (hg1 s H C cl fp) (ht1 s H C cl fp) (b_list (fun _ _ z => z) (he s H C cl fp)) (by simp) rfl (fun it => turn_leaf rfl rfl rfl) (hs1 _)) fun σ H Q' q => lb_nest (K := X.K) (rel := relL X.K) relL_mono hw1 q
  · obtain ⟨f0, f1, f2, f3, f4, f5⟩ := f
    exact ⟨.ref D, H', I'.turned (t' := s'.toks) (fun b o hb e => (sb.2 b hb).trans e) f0 f1 f3 f4 f5, rfl, q⟩
theorem v_lc3 (hR : ∀ K, RecA K (relL K) R) (hw : c.within (own.map (·.2))) (hw1 : c1.within vs1) (hw2 : c2.within vs2) (hv : ∀ i ∈ vs1, i ∈ own.map (·.2)) (hv2 : ∀ i ∈ vs2, i ∈ vs1) (hc : X.calm = true) (hN : X.N.Nodup) (ok : BlkOk X.N X.env.scope scope own) (hi : PI X tg iter (LI X.K mi))
    (hg : ∀ (s : Shared) (H : Hp) (C : Addr) (cl : List (Str × Addr)) (fp : List Addr), PG (X.blk s H scope (compEnvC scope cl C X.env) fp) tg (gCT X.K c)) (ht : ∀ (s : Shared) (H : Hp) (C : Addr) (cl : List (Str × Addr)) (fp : List Addr), PTs (X.blk s H scope (compEnvC scope cl C X.env) fp) ifs (LT X.K mt))
    (hi1 : ∀ (s : Shared) (H : Hp) (C : Addr) (cl : List (Str × Addr)) (fp : List Addr), PI (X.blk s H scope (compEnvC scope cl C X.env) fp) tg1 iter1 (LI X.K mi1)) (hg1 : ∀ (s : Shared) (H : Hp) (C : Addr) (cl : List (Str × Addr)) (fp : List Addr), PG (X.blk s H scope (compEnvC scope cl C X.env) fp) tg1 (gCT X.K c1))
    (ht1 : ∀ (s : Shared) (H : Hp) (C : Addr) (cl : List (Str × Addr)) (fp : List Addr), PTs (X.blk s H scope (compEnvC scope cl C X.env) fp) ifs1 (LT X.K mt1))
    (hi2 : ∀ (s : Shared) (H : Hp) (C : Addr) (cl : List (Str × Addr)) (fp : List Addr), PI (X.blk s H scope (compEnvC scope cl C X.env) fp) tg2 iter2 (LI X.K mi2)) (hg2 : ∀ (s : Shared) (H : Hp) (C : Addr) (cl : List (Str × Addr)) (fp : List Addr), PG (X.blk s H scope (compEnvC scope cl C X.env) fp) tg2 (gCT X.K c2))
    (ht2 : ∀ (s : Shared) (H : Hp) (C : Addr) (cl : List (Str × Addr)) (fp : List Addr), PTs (X.blk s H scope (compEnvC scope cl C X.env) fp) ifs2 (LT X.K mt2)) (he : ∀ (s : Shared) (H : Hp) (C : Addr) (cl : List (Str × Addr)) (fp : List Addr), PE (X.blk s H scope (compEnvC scope cl C X.env) fp) elt (LE X.K me))
    (hs : ∀ x, foldedSetIterable iter X.env x = pure x := by intro _; rfl) (hs1 : ∀ env x, foldedSetIterable iter1 env x = pure x := by intro _ _; rfl) (hs2 : ∀ env x, foldedSetIterable iter2 env x = pure x := by intro _ _; rfl) :
    PE X (.ListComp elt [⟨tg, iter, ifs, 0⟩, ⟨tg1, iter1, ifs1, 0⟩, ⟨tg2, iter2, ifs2, 0⟩] scope pos) (LE X.K (mComp c mi mt (bNest c1 mi1 mt1 (bNest c2 mi2 mt2 (bList me) vs2) vs1) (own.map (·.2)) [] R)) := by
  refine PE.imp (t := tComp (LI X.K mi) (gCT X.K c) (LT X.K mt) (fun d => LB X.K (relL X.K) d (bNest c1 mi1 mt1 (bNest c2 mi2 mt2 (bList me) vs2) vs1)) (fun _ => .lst []) (own.map (·.2))) ⟨fun pins s σ H Q I h => ?_⟩ fun σ H Q' q => le_comp (rel := relL X.K) (o := fun _ => .lst []) relL_mono (fun G d => ⟨[], rfl, .nil⟩) (hR _) hw σ H Q' q
  rw [eval_ListComp]
  refine comp_core (vs1 := vs1) (inner := fun d env => nestOf (.ListComp elt [⟨tg, iter, ifs, 0⟩, ⟨tg1, iter1, ifs1, 0⟩, ⟨tg2, iter2, ifs2, 0⟩] scope pos) 0 iter1 (.ref d) env) rfl rfl acc_list (fun it d env => turn_nest rfl rfl rfl) hc hN I hi ok hv hg ht (fun d s H C cl fp => ?_) hs h fun D C s' m H' I' q hn f => ⟨m, hn, fun h'' sb => ?_⟩
  · refine PIn.imp (in_nest (vs1 := vs2) (tb := LB X.K (relL X.K) d (bNest c2 mi2 mt2 (bList me) vs2)) rfl (fun _ _ z => z) hc (hi1 s H C cl fp) (hg1 s H C cl fp) (ht1 s H C cl fp) ?_ hv2 rfl (fun it => turn_nest rfl rfl rfl) (hs1 _)) fun σ H Q' q => lb_nest (K := X.K) (rel := relL X.K) relL_mono hw1 q
    refine PIn.imp (in_nest (vs1 := []) rfl (fun _ _ z => z) hc (hi2 s H C cl fp) (hg2 s H C cl fp) (ht2 s H C cl fp) (b_list (fun _ _ z => z) (he s H C cl fp)) (by simp) rfl (fun it => turn_leaf rfl rfl rfl) (hs2 _)) fun σ H Q' q => lb_nest (K := X.K) (rel := relL X.K) relL_mono hw2 q
  · obtain ⟨f0, f1, f2, f3, f4, f5⟩ := f
    exact ⟨.ref D, H', I'.turned (t' := s'.toks) (fun b o hb e => (sb.2 b hb).trans e) f0 f1 f3 f4 f5, rfl, q⟩
end
end
theorem turns_flat {c : CT} {mt : VT} {mb : VB (List D)} {vs : List Nat} {ds : List D} {kp : Store → Prop} {ρ : Sl} {a0 : List D} {S1 : Store} {Qe : List D → Store → Prop} (f : D → List D) (N : Nat) (hb : a0.length + (ds.flatMap f).length ≤ N) (hk : kp S1)
    (hs : ∀ d ∈ ds, ∀ acc : List D, acc.length + (f d).length ≤ N → ∀ J : List D → Store → Prop, J (acc ++ f d) S1 → match mCT c d (wipeD ρ vs) with
      | some ρ3 => mt ρ3 S1 fun b S3 => if b = true then mb ρ3 S3 acc J else J acc S3
      | none => False) (he : Qe (a0 ++ ds.flatMap f) S1) : turnsV c mt mb vs ds kp ρ a0 S1 Qe := by
  refine ⟨fun i acc S2 => i ≤ ds.length ∧ S2 = S1 ∧ acc = a0 ++ (ds.take i).flatMap f, ⟨Nat.zero_le _, rfl, by simp⟩, ?_⟩
  rintro i acc S2 ⟨hi, rfl, rfl⟩
  refine ⟨hk, ?_⟩
  cases e : ds[i]? with
  | none =>
    have : i = ds.length := by have := List.getElem?_eq_none_iff.mp e; omega
    subst this
    simp only [List.take_length]; exact he
  | some d =>
    have h1 := getE e
    have ed : ds = ds.take i ++ d :: ds.drop (i + 1) := by
      have : ds[i] = d := by rw [List.getElem?_eq_getElem h1] at e; exact Option.some.inj e
      rw [← this, List.getElem_cons_drop, List.take_append_drop]
    have hl : (a0 ++ (ds.take i).flatMap f).length + (f d).length ≤ N := by
      have : (ds.flatMap f).length = ((ds.take i).flatMap f).length + ((f d).length + ((ds.drop (i + 1)).flatMap f).length) := by
        conv => lhs; rw [ed]
        rw [List.flatMap_append, List.flatMap_cons, List.length_append, List.length_append]
      rw [List.length_append]; omega
    have h := hs d (List.mem_of_getElem? e) _ hl (fun acc S' => i + 1 ≤ ds.length ∧ S' = S2 ∧ acc = a0 ++ (ds.take (i + 1)).flatMap f) ⟨h1, rfl, by rw [List.take_succ, e, List.flatMap_append]; simp⟩
    exact h
theorem turns_inv {A : Type} {c : CT} {mt : VT} {mb : VB A} {vs : List Nat} {ds : List D} {kp : Store → Prop} {ρ : Sl} {a0 : A} {S1 : Store} {Qe : A → Store → Prop} (I : Nat → A → Store → Prop) (h0 : I 0 a0 S1) (hk : ∀ i acc S2, I i acc S2 → kp S2)
    (hs : ∀ i d acc S2, ds[i]? = some d → I i acc S2 → match mCT c d (wipeD ρ vs) with
      | some ρ3 => mt ρ3 S2 fun b S3 => if b = true then mb ρ3 S3 acc (I (i + 1)) else I (i + 1) acc S3
      | none => False) (he : ∀ acc S2, I ds.length acc S2 → Qe acc S2) : turnsV c mt mb vs ds kp ρ a0 S1 Qe := by
  refine ⟨fun i acc S2 => i ≤ ds.length ∧ I i acc S2, ⟨Nat.zero_le _, h0⟩, fun i acc S2 ⟨hi, h⟩ => ⟨hk i acc S2 h, ?_⟩⟩
  cases e : ds[i]? with
  | none =>
    have : i = ds.length := by have := List.getElem?_eq_none_iff.mp e; omega
    subst this
    exact he acc S2 h
  | some d =>
    have h1 := getE e
    have m1 : ∀ a S', (i + 1 ≤ ds.length ∧ I (i + 1) a S') = I (i + 1) a S' := fun a S' => propext ⟨fun h => h.2, fun h => ⟨by omega, h⟩⟩
    simp only [m1]
    exact hs i d acc S2 e h
theorem mComp_e {A : Type} {c : CT} {mi : VW} {mt : VT} {mb : VB A} {vs : List Nat} {a0 : A} {R : A → Store → (D → Store → Prop) → Prop} {ρ : Sl} {S : Store} {Q : D → Store → Prop} : mComp c mi mt mb vs a0 R ρ S Q = mi ρ S fun ds kp S1 => turnsV c mt mb vs ds kp ρ a0 S1 fun acc S2 => R acc S2 Q := rfl
theorem bNest_e {A : Type} {c : CT} {mi : VW} {mt : VT} {mb : VB A} {vs : List Nat} {ρ : Sl} {S : Store} {acc : A} {Q : A → Store → Prop} : bNest c mi mt mb vs ρ S acc Q = mi ρ S fun ds kp S1 => turnsV c mt mb vs ds kp ρ acc S1 Q := rfl
theorem bList_e {me : VE} {ρ : Sl} {S : Store} {acc : List D} {Q : List D → Store → Prop} : bList me ρ S acc Q = (acc.length < sizeLine ∧ me ρ S fun y S' => Q (acc ++ [y]) S') := rfl
end VL
set_option maxHeartbeats 2000000
namespace VL
open PySem PySem.Spec L2
open PyProof.Rows hiding St
mutual
def short : D → Bool
  | .str s => decide (s.length < 1000)
  | .tup ds => decide (ds.length < 1000) && shortL ds
  | .lst ds => decide (ds.length < 1000) && shortL ds
  | _ => true
def shortL : List D → Bool
  | [] => true
  | d :: ds => short d && shortL ds
end
theorem shortL_mem {d : D} : ∀ {ds : List D}, shortL ds = true → d ∈ ds → short d = true
  | e :: ds, h, hd => by
    simp only [shortL, Bool.and_eq_true] at h
    rcases List.mem_cons.mp hd with rfl | hd
    · exact h.1
    · exact shortL_mem h.2 hd
theorem short_tup {ds : List D} (h : short (.tup ds) = true) : ds.length < 1000 ∧ ∀ d ∈ ds, short d = true := by
  simp only [short, Bool.and_eq_true, decide_eq_true_eq] at h
  exact ⟨h.1, fun d hd => shortL_mem h.2 hd⟩
theorem shortL_of : ∀ {ds : List D}, (∀ d ∈ ds, short d = true) → shortL ds = true
  | [], _ => rfl
  | d :: ds, h => by simp only [shortL, h d (by simp), shortL_of (ds := ds) (fun e he => h e (List.mem_cons_of_mem _ he)), Bool.and_self]
theorem short_of {ds : List D} (hl : ds.length < 1000) (h : ∀ d ∈ ds, short d = true) : short (.tup ds) = true := by
  simp only [short, shortL_of h, hl, decide_true, Bool.and_self]
theorem sml_tup {ds : List D} (h : sml (.tup ds) = true) : ∀ d ∈ ds, sml d = true := fun d hd => smlL_mem (by simpa only [sml] using h) hd
/-- what a line with that word has as parts of one sort -/
def pickL (p : Str) : List (Nat × Str) → List D → List D
  | e :: es, d :: ds => if e.2 = p then d :: pickL p es ds else pickL p es ds
  | _, _ => []
def partsW (w : Str) (r : List D) (p : Str) : List D := pickL p ((lineTab.lookup w).getD []) r
theorem pickL_len (p : Str) : ∀ (es : List (Nat × Str)) (ds : List D), (pickL p es ds).length ≤ es.length
  | [], _ => by simp [pickL]
  | _ :: _, [] => by simp [pickL]
  | e :: es, d :: ds => by
    have := pickL_len p es ds
    simp only [pickL]; split <;> simp only [List.length_cons] <;> omega
theorem lookD_len (w : Str) : ((lineTab.lookup w).getD []).length ≤ 3 := by
  cases e : lineTab.lookup w with
  | none => simp
  | some es => exact (table_ok _ (look_mem e)).2
theorem partsW_len (w : Str) (r : List D) (p : Str) : (partsW w r p).length ≤ 3 := Nat.le_trans (pickL_len _ _ _) (lookD_len w)
theorem pickL_mem {p : Str} {x : D} : ∀ {es : List (Nat × Str)} {ds : List D}, x ∈ pickL p es ds → fitsAll es ds = true → ∃ e ∈ es, e.2 = p ∧ fitC e.1 x = true ∧ x ∈ ds
  | e :: es, d :: ds, h, hf => by
    simp only [fitsAll, Bool.and_eq_true] at hf
    simp only [pickL] at h
    by_cases he : e.2 = p
    · rw [if_pos he] at h
      rcases List.mem_cons.mp h with rfl | h
      · exact ⟨e, by simp, he, hf.1, by simp⟩
      · obtain ⟨e', h1, h2, h3, h4⟩ := pickL_mem h hf.2
        exact ⟨e', by simp [h1], h2, h3, by simp [h4]⟩
    · rw [if_neg he] at h
      obtain ⟨e', h1, h2, h3, h4⟩ := pickL_mem h hf.2
      exact ⟨e', by simp [h1], h2, h3, by simp [h4]⟩
/-- what a line is: a word of the table and parts that fit -/
theorem lineD_ex {d : D} (h : lineD d = true) : ∃ w ds es, d = .tup (.str w :: ds) ∧ lineTab.lookup w = some es ∧ fitsAll es ds = true := by
  unfold lineD at h
  split at h
  · rename_i w ds
    split at h
    · rename_i es e
      exact ⟨w, ds, es, rfl, e, h⟩
    · cases h
  · cases h
theorem fits_length : ∀ {es : List (Nat × Str)} {ds : List D}, fitsAll es ds = true → es.length = ds.length
  | [], [], _ => rfl
  | [], _ :: _, h => by simp [fitsAll] at h
  | _ :: _, [], h => by simp [fitsAll] at h
  | e :: es, d :: ds, h => by
    simp only [fitsAll, Bool.and_eq_true] at h
    simp [fits_length h.2]
theorem parts_fit {w : Str} {ds : List D} {es : List (Nat × Str)} (he : lineTab.lookup w = some es) (hf : fitsAll es ds = true) {p : Str} {x : D} (h : x ∈ partsW w ds p) : partB p x = true ∧ x ∈ ds := by
  unfold partsW at h
  rw [he] at h
  obtain ⟨e, h1, h2, h3, h4⟩ := pickL_mem h hf
  have tok := (table_ok _ (look_mem he)).1
  rw [List.all_eq_true] at tok
  rw [← h2, pair_fit (tok e h1)]
  exact ⟨h3, h4⟩
theorem isHome_ex {d : D} (h : isHome d = true) : ∃ (b : Bool) (k : Int), d = .tup [.str (if b then "peg" else "bin"), .int k] ∧ 0 ≤ k ∧ k ≤ 3 := by
  cases d with
  | tup ds =>
    match ds, h with
    | [.str w, .int k], h =>
      simp only [isHome, Bool.and_eq_true, Bool.or_eq_true, decide_eq_true_eq] at h
      obtain ⟨hw, h0, h1⟩ := h
      rcases hw with rfl | rfl
      · exact ⟨true, k, rfl, h0, h1⟩
      · exact ⟨false, k, rfl, h0, h1⟩
  | _ => cases h
theorem isFrom_ex {d : D} (h : isFrom d = true) : ∃ k : Int, d = .int k ∧ 0 ≤ k := by
  cases d <;> simp only [isFrom, Bool.false_eq_true, decide_eq_true_eq] at h
  exact ⟨_, rfl, h⟩
def signsB (d : D) (m : Int) : Bool := match d with
  | .str s => decide ((s.length : Int) = m) && s.cps.toList.all fun c => decide (c ∈ [110, 98, 45])
  | _ => false
def riseB : List D → Bool
  | .int a :: .int b :: r => decide (a < b) && riseB (.int b :: r)
  | _ => true
def keepsB (d : D) : Bool := match d with
  | .tup ds => ds.all (fun p => isWithin p 1 3) && riseB ds
  | _ => false
def linesB (d : D) : Bool := match d with
  | .tup ds => (decide (1 ≤ ds.length) && decide (ds.length ≤ 24)) && ds.all lineD
  | _ => false
def ltI (many : Int) (d : D) : Bool := match d with
  | .int i => decide (i < many)
  | _ => false
def stayB (l : D) (at_ many : Int) : Bool := match l with
  | .tup (.str w :: r) => (match nextN w r at_ with
    | some ns => (ns.map D.int ++ partsW w r "goal").all (ltI many)
    | none => false)
  | _ => false
def writesW (w : Str) (r : List D) : List D := if w = "call" then [.tup [.str "peg", .int 0]] else partsW w r "written"
def binIn (bins : Int) (h : D) : Bool := match h with
  | .tup [.str s, .int k] => !decide (s = "bin") || decide (k < bins)
  | _ => false
def pegIn (ks : List D) (h : D) : Bool := match h with
  | .tup [.str s, .int k] => !decide (s = "peg") || (decide (k = 0) || inF (.int k) ks)
  | _ => false
def ownB (l : D) (ks : List D) (bins : Int) : Bool := match l with
  | .tup (.str w :: r) => (partsW w r "read" ++ partsW w r "written").all (binIn bins) && (writesW w r).all (pegIn ks)
  | _ => false
def rightB (ks : List D) (bins many : Int) : Nat → List D → Bool
  | _, [] => true
  | i, l :: ls => (stayB l i many && ownB l ks bins) && rightB ks bins many (i + 1) ls
def defB (d : D) : Bool := match d with
  | .tup [takes, gives, keeps, bins, lines] => (signsB takes 4 && signsB gives 1 && keepsB keeps) && (isWithin bins 0 4 && linesB lines) && (match keeps, bins, lines with
    | .tup ks, .int b, .tup ls => rightB ks b ls.length 0 ls
    | _, _, _ => false)
  | _ => false
def calledB (many : Int) (l : D) : Bool := match l with
  | .tup (.str w :: r) => (partsW w r "called").all (ltI many)
  | _ => false
def callsB (many : Int) (d : D) : Bool := match d with
  | .tup [_, _, _, _, .tup ls] => ls.all (calledB many)
  | _ => false
def progB (d : D) : Bool := match d with
  | .tup ds => (decide (1 ≤ ds.length) && decide (ds.length ≤ 6)) && ds.all defB && ds.all (callsB ds.length)
  | _ => false
theorem parts_look (z : Str) : List.lookup z [("put", (.tup [(.str "written"), (.str "number")])), ("none", (.tup [(.str "written")])), ("copy", (.tup [(.str "written"), (.str "read")])), ("add", (.tup [(.str "written"), (.str "read"), (.str "read")])), ("less", (.tup [(.str "written"), (.str "read"), (.str "read")])), ("new", (.tup [(.str "written"), (.str "few"), (.str "few")])), ("getn", (.tup [(.str "written"), (.str "read"), (.str "field")])), ("setn", (.tup [(.str "read"), (.str "field"), (.str "read")])), ("getb", (.tup [(.str "written"), (.str "read"), (.str "field")])), ("setb", (.tup [(.str "read"), (.str "field"), (.str "read")])), ("tell", (.tup [(.str "read")])), ("go", (.tup [(.str "goal")])), ("if", (.tup [(.str "read"), (.str "goal")])), ("ifnone", (.tup [(.str "read"), (.str "goal")])), ("same", (.tup [(.str "read"), (.str "read"), (.str "goal")])), ("call", (.tup [(.str "called")])), ("back", (.tup [])), ("rest", (.tup []))] = (lineTab.lookup z).map fun es => D.tup (strsOf es) := look_map (fun es => D.tup (strsOf es)) z lineTab
theorem sgn_len (s : Str) : (sgnD s).length = s.length := by simp [sgnD, Str.length]
theorem sz {n : Nat} (h : n ≤ 1000) : n ≤ sizeLine := Nat.le_trans h (by decide)
theorem zip_len (a b : List D) : (zipD a b).length = min a.length b.length := by simp [zipD]
theorem cut_tail (ds : List D) : cutD ds (some 1) none = ds.drop 1 := by
  cases ds with
  | nil => rfl
  | cons d ds => exact cut_one
theorem fin_frz {Q : D → Store → Prop} {S : Store} {ds : List D} (h : Q (.lst ds) S) (p : Addr) (hp : S p = none) : VL.Fin Q (.ref p) (supd S p (.lst ds)) :=
  ⟨.lst ds, S, .lst supd_same hp (fun b o e => by rw [supd_ne (by intro z; subst z; rw [hp] at e; cases e)]; exact e), h⟩
theorem flat_one (f : D → D) : ∀ ds : List D, (ds.flatMap fun d => [f d]) = ds.map f
  | [] => rfl
  | d :: ds => by rw [List.flatMap_cons, flat_one f ds]; rfl
end VL
set_option maxHeartbeats 2000000
namespace VL
open PySem PySem.Spec L2
open PyProof.Rows hiding St
theorem sort2_mem {i j n : Int} (h : n ∈ sort2 i j) : n = i ∨ n = j := by
  unfold sort2 at h
  split at h
  · exact .inl (List.mem_singleton.mp h)
  · split at h
    · simpa using h
    · simp only [List.mem_cons, List.not_mem_nil, or_false] at h; exact h.symm
theorem sort2_len (i j : Int) : (sort2 i j).length ≤ 2 := by unfold sort2; split <;> (try split) <;> simp
theorem goal_one {p : Str} {es : List (Nat × Str)} {c : Nat} {r : List D} {d : D} (h : r.length = es.length) : d ∈ pickL p (es ++ [(c, p)]) (r ++ [d]) := by
  induction es generalizing r with
  | nil =>
    cases r with
    | nil => simp [pickL]
    | cons => simp at h
  | cons e es ih =>
    cases r with
    | nil => simp at h
    | cons x r =>
      have := ih (r := r) (by simpa using h)
      simp only [List.cons_append, pickL]
      split
      · exact List.mem_cons_of_mem _ this
      · exact this
theorem next_ex {w : Str} {r : List D} {es : List (Nat × Str)} (he : lineTab.lookup w = some es) (hf : fitsAll es r = true) (at_ : Int) :
    ∃ ns, nextN w r at_ = some ns ∧ ns.length ≤ 2 ∧ ∀ n ∈ ns, (n = at_ + 1 ∧ w ≠ "go" ∧ w ≠ "back") ∨ D.int n ∈ partsW w r "goal" := by
  have hp : partsW w r "goal" = pickL "goal" es r := by unfold partsW; rw [he]; rfl
  rw [hp]
  have hm := look_mem he
  have plain : nextN w r at_ = some [at_ + 1] → w ≠ "go" → w ≠ "back" → ∃ ns, nextN w r at_ = some ns ∧ ns.length ≤ 2 ∧ ∀ n ∈ ns, (n = at_ + 1 ∧ w ≠ "go" ∧ w ≠ "back") ∨ D.int n ∈ pickL "goal" es r :=
    fun h a b => ⟨_, h, by simp, fun n hn => .inl ⟨List.mem_singleton.mp hn, a, b⟩⟩
  have choose : ∀ {k : Int}, nextN w r at_ = some (sort2 (at_ + 1) k) → w ≠ "go" → w ≠ "back" → D.int k ∈ pickL "goal" es r → ∃ ns, nextN w r at_ = some ns ∧ ns.length ≤ 2 ∧ ∀ n ∈ ns, (n = at_ + 1 ∧ w ≠ "go" ∧ w ≠ "back") ∨ D.int n ∈ pickL "goal" es r :=
    fun h a b c => ⟨_, h, sort2_len _ _, fun n hn => (sort2_mem hn).elim (fun e => .inl ⟨e, a, b⟩) fun e => .inr (by rw [e]; exact c)⟩
  simp only [lineTab, List.mem_cons, Prod.mk.injEq, List.not_mem_nil, or_false] at hm
  rcases hm with ⟨rfl, rfl⟩ | ⟨rfl, rfl⟩ | ⟨rfl, rfl⟩ | ⟨rfl, rfl⟩ | ⟨rfl, rfl⟩ | ⟨rfl, rfl⟩ | ⟨rfl, rfl⟩ | ⟨rfl, rfl⟩ | ⟨rfl, rfl⟩ | ⟨rfl, rfl⟩ | ⟨rfl, rfl⟩ | ⟨rfl, rfl⟩ | ⟨rfl, rfl⟩ | ⟨rfl, rfl⟩ | ⟨rfl, rfl⟩ | ⟨rfl, rfl⟩ | ⟨rfl, rfl⟩ | ⟨rfl, rfl⟩
  case inr.inr.inr.inr.inr.inr.inr.inr.inr.inr.inr.inl =>
    match r, hf with
    | [], hf => simp [fitsAll] at hf
    | _ :: _ :: _, hf => simp [fitsAll] at hf
    | [d], hf =>
      simp only [fitsAll, Bool.and_true] at hf
      obtain ⟨k, rfl, _⟩ := isFrom_ex hf
      exact ⟨[k], by unfold nextN; rw [if_neg (by decide +kernel), if_pos rfl], by simp, fun n hn => .inr (by rw [List.mem_singleton.mp hn]; simp [pickL])⟩
  case inr.inr.inr.inr.inr.inr.inr.inr.inr.inr.inr.inr.inl =>
    match r, hf with
    | [], hf => simp [fitsAll] at hf
    | [_], hf => simp [fitsAll] at hf
    | _ :: _ :: _ :: _, hf => simp [fitsAll] at hf
    | [x, d], hf =>
      simp only [fitsAll, Bool.and_true, Bool.and_eq_true] at hf
      obtain ⟨k, rfl, _⟩ := isFrom_ex hf.2
      exact choose (by unfold nextN; rw [if_neg (by decide +kernel), if_neg (by decide +kernel), if_pos (by decide +kernel)]; rfl) (by decide +kernel) (by decide +kernel) (goal_one (es := [(103, "read")]) (r := [x]) rfl)
  case inr.inr.inr.inr.inr.inr.inr.inr.inr.inr.inr.inr.inr.inl =>
    match r, hf with
    | [], hf => simp [fitsAll] at hf
    | [_], hf => simp [fitsAll] at hf
    | _ :: _ :: _ :: _, hf => simp [fitsAll] at hf
    | [x, d], hf =>
      simp only [fitsAll, Bool.and_true, Bool.and_eq_true] at hf
      obtain ⟨k, rfl, _⟩ := isFrom_ex hf.2
      exact choose (by unfold nextN; rw [if_neg (by decide +kernel), if_neg (by decide +kernel), if_pos (by decide +kernel)]; rfl) (by decide +kernel) (by decide +kernel) (goal_one (es := [(103, "read")]) (r := [x]) rfl)
  case inr.inr.inr.inr.inr.inr.inr.inr.inr.inr.inr.inr.inr.inr.inl =>
    match r, hf with
    | [], hf => simp [fitsAll] at hf
    | [_], hf => simp [fitsAll] at hf
    | [_, _], hf => simp [fitsAll] at hf
    | _ :: _ :: _ :: _ :: _, hf => simp [fitsAll] at hf
    | [x, y, d], hf =>
      simp only [fitsAll, Bool.and_true, Bool.and_eq_true] at hf
      obtain ⟨k, rfl, _⟩ := isFrom_ex hf.2.2
      exact choose (by unfold nextN; rw [if_neg (by decide +kernel), if_neg (by decide +kernel), if_pos (by decide +kernel)]; rfl) (by decide +kernel) (by decide +kernel) (goal_one (es := [(103, "read"), (103, "read")]) (r := [x, y]) rfl)
  case inr.inr.inr.inr.inr.inr.inr.inr.inr.inr.inr.inr.inr.inr.inr.inr.inl => exact ⟨[], by unfold nextN; rw [if_pos rfl], by simp, fun n hn => nomatch hn⟩
  all_goals exact plain (by unfold nextN; rw [if_neg (by decide +kernel), if_neg (by decide +kernel), if_neg (by decide +kernel)]) (by decide +kernel) (by decide +kernel)
theorem stay_of {w : Str} {r : List D} {es : List (Nat × Str)} {at_ many : Int} (he : lineTab.lookup w = some es) (hf : fitsAll es r = true) (hg : ∀ x ∈ partsW w r "goal", ltI many x = true) (hat : w = "go" ∨ w = "back" ∨ at_ + 1 < many) : stayB (.tup (.str w :: r)) at_ many = true := by
  obtain ⟨ns, h1, _, h2⟩ := next_ex he hf at_
  simp only [stayB, h1, List.all_append, Bool.and_eq_true, List.all_eq_true]
  refine ⟨fun d hd => ?_, hg⟩
  obtain ⟨n, hn, rfl⟩ := List.mem_map.mp hd
  rcases h2 n hn with ⟨rfl, a, b⟩ | h
  · rcases hat with z | z | z
    · exact absurd z a
    · exact absurd z b
    · simpa [ltI] using z
  · exact hg _ h
def RowP (P : Nat → D → Prop) : List Nat → List D → Prop
  | [], [] => True
  | c :: cs, d :: ds => P c d ∧ RowP P cs ds
  | _, _ => False
theorem RowP.app {P : Nat → D → Prop} {c : Nat} {d : D} (h : P c d) : ∀ {cs : List Nat} {ds : List D}, RowP P cs ds → RowP P (cs ++ [c]) (ds ++ [d])
  | [], [], _ => ⟨h, trivial⟩
  | _ :: _, _ :: _, q => ⟨q.1, RowP.app h q.2⟩
theorem RowP.len {P : Nat → D → Prop} : ∀ {cs : List Nat} {ds : List D}, RowP P cs ds → ds.length = cs.length
  | [], [], _ => rfl
  | _ :: _, _ :: _, q => by simp [RowP.len q.2]
theorem RowP.imp {P P' : Nat → D → Prop} (h : ∀ c d, P c d → P' c d) : ∀ {cs : List Nat} {ds : List D}, RowP P cs ds → RowP P' cs ds
  | [], [], _ => trivial
  | _ :: _, _ :: _, q => ⟨h _ _ q.1, RowP.imp h q.2⟩
theorem RowP.fits {P : Nat → D → Prop} (h : ∀ c d, P c d → fitC c d = true) : ∀ {es : List (Nat × Str)} {ds : List D}, RowP P (es.map (·.1)) ds → fitsAll es ds = true
  | [], [], _ => rfl
  | _ :: _, _ :: _, q => by simp only [fitsAll, h _ _ q.1, RowP.fits h q.2, Bool.and_self]
theorem RowP.each {P : Nat → D → Prop} : ∀ {cs : List Nat} {ds : List D}, RowP P cs ds → ∀ d ∈ ds, ∃ c ∈ cs, P c d
  | [], [], _ => fun d hd => nomatch hd
  | c :: cs, e :: ds, q => fun d hd => by
    rcases List.mem_cons.mp hd with rfl | hd
    · exact ⟨c, by simp, q.1⟩
    · obtain ⟨c', a, b⟩ := RowP.each q.2 d hd
      exact ⟨c', by simp [a], b⟩
theorem RowP.pick {P : Nat → D → Prop} {p : Str} {x : D} : ∀ {es : List (Nat × Str)} {ds : List D}, RowP P (es.map (·.1)) ds → x ∈ pickL p es ds → ∃ e ∈ es, e.2 = p ∧ P e.1 x
  | [], _, _, h => by simp [pickL] at h
  | _ :: _, [], q, h => by simp [pickL] at h
  | e :: es, d :: ds, q, h => by
    have q : P e.1 d ∧ RowP P (es.map (·.1)) ds := q
    simp only [pickL] at h
    by_cases he : e.2 = p
    · rw [if_pos he] at h
      rcases List.mem_cons.mp h with rfl | h
      · exact ⟨e, by simp, he, q.1⟩
      · obtain ⟨e', a, b, c⟩ := RowP.pick q.2 h
        exact ⟨e', by simp [a], b, c⟩
    · rw [if_neg he] at h
      obtain ⟨e', a, b, c⟩ := RowP.pick q.2 h
      exact ⟨e', by simp [a], b, c⟩
theorem RowP.part {P : Nat → D → Prop} {w p : Str} {es : List (Nat × Str)} {ds : List D} {x : D} (he : lineTab.lookup w = some es) (h : RowP P (es.map (·.1)) ds) (hx : x ∈ partsW w ds p) {c : Nat} (hp : (c, p) ∈ pairs) : P c x := by
  have e1 : partsW w ds p = pickL p es ds := by unfold partsW; rw [he]; rfl
  rw [e1] at hx
  obtain ⟨e, a, rfl, q⟩ := h.pick hx
  have : e ∈ pairs := of_decide_eq_true (List.all_eq_true.mp (table_ok _ (look_mem he)).1 e a)
  have uniq : ∀ e ∈ pairs, ∀ c, (c, e.2) ∈ pairs → c = e.1 := by
    intro e he c hc
    simp only [pairs, List.mem_cons, Prod.mk.injEq, List.not_mem_nil, or_false] at he hc
    rcases he with rfl | rfl | rfl | rfl | rfl | rfl | rfl <;> (rcases hc with ⟨rfl, h⟩ | ⟨rfl, h⟩ | ⟨rfl, h⟩ | ⟨rfl, h⟩ | ⟨rfl, h⟩ | ⟨rfl, h⟩ | ⟨rfl, h⟩ <;> first | rfl | exact absurd h (by decide +kernel))
  rw [uniq e this c hp]
  exact q
theorem own_of {w : Str} {r : List D} {es : List (Nat × Str)} {ks : List D} {bins : Int} (hr : ∀ x ∈ partsW w r "read", binIn bins x = true) (hw : ∀ x ∈ partsW w r "written", binIn bins x = true ∧ pegIn ks x = true) : ownB (.tup (.str w :: r)) ks bins = true := by
  simp only [ownB, Bool.and_eq_true, List.all_append, List.all_eq_true]
  refine ⟨⟨hr, fun x hx => (hw x hx).1⟩, fun x hx => ?_⟩
  unfold writesW at hx
  split at hx
  · rw [List.mem_singleton.mp hx]; rfl
  · exact (hw x hx).2
theorem inF_int {i : Int} {ks : List D} (h : D.int i ∈ ks) : inF (.int i) ks = true := List.any_eq_true.mpr ⟨_, h, by simp [eqF]⟩
theorem rng_len {lo : Int} {n : Nat} : (rngD lo n).length = n := by simp [rngD]
theorem rng_mem {lo : Int} {n : Nat} {d : D} (h : d ∈ rngD lo n) : ∃ i : Nat, i < n ∧ d = .int (lo + i) := by
  simp only [rngD, List.mem_map, List.mem_range] at h
  obtain ⟨i, a, b⟩ := h
  exact ⟨i, a, b.symm⟩
theorem nb_cps : (Str.ofString "nb-").cps.toList = [110, 98, 45] := by decide +kernel
theorem join0_cps : ∀ ys : List Str, (Txt.join (Str.ofString "") ys).cps.toList = ys.flatMap fun y => y.cps.toList := by
  have app : ∀ a b : Str, (a ++ b).cps.toList = a.cps.toList ++ b.cps.toList := fun a b => by show (a.cps ++ b.cps).toList = _; simp
  intro ys
  rw [TL.join_eq]
  induction ys with
  | nil => rfl
  | cons x r ih =>
    cases r with
    | nil => simp [Str.join]
    | cons y r =>
      show (x ++ Str.ofString "" ++ Str.join (Str.ofString "") (y :: r)).cps.toList = _
      rw [app, app, ih, show (Str.ofString "").cps.toList = [] from rfl]
      simp
def oneS (c : Nat) : Str := ⟨#[c]⟩
theorem ones_strs : ∀ cs : List Nat, strsD (cs.map fun c => D.str ⟨#[c]⟩) = some (cs.map oneS)
  | [] => rfl
  | c :: cs => by simp only [List.map_cons, strsD, ones_strs cs]; rfl
theorem ones_cps (cs : List Nat) : (Txt.join (Str.ofString "") (cs.map oneS)).cps.toList = cs := by
  rw [join0_cps]
  induction cs with
  | nil => rfl
  | cons c cs ih => rw [List.map_cons, List.flatMap_cons, ih]; rfl
theorem ones_len (cs : List Nat) : (Txt.join (Str.ofString "") (cs.map oneS)).length = cs.length := by
  have : ∀ s : Str, s.length = s.cps.toList.length := fun s => by simp [Str.length]
  rw [this, ones_cps]
theorem ones_sum (cs : List Nat) : ((cs.map oneS).map fun x => x.length).sum = cs.length := by
  induction cs with
  | nil => rfl
  | cons c cs ih => rw [List.map_cons, List.map_cons, List.sum_cons, ih, List.length_cons, show (oneS c).length = 1 from rfl]; omega
theorem rise_of : ∀ {ks : List Int}, ks.Pairwise (· < ·) → riseB (ks.map D.int) = true
  | [], _ => rfl
  | [_], _ => rfl
  | a :: b :: r, h => by
    have h1 := List.pairwise_cons.mp h
    have : riseB (D.int b :: r.map D.int) = true := rise_of (ks := b :: r) h1.2
    simp only [List.map_cons, riseB, this, Bool.and_true, decide_eq_true_eq]
    exact h1.1 b (by simp)
theorem right_of {ks : List D} {b many : Int} : ∀ {ls : List D} {i : Nat}, (∀ (j : Nat) l, ls[j]? = some l → stayB l ((i + j : Nat) : Int) many = true ∧ ownB l ks b = true) → rightB ks b many i ls = true
  | [], _, _ => rfl
  | l :: ls, i, h => by
    obtain ⟨h1, h2⟩ := h 0 l rfl
    have ih := right_of (ks := ks) (b := b) (many := many) (ls := ls) (i := i + 1) fun j l' hj => by
      have := h (j + 1) l' (by simpa using hj)
      rw [show i + 1 + j = i + (j + 1) by omega]; exact this
    simp only [rightB, ih, Bool.and_true, Bool.and_eq_true]
    exact ⟨h1, h2⟩
theorem strOk_of {s : Str} (h : ∀ c ∈ s.cps.toList, c < 128) : PyData.strOk s = true := by
  unfold PyData.strOk
  rw [← Array.all_toList, List.all_eq_true]
  exact fun c hc => decide_eq_true (by have := h c hc; omega)
end VL
set_option maxHeartbeats 4000000
namespace VL
open PySem PySem.Spec L2
open PyProof.Rows hiding St
theorem tup_mul_same (l : Addr) (items : Array Value) (n : Nat) (dd : Option Addr) (sl : Array (Option Value)) (x : Int) (u : Tok) (c0 : (decide (x < -(2 ^ 63)) || decide (x ≥ 2 ^ 63)) = false) (c1 : (items.isEmpty || x == 1) = true) :
    Meets (Builtin.«tuple.__mul__» ⟨[.ref l, .int x u], []⟩) (fun _ R s => s.heap.get? l = some { cls := .type "tuple", dict := dd, data := .seq items n, slots := sl } ∧ R (.ok (.ret (.ref l))) s) :=
  .of_wp fun prog w A R s h => by
    obtain ⟨hp, g, d, tk, os⟩ := s
    obtain ⟨hl, h⟩ := h
    have f1 := AutoSeq1.idx_int
    wp_walk using wpAny_loadPart' hl
    repeat (first
      | (refine wpAny_ite_false (decide_eq_false (by rw [c0]; exact Bool.false_ne_true)) ?_; wp_walk using wpAny_loadPart' hl)
      | (refine wpAny_ite_true (decide_eq_true c1) ?_; wp_walk using wpAny_loadPart' hl))
    exact ⟨_, rfl, h⟩
theorem tup_mul_none (l : Addr) (items : Array Value) (n : Nat) (dd : Option Addr) (sl : Array (Option Value)) (x : Int) (u : Tok) (c0 : (decide (x < -(2 ^ 63)) || decide (x ≥ 2 ^ 63)) = false) (c1 : (items.isEmpty || x == 1) = false) (c2 : (decide (x ≤ 0) || items.isEmpty) = true) :
    Meets (Builtin.«tuple.__mul__» ⟨[.ref l, .int x u], []⟩) (fun _ R s => s.heap.get? l = some { cls := .type "tuple", dict := dd, data := .seq items n, slots := sl } ∧
      R (.ok (.ret (Value.ref s.heap.objs.size))) { s with heap := s.heap.push { cls := Value.type "tuple", data := Data.seq #[] } }) :=
  .of_wp fun prog w A R s h => by
    obtain ⟨hp, g, d, tk, os⟩ := s
    obtain ⟨hl, h⟩ := h
    have f1 := AutoSeq1.idx_int
    wp_walk using wpAny_loadPart' hl
    repeat (first
      | (refine wpAny_ite_false (decide_eq_false (by rw [c0]; exact Bool.false_ne_true)) ?_; wp_walk using wpAny_loadPart' hl)
      | (refine wpAny_ite_false (decide_eq_false (by rw [c1]; exact Bool.false_ne_true)) ?_; wp_walk using wpAny_loadPart' hl)
      | (refine wpAny_ite_true (decide_eq_true c2) ?_; wp_walk using wpAny_loadPart' hl))
    exact ⟨_, rfl, h⟩
def rRepA (K : PySem.W.Frag) : R2 := fun x y H Q => ∃ l k xs, x = .ref l ∧ y = .int k ∧ SqT K H l xs ∧ -(2 ^ 62) ≤ k ∧ k ≤ 1000 ∧ xs.length ≤ 1000 ∧ (k = 1 ∨ xs = [] → Q (.ref l) H) ∧ (¬ (k = 1 ∨ xs = []) → ∀ p, H p = none → Q (.ref p) (upd H p (.tup (List.replicate k.toNat xs).flatten)))
section
variable {X : Cx}
theorem op_repA : OpR X (binaryOp .Mult) (rRepA X.K) := by
  intro pins s σ H x y v u Q I rx ry h
  obtain ⟨l, k, xs, rfl, rfl, hT, h1, h2, hz, q1, q2⟩ := h
  by_cases two : 2 ≤ k ∧ xs ≠ []
  · exact op_repT pins s σ H _ _ v u Q I rx ry ⟨l, k, xs, rfl, rfl, hT, two.2, two.1, h2, hz, q2 (by rintro (z | z); omega; exact two.2 z)⟩
  cases rx
  obtain ⟨t, rfl⟩ := ry
  obtain ⟨its, r, ⟨⟨cls, dd, data, sl⟩, ho, hc, n, hd⟩, hs⟩ := I.tuple hT
  simp only at hc hd
  subst hc hd
  have hle : its.length = xs.length := r.length.symm
  have c0 : (decide (k < -(2 ^ 63)) || decide (k ≥ 2 ^ 63)) = false := by
    rw [decide_eq_false (by omega), decide_eq_false (by omega)] <;> rfl
  have emp : its.toArray.isEmpty = decide (xs = []) := by
    cases its with
    | nil => rw [show xs = [] from List.eq_nil_of_length_eq_zero hle.symm]; rfl
    | cons a b => cases xs with
      | nil => simp at hle
      | cons c d => rfl
  by_cases same : k = 1 ∨ xs = []
  · have c1 : (its.toArray.isEmpty || k == 1) = true := by
      rw [emp]
      rcases same with z | z
      · rw [z]; simp
      · rw [z]; rfl
    exact wpAny_binaryOp_repeat_ref (T := "tuple") (U := "int") (by decide) ⟨_, ho, rfl⟩ (fun s' => typeIs_int s' k t) noFill_tuple_mul F.fills_int_mul F.slot_int_rmul repeat_tuple F.slot_int_index.lookup
      (call_meets F.slot_int_rmul (typeIs_int s k t) F.entry_int_rmul (F.args_int_rmul_2 _ _) (int_rmul_tuple k t l its.toArray n dd sl)
        ⟨ho, rfl, ⟨_, ho, rfl⟩, call_meets F.slot_tuple_mul ⟨_, ho, rfl⟩ F.entry_tuple_mul (F.args_tuple_mul_2 _ _) (tup_mul_same l its.toArray n dd sl k t c0 c1) ⟨ho, .ref l, H, I, rfl, q1 same⟩⟩)
  · have c1 : (its.toArray.isEmpty || k == 1) = false := by
      rw [emp, decide_eq_false (fun z => same (.inr z)), Bool.false_or]
      exact beq_eq_false_iff_ne.mpr fun z => same (.inl z)
    have hk : k ≤ 0 := by
      have : ¬ k = 1 := fun z => same (.inl z)
      have : ¬ 2 ≤ k := fun z => two ⟨z, fun e => same (.inr e)⟩
      omega
    have c2 : (decide (k ≤ 0) || its.toArray.isEmpty) = true := by rw [decide_eq_true hk]; rfl
    refine wpAny_binaryOp_repeat_ref (T := "tuple") (U := "int") (by decide) ⟨_, ho, rfl⟩ (fun s' => typeIs_int s' k t) noFill_tuple_mul F.fills_int_mul F.slot_int_rmul repeat_tuple F.slot_int_index.lookup
      (call_meets F.slot_int_rmul (typeIs_int s k t) F.entry_int_rmul (F.args_int_rmul_2 _ _) (int_rmul_tuple k t l its.toArray n dd sl)
        ⟨ho, rfl, ⟨_, ho, rfl⟩, call_meets F.slot_tuple_mul ⟨_, ho, rfl⟩ F.entry_tuple_mul (F.args_tuple_mul_2 _ _) (tup_mul_none l its.toArray n dd sl k t c0 c1 c2) ⟨ho, ?_⟩⟩)
    have q := q2 same
    rw [show k.toNat = 0 by omega] at q
    exact ⟨.ref s.heap.objs.size, _, I.laid (t' := s.toks) (o := .tup []) (fun b ob q => Heap.get?_push_of_some _ q) (Nat.le_refl _) ⟨Nat.zero_le _, [], .nil, IsTup.new _ _⟩, rfl, q _ (I.hok.fresh (Nat.le_refl _))⟩
/-- a * b: ints, a list or a tuple and an int -/
def mMulA : R2V := fun x y S Q => match x, y with
  | .int i, .int j => CMul i j ∧ Q (.int (i * j)) S
  | .tup ds, .int k => -(2 ^ 62) ≤ k ∧ k ≤ 1000 ∧ ds.length ≤ 1000 ∧ Q (.tup (List.replicate k.toNat ds).flatten) S
  | x, .int k => match rdL x S with
    | some ds => -(2 ^ 63) ≤ k ∧ k < 2 ^ 63 ∧ ds.length * k.toNat ≤ sizeLine ∧ Q (.lst (List.replicate k.toNat ds).flatten) S
    | none => False
  | _, _ => False
theorem mMulA_i {i j : Int} {S : Store} {Q : D → Store → Prop} : mMulA (.int i) (.int j) S Q = (CMul i j ∧ Q (.int (i * j)) S) := rfl
theorem mMulA_t {ds : List D} {k : Int} {S : Store} {Q : D → Store → Prop} : mMulA (.tup ds) (.int k) S Q = (-(2 ^ 62) ≤ k ∧ k ≤ 1000 ∧ ds.length ≤ 1000 ∧ Q (.tup (List.replicate k.toNat ds).flatten) S) := rfl
theorem mMulA_l {ds : List D} {k : Int} {S : Store} {Q : D → Store → Prop} : mMulA (.lst ds) (.int k) S Q = (-(2 ^ 63) ≤ k ∧ k < 2 ^ 63 ∧ ds.length * k.toNat ≤ sizeLine ∧ Q (.lst (List.replicate k.toNat ds).flatten) S) := rfl
theorem ov_mulA : OpV X (binaryOp .Mult) mMulA := by
  obtain ⟨r, h1, h2⟩ := ov_mulL (X := X)
  refine ⟨_, h1.or op_repA, ?_⟩
  intro x y v1 v2 G S H Q Q' vw r1 r2 h k
  cases y with
  | int j =>
    cases x with
    | tup ds =>
      rw [mMulA_t] at h
      cases r1 with
      | @tup a xs _ ht l =>
        cases r2
        refine .inr ⟨a, j, xs, rfl, rfl, same_t vw.gh ht, h.1, h.2.1, by rw [l.length]; exact h.2.2.1, fun e => ?_, fun _ p hp => ?_⟩
        · have : (List.replicate j.toNat ds).flatten = ds := by
            rcases e with rfl | e
            · simp
            · have : ds = [] := by cases l with
                | nil => rfl
                | cons => cases e
              rw [this]
              generalize j.toNat = n
              induction n with
              | zero => rfl
              | succ n ih => rw [List.replicate_succ, List.flatten_cons, ih]; rfl
          rw [this] at h
          exact k _ S _ H G (Aft.refl vw) (.tup ht l) h.2.2.2
        · have a3 := vw.froze (o := .tup (List.replicate j.toNat xs).flatten) hp
          exact k _ S _ _ _ a3 (.tup (SqT.of upd_same) ((l.flat _).mono a3.gg)) h.2.2.2
    | _ => exact .inl (h2 _ _ v1 v2 G S H Q Q' vw r1 r2 h k)
  | _ => cases x <;> exact False.elim h
theorem CallR.or {f : Value} {r r' : List V → Hp → VK → Prop} (h : CallR X f r) (h' : CallR X f r') : CallR X f (fun vs H Q => r vs H Q ∨ r' vs H Q) := by
  intro pins s σ H xs us Q I rr q
  rcases q with q | q
  · exact h pins s σ H xs us Q I rr q
  · exact h' pins s σ H xs us Q I rr q
end
end VL
set_option maxHeartbeats 4000000
namespace VL
open PySem PySem.Spec L2
open PyProof.Rows hiding St
open Sem (wp)
abbrev hN (w : World) (k : NK) : Int := k.hash w
/-- the tuple at a is the key k -/
def IsN (h : Heap) (k : NK) (a : Addr) : Prop := NestedIs h k (.ref a) ∧ k.depth ≤ 8
section
variable {P : Program} {w : World} {A : Around} {E : Value → Shared → Prop} {s : Shared}
theorem IsN.tup {h : Heap} {k : NK} {a : Addr} (x : IsN h k a) : ∃ ks o vs n, k = .tup ks ∧ h.get? a = some o ∧ o.cls = .type "tuple" ∧ o.data = .seq vs n ∧ NestedAll h ks vs.toList := by
  obtain ⟨x, _⟩ := x
  cases x with
  | tup h1 h2 h3 h4 => exact ⟨_, _, _, _, rfl, h1, h2, h3, h4⟩
theorem IsN.keep {h h' : Heap} {k : NK} {a : Addr} (x : IsN h k a) (hk : ∀ c o, h.get? c = some o → h'.get? c = some o) : IsN h' k a := ⟨NestedIs.at (fun b ob vs n e _ => hk b ob e) k _ x.1, x.2⟩
theorem IsN.same {h h' : Heap} {k : NK} {a b : Addr} {o : Obj} {es : Array (Int × Value)} {ep : Nat} {t : SetTable} (x : IsN h k b) (ho : h.get? a = some o) (hd : o.data = .set es ep t) (hs : Heap.SameBut a h h') : IsN h' k b := by
  refine ⟨NestedIs.at (fun c oc vs n e1 e2 => ?_) k _ x.1, x.2⟩
  have hne : c ≠ a := by
    intro z; subst z
    rw [ho] at e1; cases e1
    rw [hd] at e2; cases e2
  exact (hs.2 c hne).trans e1
theorem IsN.inj {h : Heap} {k k' : NK} {a : Addr} (x : IsN h k a) (y : IsN h k' a) : k = k' := NestedIs.inj _ _ _ x.1 y.1
theorem nall_mem {h : Heap} : ∀ {ks : List NK} {vs : List Value}, NestedAll h ks vs → ∀ v ∈ vs, ∃ k ∈ ks, NestedIs h k v
  | _, _, .nil, _, hv => nomatch hv
  | _, _, .cons h1 h2, v, hv => by
    rcases List.mem_cons.mp hv with e | hv
    · exact ⟨_, List.mem_cons_self, e ▸ h1⟩
    · obtain ⟨k, a, b⟩ := nall_mem h2 v hv
      exact ⟨k, List.mem_cons_of_mem _ a, b⟩
theorem depth_mem {ks : List NK} {k : NK} (h : k ∈ ks) : k.depth ≤ NestedKey.depthAll ks := by
  induction ks with
  | nil => exact nomatch h
  | cons c cs ih =>
    simp only [NestedKey.depthAll]
    rcases List.mem_cons.mp h with rfl | h
    · exact Nat.le_max_left _ _
    · exact Nat.le_trans (ih h) (Nat.le_max_right _ _)
/-- hash(v) by its value: some answer -/
theorem hashBy_some : ∀ (n : Nat) (k : NK) (v : Value) (s : Shared) (Q : Bool → Shared → Prop), NestedIs s.heap k v → (∀ b, Q b s) → wpAny (model P w) A (hashByValue n v) Q E s := by
  intro n
  induction n with
  | zero =>
    intro k v s Q x h
    cases x <;> first | exact wpAny_pure (h true) | exact wpAny_pure (h false)
  | succ n ih =>
    intro k v s Q x h
    cases x with
    | @tup a o vs m _ h1 h2 h3 h4 =>
      have hT : s.TypeIs (.ref a) "tuple" := ⟨o, h1, h2⟩
      unfold hashByValue
      refine wpAny_bind (wpAny_specialOf hT F.slot_tuple_hash.lookup ?_)
      show wpAny _ _ (seqItems? (.ref a) >>= _) _ _ s
      refine wpAny_bind (wpAny_seqItems h1 h3 ?_); refine wpAny_bind ?_
      show wpAny _ _ (forIn vs _ _) _ _ s
      rw [← Array.forIn_toList]
      have items := nall_mem h4
      refine wpAny_mono (wpAny_forIn_list _ (fun rest r s' => s' = s ∧ r.1 = none ∧ ∀ u ∈ rest, u ∈ vs.toList) (fun r s' => s' = s ∧ (r.1 = none ∨ ∃ b, r.1 = some b)) ?_ ?_ _ _ ⟨rfl, rfl, fun u hu => hu⟩) ?_ (fun _ _ q => q)
      · rintro u rest r s' ⟨rfl, hr, hall⟩
        obtain ⟨k', _, hk'⟩ := items u (hall u List.mem_cons_self)
        refine wpAny_bind (ih k' u s' _ hk' fun b => ?_)
        cases b with
        | true => simp only [Bool.not_true, Bool.false_eq_true, if_false]; exact wpAny_pure ⟨rfl, rfl, fun z hz => hall z (List.mem_cons_of_mem _ hz)⟩
        | false => simp only [Bool.not_false, if_true]; exact wpAny_pure ⟨rfl, .inr ⟨_, rfl⟩⟩
      · rintro r s' ⟨rfl, hr, _⟩; exact ⟨rfl, .inl hr⟩
      · rintro ⟨r1, r2⟩ s' ⟨rfl, hr⟩
        rcases hr with hr | ⟨b, hr⟩
        · simp only at hr; subst hr; exact wpAny_pure (h true)
        · simp only at hr; subst hr; exact wpAny_pure (h b)
    | _ => first | exact wpAny_pure (h true) | exact wpAny_pure (h false)
/-- no class statement in it -/
theorem ofAClass_no : ∀ (n : Nat) (k : NK) (v : Value) (s : Shared) (Q : Bool → Shared → Prop), NestedIs s.heap k v → k.depth ≤ n → Q false s → wpAny (model P w) A (ofAClassStatement n v) Q E s := by
  intro n
  induction n with
  | zero =>
    intro k v s Q x hd h
    cases x with
    | tup => simp [NestedKey.depth] at hd
    | _ => exact wpAny_pure h
  | succ n ih =>
    intro k v s Q x hd h
    cases x with
    | @tup a o vs m ks h1 h2 h3 h4 =>
      have hT : s.TypeIs (.ref a) "tuple" := ⟨o, h1, h2⟩
      have hd' : NestedKey.depthAll ks ≤ n := by simp only [NestedKey.depth] at hd; omega
      unfold ofAClassStatement
      refine wpAny_bind (wpAny_typeOf hT ?_); dsimp only
      have e : (("tuple" : String) == "tuple") = true := by decide
      simp only [e, if_true, Bool.not_true, Bool.false_eq_true, if_false]
      try refine wpAny_bind (wpAny_pure ?_)
      try simp only [Bool.not_true, Bool.false_eq_true, if_false]
      show wpAny _ _ (seqItems? (.ref a) >>= _) _ _ s
      refine wpAny_bind (wpAny_seqItems h1 h3 ?_); dsimp only; refine wpAny_bind ?_
      show wpAny _ _ (forIn vs _ _) _ _ s
      rw [← Array.forIn_toList]
      have items := nall_mem h4
      refine wpAny_forIn_list _ (fun rest r s' => r.1 = none ∧ s' = s ∧ ∀ u ∈ rest, u ∈ vs.toList) _ ?_ ?_ _ _ ⟨rfl, rfl, fun u hu => hu⟩
      · rintro u rest r s' ⟨hr, rfl, hall⟩
        obtain ⟨k', hm, hk'⟩ := items u (hall u List.mem_cons_self)
        refine wpAny_bind (ih k' u s' _ hk' (Nat.le_trans (depth_mem hm) hd') ?_)
        simp only [Bool.false_eq_true, if_false]
        exact wpAny_pure ⟨rfl, rfl, fun z hz => hall z (List.mem_cons_of_mem _ hz)⟩
      · rintro ⟨r1, r2⟩ s' ⟨hr, rfl, _⟩
        simp only at hr
        subst hr
        exact wpAny_pure h
    | _ => exact wpAny_pure h
/-- a search among tuples shows nothing -/
theorem seen_no {k : NK} {b : Addr} {Q : Bool → Shared → Prop} (hk : IsN s.heap k b) {ys : List Value} (hy : ∀ y ∈ ys, ∃ k' c, y = Value.ref c ∧ IsN s.heap k' c) (h : Q false s) : wpAny (model P w) A (searchCouldBeSeen (.ref b) ys) Q E s := by
  unfold searchCouldBeSeen
  refine wpAny_bind ?_
  refine wpAny_forIn_list _ (fun rest r s' => r.1 = none ∧ s' = s ∧ ∀ y ∈ rest, ∃ k' c, y = Value.ref c ∧ IsN s.heap k' c) _ ?_ ?_ _ _ ⟨rfl, rfl, hy⟩
  · rintro v rest r s' ⟨hr, rfl, hall⟩
    obtain ⟨k', c, rfl, hc⟩ := hall v List.mem_cons_self
    have more : ∀ y ∈ rest, ∃ k' c, y = Value.ref c ∧ IsN s'.heap k' c := fun u hu' => hall u (List.mem_cons_of_mem _ hu')
    dsimp only
    by_cases hv : (b == c || (carriedByValue (.ref b) && carriedByValue (.ref c))) = true
    · refine wp_if_pos hv ?_; exact wpAny_pure ⟨rfl, rfl, more⟩
    · refine wp_if_neg hv ?_
      refine wpAny_bind (quiet_key k _ 8 s' hk.1 hk.2 A E _ ?_); simp only [Bool.not_true, Bool.false_eq_true, if_false]
      refine wpAny_bind (quiet_key k' _ 8 s' hc.1 hc.2 A E _ ?_); simp only [Bool.not_true, Bool.false_eq_true, if_false]
      refine wpAny_bind (ofAClass_no 8 k _ s' _ hk.1 hk.2 ?_); simp only [Bool.false_eq_true, if_false]
      refine wpAny_bind (ofAClass_no 8 k' _ s' _ hc.1 hc.2 ?_); simp only [Bool.false_eq_true, if_false]
      exact wpAny_pure ⟨rfl, rfl, more⟩
  · rintro ⟨r1, r2⟩ s' ⟨hr, rfl, _⟩
    simp only at hr
    subst hr
    exact wpAny_pure h
theorem eqB_key {x y : NK} {a b : Addr} {Q : Bool → Shared → Prop} (hu : A.units + 8 < cLine) (hx : IsN s.heap x a) (hy : IsN s.heap y b) (h : Q (decide (x = y)) s) : wpAny (model P w) A (eqBool (.ref a) (.ref b)) Q E s :=
  eqAt_key x y A s _ _ hx.1 hy.1 (by have := hx.2; have := hy.2; omega) _ _ _ _ (by rw [← NestedKey.decide_eq]; exact h)
def rowsN (w : World) (L : List (Addr × NK)) : List (Int × Value) := L.map fun p => (hN w p.2, Value.ref p.1)
theorem rowsN_len {L : List (Addr × NK)} {es : Array (Int × Value)} (h : es.toList = rowsN w L) : es.size = L.length := by
  have := congrArg List.length h
  rwa [rowsN, Array.length_toList, List.length_map] at this
theorem rowsN_at {L : List (Addr × NK)} {es : Array (Int × Value)} (h : es.toList = rowsN w L) {i : Nat} {p : Addr × NK} (e : L[i]? = some p) : es[i]? = some (hN w p.2, Value.ref p.1) := by
  rw [← Array.getElem?_toList, h, rowsN, List.getElem?_map, e]; rfl
structure SetN (w : World) (h : Heap) (a : Addr) (L : List (Addr × NK)) (es : Array (Int × Value)) (ep : Nat) (t : SetTable) : Prop where
  ob : ∃ o, h.get? a = some o ∧ o.ExactSet ∧ o.data = .set es ep t
  rows : es.toList = rowsN w L
  tab : TabOk t (L.map fun p => hN w p.2)
  nd : (L.map (·.2)).Nodup
  is : ∀ p ∈ L, IsN h p.2 p.1
  led : w.params.followText "set-order" = true ∨ t.led = true
  room : L.length * 5 < t.mask * 3
  few : L.length < 64
variable {a : Addr} {L : List (Addr × NK)} {es : Array (Int × Value)} {ep : Nat} {t : SetTable}
theorem fits_of {hs : List Int} (T : TabOk t hs) (e : es.size = hs.length) (hl : hs.length ≤ t.mask) : t.fits es.size = true := by
  have h1 := T.sz
  unfold SetTable.fits SetTable.fill
  rw [T.dm, Bool.and_eq_true, beq_iff_eq, decide_eq_true_eq]
  show t.place.size = es.size ∧ t.place.size + 0 ≤ t.mask
  omega
theorem SetN.fits (R : SetN w s.heap a L es ep t) : t.fits es.size = true := fits_of R.tab (by rw [List.length_map]; exact rowsN_len R.rows) (by rw [List.length_map]; have := R.room; omega)
theorem gw_of {hs : List Int} (T : TabOk t hs) : ¬ t.gaveWay = true := by unfold SetTable.gaveWay; rw [mask_odd T.mok]; decide
theorem probe_calm (m : Nat) : ∀ (n : Nat) (p : SetTable.Probe), p.dummy = none → (nth m p n).dummy = none
  | 0, _, h => h
  | n + 1, p, h => probe_calm m n (adv m p) (by unfold adv; split <;> exact h)
abbrev atN (m : Nat) (h : Int) (c : Nat) : SetTable.Probe := nth m (runAt m (SetTable.bits h % (m + 1)) (SetTable.bits h)) c
/-- the search from the c-th step of the way on; K: the first free step -/
theorem searchN (R : SetN w s.heap a L es ep t) {x : Addr} {k : NK} (hx : IsN s.heap k x) (hu : A.units + 8 < cLine) {K : Nat} (hKf : K < 10 * SetTable.turns t.mask) (hK : way t.mask (hN w k) K ∉ t.place.toList) (hKb : ∀ c, c < K → way t.mask (hN w k) c ∈ t.place.toList)
    {Q : SetFound → Shared → Prop} (hin : k ∈ L.map (·.2) → Q (.there none) s) (hout : k ∉ L.map (·.2) → Q (.free (way t.mask (hN w k) K) false) s) :
    ∀ (f c : Nat) (stand : Option SetTable.Probe), stand.getD (t.probeStart (hN w k)) = atN t.mask (hN w k) c → c ≤ K → K - c < f → (∀ (i : Nat) p, L[i]? = some p → p.2 = k → ∃ c', c ≤ c' ∧ c' < K ∧ t.place.toList[i]? = some (way t.mask (hN w k) c')) →
      wpAny (model P w) A (setSearchFrom a (.ref x) (hN w k) true f stand) Q E s := by
  intro f
  induction f with
  | zero => intro c stand _ _ hf; exact absurd hf (Nat.not_lt_zero _)
  | succ f ih =>
    intro c stand hst hc hf hre
    obtain ⟨o, ho, hex, hd⟩ := R.ob
    generalize hH : hN w k = hk at *
    have shift : ∀ q, nth t.mask (atN t.mask hk c) q = atN t.mask hk (c + q) := fun q => (nth_add t.mask c _ q).symm
    have wayE : ∀ q, (nth t.mask (atN t.mask hk c) q).j = way t.mask hk (c + q) := fun q => congrArg SetTable.Probe.j (shift q)
    have look : ∀ (i : Nat) p, L[i]? = some p → (fun i => (es[i]?.map (·.1)).getD 0) i = hN w p.2 := fun i p hp => by show (es[i]?.map (·.1)).getD 0 = _; rw [rowsN_at R.rows hp]; rfl
    rw [setSearchFrom_succ]
    refine wpAny_bind (wpAny_setState_of ho hd R.fits ?_); dsimp only; refine wp_if_neg (gw_of R.tab) ?_
    try refine wpAny_bind (wpAny_pure ?_)
    rcases go_spec t R.tab.ris R.tab.dm (fun i => (es[i]?.map (·.1)).getD 0) hk (10 * SetTable.turns t.mask) (K - c) (atN t.mask hk c) (probe_calm t.mask c _ rfl) (by omega) (fun q hq => by rw [wayE]; exact hKb (c + q) (by omega)) (by rw [wayE, show c + (K - c) = K by omega]; exact hK) with ⟨q, i, hq, hi, hh, hno, hpr⟩ | ⟨hno, hpr⟩
    · have found : t.probe (fun i => (es[i]?.map (·.1)).getD 0) hk (stand.getD (t.probeStart hk)) = some (.candidate (way t.mask hk (c + q)) i (atN t.mask hk (c + (q + 1)))) := by rw [hst, ← wayE, ← shift]; exact hpr
      rw [found]; dsimp only
      rw [wayE] at hi
      have inL : i < L.length := by
        have h1 := (List.getElem?_eq_some_iff.mp hi).1
        have h2 := R.tab.sz
        rw [List.length_map] at h2; rw [Array.length_toList] at h1; omega
      obtain ⟨p, hp⟩ : ∃ p, L[i]? = some p := ⟨L[i], List.getElem?_eq_getElem inL⟩
      have hmem : p ∈ L := List.mem_of_getElem? hp
      have live : t.slot (way t.mask hk (c + q)) = .live i := slot_live R.tab.ris hi
      have rest : wpAny (model P w) A (searchRest a (.ref x) hk true f es t (way t.mask hk (c + q)) i (atN t.mask hk (c + (q + 1)))) Q E s := by
        unfold searchRest
        rw [rowsN_at R.rows hp]; dsimp only
        refine wpAny_bind (wpAny_holding (eqB_key hu (R.is p hmem) hx ?_))
        refine wpAny_bind (wpAny_setState_of ho hd R.fits ?_); dsimp only
        by_cases hkk : p.2 = k
        · refine wp_if_pos (by simp [hkk]) ?_; exact wpAny_pure (hin (List.mem_map.mpr ⟨p, hmem, hkk⟩))
        · refine wp_if_neg (by simp [hkk]) ?_
          try refine wpAny_bind (wpAny_pure ?_)
          rw [sameMem]; dsimp only
          simp only [if_true, live, rowsN_at R.rows hp]
          refine wpAny_bind (wpAny_isSame_ref_self (wpAny_bind (wpAny_pure ?_)))
          simp only [if_true]
          refine wp_if_neg (by simp [hkk]) ?_
          refine ih (c + (q + 1)) _ rfl (by omega) (by omega) fun i0 p0 h0 hk0 => ?_
          obtain ⟨c', a1, a2, a3⟩ := hre i0 p0 h0 hk0
          refine ⟨c', ?_, a2, a3⟩
          rcases Nat.lt_or_ge c' (c + q) with z | z
          · exact absurd ((look i0 p0 h0).trans (by rw [hk0]; exact hH)) (fun e => hno (c' - c) i0 (by omega) (by rw [wayE, show c + (c' - c) = c' by omega]; exact a3) e)
          · rcases Nat.lt_or_ge (c + q) c' with y | y
            · omega
            · exfalso
              rw [Nat.le_antisymm y z] at a3
              have s0 := slot_live R.tab.ris a3
              rw [live] at s0; injection s0 with s0
              rw [← s0, hp] at h0
              exact hkk ((congrArg Prod.snd (Option.some.inj h0)).trans hk0)
      by_cases hl : t.led = true
      · refine wp_if_neg (by simp [hl]) ?_
        try refine wpAny_bind (wpAny_pure ?_)
        exact rest
      · refine wp_if_pos (by simp [hl]) ?_
        refine wpAny_bind (seen_no hx (fun y hy => ?_) ?_)
        · obtain ⟨e, he, ee⟩ := List.mem_map.mp hy
          have he2 : e ∈ es.toList := by
            have : e ∈ es ∧ e.1 = hk := by simpa using he
            simpa using this.1
          rw [R.rows] at he2
          obtain ⟨p2, hp2, e2⟩ := List.mem_map.mp he2
          exact ⟨p2.2, p2.1, by rw [← ee, ← e2], R.is p2 hp2⟩
        · refine wp_if_neg (by decide) ?_
          try refine wpAny_bind (wpAny_pure ?_)
          exact rest
    · have free : t.probe (fun i => (es[i]?.map (·.1)).getD 0) hk (stand.getD (t.probeStart hk)) = some (.empty (way t.mask hk K) none) := by
        rw [hst, show way t.mask hk K = (nth t.mask (atN t.mask hk c) (K - c)).j by rw [wayE, show c + (K - c) = K by omega]]; exact hpr
      rw [free]; dsimp only
      refine wpAny_pure (hout fun hm => ?_)
      obtain ⟨p0, h0, hk0⟩ := List.mem_map.mp hm
      obtain ⟨i0, h00⟩ := List.getElem?_of_mem h0
      obtain ⟨c', a1, a2, a3⟩ := hre i0 p0 h00 hk0
      exact hno (c' - c) i0 (by omega) (by rw [wayE, show c + (c' - c) = c' by omega]; exact a3) ((look i0 p0 h00).trans (by rw [hk0]; exact hH))
theorem searchN_at (R : SetN w s.heap a L es ep t) {x : Addr} {k : NK} (hx : IsN s.heap k x) (hu : A.units + 8 < cLine) {Q : SetFound → Shared → Prop} (hin : k ∈ L.map (·.2) → Q (.there none) s)
    (hout : ∀ K, k ∉ L.map (·.2) → way t.mask (hN w k) K ∉ t.place.toList → (∀ c, c < K → way t.mask (hN w k) c ∈ t.place.toList) → Q (.free (way t.mask (hN w k) K) false) s) : wpAny (model P w) A (setSearch a (.ref x) (hN w k) true) Q E s := by
  have room := R.room
  obtain ⟨K, hKf, hK, hKb⟩ := R.tab.first (by rw [List.length_map]; omega) (hN w k)
  have big : K < 100000 := by
    have : 10 * SetTable.turns t.mask ≤ 1420 := by unfold SetTable.turns; rcases R.tab.mok with e | e | e <;> omega
    omega
  unfold setSearch
  refine searchN R hx hu hKf hK hKb hin (fun hn => hout K hn hK hKb) 100000 0 none rfl (Nat.zero_le _) (by omega) fun i p hp hk => ?_
  have hi : (L.map fun p => hN w p.2)[i]? = some (hN w k) := by rw [List.getElem?_map, hp, ← hk]; rfl
  have hil : i < t.place.toList.length := by
    have h1 := (List.getElem?_eq_some_iff.mp hp).1
    have h2 := R.tab.sz
    rw [List.length_map] at h2; rw [Array.length_toList]; omega
  have hj := List.getElem?_eq_getElem hil
  obtain ⟨c, hc, e⟩ := R.tab.before hK hi hj
  exact ⟨c, Nat.zero_le _, hc, by rw [hj, e]⟩
theorem orderN (es : Array (Int × Value)) (order : Array Nat) (hr : es.toList = rowsN w L) (hp : order.toList.Perm (List.range L.length)) :
    ∃ L2, (order.filterMap (es[·]?)).toList = rowsN w L2 ∧ L2.Perm L ∧ (L2.map fun p => hN w p.2) = order.toList.map fun i => (es.map (·.1)).getD i 0 := by
  have each : ∀ l : List Nat, (∀ i ∈ l, i < L.length) → l.filterMap (fun i => es[i]?) = rowsN w (l.filterMap fun i => L[i]?) ∧ ((l.filterMap fun i => L[i]?).map fun p => hN w p.2) = l.map fun i => (es.map (·.1)).getD i 0 := by
    intro l
    induction l with
    | nil => intro _; exact ⟨rfl, rfl⟩
    | cons i l ih =>
      intro hl
      have hi := List.getElem?_eq_getElem (hl i List.mem_cons_self)
      obtain ⟨e1, e2⟩ := ih fun j hj => hl j (List.mem_cons_of_mem _ hj)
      have he := rowsN_at hr hi
      refine ⟨by rw [List.filterMap_cons_some he, List.filterMap_cons_some hi, e1]; rfl, ?_⟩
      rw [List.filterMap_cons_some hi, List.map_cons, List.map_cons, e2]
      have e5 : (es.map (·.1))[i]? = some (hN w (L[i]'(hl i List.mem_cons_self)).2) := by rw [Array.getElem?_map, he]; rfl
      rw [show (es.map (·.1)).getD i 0 = hN w (L[i]'(hl i List.mem_cons_self)).2 by simp [Array.getD_eq_getD_getElem?, e5]]
  obtain ⟨e1, e2⟩ := each order.toList fun i hi => List.mem_range.mp (hp.mem_iff.mp hi)
  refine ⟨_, by first | (rw [Array.toList_filterMap]; exact e1) | simpa using e1, ?_, e2⟩
  have all : ∀ n, n ≤ L.length → (List.range n).filterMap (fun i => L[i]?) = L.take n := by
    intro n
    induction n with
    | zero => intro _; rfl
    | succ n ih =>
      intro hn
      rw [List.range_succ, List.filterMap_append, ih (Nat.le_of_lt hn), List.take_succ, List.filterMap_cons_some (List.getElem?_eq_getElem hn), List.getElem?_eq_getElem hn]; rfl
  have := hp.filterMap fun i => L[i]?
  rwa [all L.length (Nat.le_refl _), List.take_length] at this
theorem relayN {o : Obj} (ho : s.heap.get? a = some o) (hex : o.ExactSet) (hd : o.data = .set es ep t) (hrows : es.toList = rowsN w L) (T0 : TabOk t (L.map fun p => hN w p.2)) (hfl : L.length ≤ t.mask) (nd : (L.map (·.2)).Nodup) (is : ∀ p ∈ L, IsN s.heap p.2 p.1)
    (ld : w.params.followText "set-order" = true ∨ t.led = true) (few : L.length < 64) {wanted M : Nat} (hw : SetTable.sizeAbove wanted - 1 = M) (hM : MaskOk M) (hw2 : SetTable.sizeAbove wanted ≤ 128) (hn : L.length * 5 < M * 3) {Q : Unit → Shared → Prop}
    (hQ : ∀ h' L' es' ep' t', Heap.SameBut a s.heap h' → SetN w h' a L' es' ep' t' → L'.Perm L → Q () { s with heap := h' }) : wpAny (model P w) A (setRelay a wanted) Q E s := by
  have hsl := rowsN_len hrows
  obtain ⟨t', order, e, hp, T, em, el, ep', ed⟩ := relaid_ok t (hs := es.map (·.1)) (wanted := wanted) hw hM (by rw [Array.size_map, hsl]; omega)
  rw [Array.size_map, hsl] at hp
  obtain ⟨L2, r1, r2, r3⟩ := orderN es order hrows hp
  rw [← r3] at T
  have hs2 : (order.filterMap (es[·]?)).size = es.size := by rw [rowsN_len r1, r2.length_eq, hsl]
  rw [setRelay_eq]
  refine wpAny_bind (wpAny_setState_of ho hd (fits_of T0 (by rw [List.length_map]; exact hsl) (by rw [List.length_map]; exact hfl)) ?_); dsimp only
  refine wp_if_neg (by rw [sizeLine_eq]; omega) ?_
  try refine wpAny_bind (wpAny_pure ?_)
  rw [e]; dsimp only
  refine wpAny_bind ?_
  refine wp_if_neg (by rw [hs2]; simp) ?_
  try refine wpAny_bind (wpAny_pure ?_)
  refine wpAny_pure ?_
  dsimp only
  refine wpAny_storeSet_of ho hd ?_ (by rw [hs2, hsl, sizeLine_eq]; omega)
  have sb : Heap.SameBut a s.heap (s.heap.update a (Obj.putSet (order.filterMap (es[·]?)) t')) := Heap.SameBut.update ..
  exact hQ _ L2 (order.filterMap (es[·]?)) (ep + 1) t' sb ⟨⟨_, store_at ho hd, ⟨hex.1, hex.2.1, hex.2.2⟩, rfl⟩, r1, T, (r2.map (·.2)).nodup_iff.mpr nd, fun p hpm => (is p (r2.mem_iff.mp hpm)).same ho hd sb, by rw [el]; exact ld, by rw [r2.length_eq, em]; exact hn, by rw [r2.length_eq]; exact few⟩ r2
/-- a tuple is added -/
theorem addN (R : SetN w s.heap a L es ep t) {x : Addr} {k : NK} (hx : IsN s.heap k x) (hu : A.units + 8 < cLine) (hfew : L.length + 1 < 64) {Q : Bool → Shared → Prop}
    (hQ : ∀ b h' L' es' ep' t', Heap.SameBut a s.heap h' → SetN w h' a L' es' ep' t' → (k ∈ L.map (·.2) → L' = L) → (k ∉ L.map (·.2) → L'.Perm ((x, k) :: L)) → Q b { s with heap := h' }) : wpAny (model P w) A (setAddHashed a (.ref x) (hN w k)) Q E s := by
  obtain ⟨o, ho, hex, hd⟩ := R.ob
  have room := R.room
  unfold setAddHashed
  refine wpAny_holding ?_
  rw [show (100000 : Nat) = 99999 + 1 from rfl, setAddHashedIn_succ]
  refine wpAny_bind (wpAny_setState_of ho hd R.fits ?_); dsimp only
  refine wp_if_neg (by simp [byScan, Value.scannable]) ?_
  try refine wpAny_bind (wpAny_pure ?_)
  refine wpAny_bind (searchN_at R hx hu (fun hm => ?_) fun K hm hK hb => ?_)
  · dsimp only; exact wpAny_pure (hQ false s.heap L es ep t (Heap.SameBut.refl a s.heap) R (fun _ => rfl) fun z => absurd hm z)
  dsimp only
  refine wpAny_bind (wpAny_setState_of ho hd R.fits ?_); dsimp only
  obtain ⟨q1, q2, q3, q4, q5, q6, q7, q8, q9⟩ := R.tab.put hK hb
  generalize hpt : t.put (way t.mask (hN w k) K) = pt at q1 q3 q4 q5 q6 q7 q8 q9 ⊢
  obtain ⟨t1, p⟩ := pt
  dsimp only at q1 q3 q4 q5 q6 q7 q8 q9 ⊢
  subst q1
  have hin : (SetTable.insertAt es (SetTable.below t.place (way t.mask (hN w k) K)) (hN w k, Value.ref x)).toList = rowsN w (L.take (SetTable.below t.place (way t.mask (hN w k) K)) ++ (x, k) :: L.drop (SetTable.below t.place (way t.mask (hN w k) K))) := by
    rw [SetTable.toList_insertAt, R.rows]; unfold rowsN; rw [List.map_append, List.map_cons, List.map_take, List.map_drop]
  generalize hpp : SetTable.below t.place (way t.mask (hN w k) K) = p at q2 q3 hin ⊢
  have pm := put_perm L p (x, k)
  have hlen : (L.take p ++ (x, k) :: L.drop p).length = L.length + 1 := pm.length_eq
  have hhs : (L.take p ++ (x, k) :: L.drop p).map (fun p => hN w p.2) = (L.map fun p => hN w p.2).take p ++ hN w k :: (L.map fun p => hN w p.2).drop p := by rw [List.map_append, List.map_cons, List.map_take, List.map_drop]
  rw [← hhs] at q3
  have nd1 : ((L.take p ++ (x, k) :: L.drop p).map (·.2)).Nodup := (pm.map (·.2)).nodup_iff.mpr (by rw [List.map_cons]; exact List.nodup_cons.mpr ⟨hm, R.nd⟩)
  have hes := rowsN_len hin
  rw [hlen] at hes
  generalize SetTable.insertAt es p (hN w k, Value.ref x) = es1 at hin hes ⊢
  generalize L.take p ++ (x, k) :: L.drop p = L1 at pm hlen q3 nd1 hin
  -- whatever the table tells of its values
  have main : ∀ t2 : SetTable, TabOk t2 (L1.map fun p => hN w p.2) → t2.mask = t.mask → t2.fill = (L.map fun p => hN w p.2).length + 1 → (w.params.followText "set-order" = true ∨ t2.led = true) →
      wpAny (model P w) A (storeSet a es1 t2 >>= fun _ => if (!false && t2.tooFull) = true then setRelay a (SetTable.grown (es.size + 1)) >>= fun _ => pure true else pure true) Q E s := by
    intro t2 T2 em2 fill2 led2
    refine wpAny_bind (wpAny_storeSet_of ho hd ?_ (by rw [hes, sizeLine_eq]; omega))
    have sb : Heap.SameBut a s.heap (s.heap.update a (Obj.putSet es1 t2)) := Heap.SameBut.update ..
    have ho1 := store_at (es' := es1) (t' := t2) ho hd
    generalize s.heap.update a (Obj.putSet es1 t2) = h1 at sb ho1 ⊢
    have is1 : ∀ p ∈ L1, IsN h1 p.2 p.1 := fun p hp => by
      rcases List.mem_cons.mp (pm.mem_iff.mp hp) with e | hp
      · rw [e]; exact hx.same ho hd sb
      · exact (R.is p hp).same ho hd sb
    by_cases hf : t2.tooFull = true
    · refine wp_if_pos (by simp [hf]) ?_
      have hfull : (L.length + 1) * 5 ≥ t2.mask * 3 := by
        have h := hf
        unfold SetTable.tooFull at h
        rw [decide_eq_true_eq, fill2, List.length_map] at h
        exact h
      rw [rowsN_len R.rows]
      have two : (t.mask = 7 ∧ L.length = 4) ∨ (t.mask = 31 ∧ L.length = 18) := by
        rw [em2] at hfull
        rcases R.tab.mok with e | e | e
        · left; rw [e] at hfull room; exact ⟨e, by omega⟩
        · right; rw [e] at hfull room; exact ⟨e, by omega⟩
        · exfalso; rw [e] at hfull; omega
      have go : ∀ M, SetTable.sizeAbove (SetTable.grown (L.length + 1)) - 1 = M → MaskOk M → SetTable.sizeAbove (SetTable.grown (L.length + 1)) ≤ 128 → (L.length + 1) * 5 < M * 3 →
          wpAny (model P w) A (setRelay a (SetTable.grown (L.length + 1)) >>= fun _ => pure true) Q E { s with heap := h1 } := fun M x1 x2 x3 x4 => by
        refine wpAny_bind (relayN (s := { s with heap := h1 }) ho1 ⟨hex.1, hex.2.1, hex.2.2⟩ rfl hin T2 (by rw [hlen, em2]; rcases two with ⟨e, e2⟩ | ⟨e, e2⟩ <;> omega) nd1 is1 led2 (by rw [hlen]; exact hfew) x1 x2 x3 (by rw [hlen]; exact x4) fun h2 L2 es2 ep2 t2 sb2 R2 pm2 => ?_)
        exact wpAny_pure (hQ true h2 L2 es2 ep2 t2 (sb.trans sb2) R2 (fun z => absurd z hm) fun _ => pm2.trans pm)
      rcases two with ⟨_, e2⟩ | ⟨_, e2⟩
      · exact go 31 (by rw [e2, size_20]) (.inr (.inl rfl)) (by rw [e2, size_20]; decide) (by omega)
      · exact go 127 (by rw [e2, size_76]) (.inr (.inr rfl)) (by rw [e2, size_76]; decide) (by omega)
    · refine wp_if_neg (by simp [hf]) ?_
      refine wpAny_pure (hQ true h1 L1 es1 (ep + 1) t2 sb ⟨⟨_, ho1, ⟨hex.1, hex.2.1, hex.2.2⟩, rfl⟩, hin, T2, nd1, is1, led2, ?_, by rw [hlen]; exact hfew⟩ (fun z => absurd z hm) fun _ => pm)
      have h := hf
      unfold SetTable.tooFull at h
      rw [decide_eq_true_eq, fill2, List.length_map] at h
      rw [hlen]; omega
  have led1 : w.params.followText "set-order" = true ∨ t1.led = true := by rw [q5]; exact R.led
  have T2 : TabOk { t1 with plain := false } (L1.map fun p => hN w p.2) := ⟨q3.ris, q3.dm, q3.sz, q3.mok, q3.bd, q3.reach⟩
  by_cases hp : t1.plain = true
  · first
      | (refine wpAny_bind ?_; refine wp_if_pos hp ?_; refine hashBy_some 8 k _ s _ hx.1 fun b => ?_)
      | refine wp_if_pos hp (wpAny_bind (hashBy_some 8 k _ s _ hx.1 fun b => ?_))
    cases b with
    | true => simp only [if_true]; exact main t1 q3 q4 q9 led1
    | false => simp only [Bool.false_eq_true, if_false]; exact main { t1 with plain := false } T2 q4 q9 led1
  · first
      | (refine wpAny_bind ?_; refine wp_if_neg hp ?_; refine wpAny_pure ?_)
      | refine wp_if_neg hp (wpAny_bind (wpAny_pure ?_))
    simp only [if_true]
    exact main t1 q3 q4 q9 led1
end
end VL
set_option maxHeartbeats 4000000
namespace VL
open PySem PySem.Spec L2
open PyProof.Rows hiding St
open Sem (wp)
mutual
/-- may be sorted: no dict, no instance in it -/
def srtD : D → Bool
  | .non => true | .bl _ => true | .int _ => true | .str _ => true
  | .tup ds => srtL ds | .lst ds => srtL ds | .ro ds => srtL ds | .dct _ => false | .ref _ => false
def srtL : List D → Bool
  | [] => true
  | d :: ds => srtD d && srtL ds
end
section
variable {X : Cx} {pins : List (Addr × Obj)} {σ : L2.St} {H : Hp} {s : Shared} {G : Hp}
mutual
theorem nested_of (I : Inv X pins σ H s) (g : Same G H) : ∀ (d : D) {k : NK} {v : V} {u : Value}, keyN d = some k → Rp X.K G v d → RelV v u → NestedIs s.heap k u
  | .non, _, _, _, e, .non, r => by cases r; cases e; exact .none
  | .bl _, _, _, _, e, _, _ => by simp [keyN] at e
  | .int i, _, _, _, e, .int _, r => by obtain ⟨t, rfl⟩ := r; cases e; exact .int i t
  | .str x, _, _, _, e, .str _, r => by obtain ⟨t, rfl⟩ := r; cases e; exact .text x t
  | .tup ds, _, _, _, e, .tup h l, r => by
    cases r
    simp only [keyN, Option.map_eq_some_iff] at e
    obtain ⟨ks, e, rfl⟩ := e
    obtain ⟨its, rv, ⟨o, h1, h2, n, h3⟩, _⟩ := I.tuple (same_t g h)
    exact .tup h1 h2 h3 (nested_ofL I g ds e l rv)
  | .lst _, _, _, _, e, _, _ => by simp [keyN] at e
  | .ro _, _, _, _, e, _, _ => by simp [keyN] at e
  | .dct _, _, _, _, e, _, _ => by simp [keyN] at e
  | .ref _, _, _, _, e, _, _ => by simp [keyN] at e
theorem nested_ofL (I : Inv X pins σ H s) (g : Same G H) : ∀ (ds : List D) {ks : List NK} {vs : List V} {us : List Value}, keysN ds = some ks → RpL X.K G vs ds → Vals vs us → NestedAll s.heap ks us
  | [], _, _, _, e, .nil, r => by cases r; cases e; exact .nil
  | d :: ds, _, _, _, e, .cons h t, r => by
    cases r with
    | cons r1 r2 =>
      simp only [keysN] at e
      split at e
      · rename_i k ks e1 e2
        cases e
        exact .cons (nested_of I g d e1 h r1) (nested_ofL I g ds e2 t r2)
      · cases e
end
mutual
theorem reads_of (I : Inv X pins σ H s) (g : Same G H) : ∀ (d : D) {v : V} {u : Value}, srtD d = true → Rp X.K G v d → RelV v u → ∃ as, Reads s.heap u (pyd d) as
  | .non, _, _, _, .non, r => by cases r; exact ⟨_, .none⟩
  | .bl b, _, _, _, .bl _, r => by cases r; exact ⟨_, .bool b⟩
  | .int i, _, _, _, .int _, r => by obtain ⟨t, rfl⟩ := r; exact ⟨_, .int i t⟩
  | .str x, _, _, _, .str _, r => by obtain ⟨t, rfl⟩ := r; exact ⟨_, .str x t⟩
  | .tup ds, _, _, e, .tup h l, r => by
    cases r
    obtain ⟨its, rv, ⟨o, h1, h2, n, h3⟩, _⟩ := I.tuple (same_t g h)
    obtain ⟨as, h4⟩ := reads_ofL I g ds (by simpa [srtD] using e) l rv
    exact ⟨_, .tuple h1 h2 h3 h4⟩
  | .lst ds, _, _, e, .lst h l, r => by
    cases r
    obtain ⟨its, rv, pl, _⟩ := I.list (SqL.of (g _ _ h))
    obtain ⟨o, h1, h2, n, h3⟩ := pl.isList
    obtain ⟨as, h4⟩ := reads_ofL I g ds (by simpa [srtD] using e) l rv
    exact ⟨_, .list h1 h2 h3 h4⟩
  | .ro ds, _, _, e, .ro h l, r => by
    cases r
    obtain ⟨its, rv, pl, _⟩ := I.list (g.seq h)
    obtain ⟨o, h1, h2, n, h3⟩ := pl.isList
    obtain ⟨as, h4⟩ := reads_ofL I g ds (by simpa [srtD] using e) l rv
    exact ⟨_, .list h1 h2 h3 h4⟩
  | .dct _, _, _, e, _, _ => by simp [srtD] at e
  | .ref _, _, _, e, _, _ => by simp [srtD] at e
theorem reads_ofL (I : Inv X pins σ H s) (g : Same G H) : ∀ (ds : List D) {vs : List V} {us : List Value}, srtL ds = true → RpL X.K G vs ds → Vals vs us → ∃ as, ReadsAll s.heap us (pydL ds) as
  | [], _, _, _, .nil, r => by cases r; exact ⟨_, .nil⟩
  | d :: ds, _, _, e, .cons h t, r => by
    cases r with
    | cons r1 r2 =>
      have e' : srtD d = true ∧ srtL ds = true := by simpa [srtL] using e
      obtain ⟨a1, q1⟩ := reads_of I g d e'.1 h r1
      obtain ⟨a2, q2⟩ := reads_ofL I g ds e'.2 t r2
      exact ⟨_, .cons q1 q2⟩
end
end
def dle (a b : D) : Bool := PySem.W.dataLe false pyd a b
/-- what may be sorted -/
structure Srt (ds : List D) : Prop where
  flat : ∀ d ∈ ds, srtD d = true
  alike : PySem.W.AllAlike (ds.map pyd)
  key : PySem.W.Sortable (ds.map pyd)
  dep : ∀ d ∈ ds, (pyd d).depth ≤ 8
theorem Srt.perm {ds ds' : List D} (h : Srt ds) (p : ds'.Perm ds) : Srt ds' where
  flat := fun d hd => h.flat d (p.mem_iff.mp hd)
  alike := fun d hd d' hd' => h.alike d ((p.map pyd).mem_iff.mp hd) d' ((p.map pyd).mem_iff.mp hd')
  key := h.key.imp (fun z d hd => z d ((p.map pyd).mem_iff.mp hd)) (fun z d hd => z d ((p.map pyd).mem_iff.mp hd))
  dep := fun d hd => h.dep d (p.mem_iff.mp hd)
/-- a list's items in a row -/
inductive Tri (K : PySem.W.Frag) (G : Hp) : List Value → List (V × D) → Prop
  | nil : Tri K G [] []
  | cons {u : Value} {us : List Value} {v : V} {d : D} {bs : List (V × D)} (h1 : Rp K G v d) (h2 : RelV v u) (t : Tri K G us bs) : Tri K G (u :: us) ((v, d) :: bs)
theorem Tri.each {K : PySem.W.Frag} {G : Hp} : ∀ {us : List Value} {bs : List (V × D)}, Tri K G us bs → PySem.W.EachIs (fun u b => Rp K G b.1 b.2 ∧ RelV b.1 u) us bs
  | _, _, .nil => .nil
  | _, _, .cons h1 h2 t => .cons ⟨h1, h2⟩ t.each
theorem Tri.of {K : PySem.W.Frag} {G : Hp} : ∀ {us : List Value} {bs : List (V × D)}, PySem.W.EachIs (fun u b => Rp K G b.1 b.2 ∧ RelV b.1 u) us bs → Vals (bs.map (·.1)) us ∧ RpL K G (bs.map (·.1)) (bs.map (·.2))
  | _, _, .nil => ⟨.nil, .nil⟩
  | _, _, .cons h t => ⟨.cons h.2 (Tri.of t).1, .cons h.1 (Tri.of t).2⟩
theorem each_imp {α β : Type} {R R' : α → β → Prop} : ∀ {us : List α} {bs : List β}, (∀ u b, b ∈ bs → R u b → R' u b) → PySem.W.EachIs R us bs → PySem.W.EachIs R' us bs
  | _, _, _, .nil => .nil
  | _, _, h, .cons a t => .cons (h _ _ List.mem_cons_self a) (each_imp (fun u b hb => h u b (List.mem_cons_of_mem _ hb)) t)
theorem sort_snd (bs : List (V × D)) : (bs.mergeSort (PySem.W.dataLe false fun b => pyd b.2)).map (·.2) = (bs.map (·.2)).mergeSort dle := by
  refine List.map_mergeSort fun a _ b _ => ?_
  rfl
/-- a new list made into what R says -/
theorem made_of {K : PySem.W.Frag} {R : List D → Store → (D → Store → Prop) → Prop} (hR : RecR R) {G : Hp} {S : Store} {H : Hp} {p : Addr} {ys : List V} {ds : List D} {Q : D → Store → Prop} (vw : View K G S H) (hp : H p = none) (rl : RpL K G ys ds) (q : R ds S Q) :
    ∃ S' G' d, Q d S' ∧ Aft K G S H S' (upd H p (.lst ys)) G' ∧ Rp K G' (.ref p) d := by
  have n0 := vw.none hp
  have aj := (Aft.refl vw).junk (u := .lst ys) hp n0.2 n0.1
  obtain ⟨S2, G2, d, qd, v', gg, rd, ot⟩ := hR K G S _ p ys ds Q aj.vw upd_same n0.2 n0.1 rl q
  refine ⟨S2, G2, d, qd, ⟨fun b ob hb eb => ?_, gg, v'⟩, rd⟩
  have hbp : b ≠ p := ne_of_none eb hp
  exact ⟨by rw [upd_ne hbp]; exact eb, by rw [(ot b hbp).1]; exact hb, (ot b hbp).2⟩
end VL
set_option maxHeartbeats 4000000
namespace VL
open PySem PySem.Spec L2
open PyProof.Rows hiding St
open Sem (wp)
mutual
theorem keyN_inj : ∀ (x y : D) {k : NK}, keyN x = some k → keyN y = some k → x = y
  | .non, y, k, h1, h2 => by cases h1; cases y <;> simp_all [keyN]
  | .int _, y, k, h1, h2 => by cases h1; cases y <;> simp_all [keyN]
  | .str _, y, k, h1, h2 => by cases h1; cases y <;> simp_all [keyN]
  | .tup ds, y, k, h1, h2 => by
    simp only [keyN, Option.map_eq_some_iff] at h1
    obtain ⟨ks, e1, rfl⟩ := h1
    cases y with
    | tup es =>
      simp only [keyN, Option.map_eq_some_iff] at h2
      obtain ⟨ks2, e2, e3⟩ := h2
      cases e3
      rw [keysN_inj ds es e1 e2]
    | _ => simp [keyN] at h2
  | .bl _, _, _, h, _ => by simp [keyN] at h
  | .lst _, _, _, h, _ => by simp [keyN] at h
  | .ro _, _, _, h, _ => by simp [keyN] at h
  | .dct _, _, _, h, _ => by simp [keyN] at h
  | .ref _, _, _, h, _ => by simp [keyN] at h
theorem keysN_inj : ∀ (xs ys : List D) {ks : List NK}, keysN xs = some ks → keysN ys = some ks → xs = ys
  | [], ys, ks, h1, h2 => by
    cases h1
    cases ys with
    | nil => rfl
    | cons y ys => simp only [keysN] at h2; split at h2 <;> cases h2
  | x :: xs, ys, ks, h1, h2 => by
    simp only [keysN] at h1
    split at h1
    · rename_i k ks' e1 e2
      cases h1
      cases ys with
      | nil => simp [keysN] at h2
      | cons y ys =>
        simp only [keysN] at h2
        split at h2
        · rename_i k2 ks2 f1 f2
          cases h2
          rw [keyN_inj x y e1 f1, keysN_inj xs ys e2 f2]
        · cases h2
    · cases h1
end
theorem perm_map {α β : Type} (f : β → α) {vs ws : List α} (h : vs.Perm ws) : ∀ l : List β, ws = l.map f → ∃ l' : List β, l'.Perm l ∧ vs = l'.map f := by
  induction h with
  | nil => intro l e; exact ⟨[], by cases l <;> simp_all, rfl⟩
  | cons x _ ih =>
    intro l e
    cases l with
    | nil => simp at e
    | cons b l =>
      simp only [List.map_cons, List.cons.injEq] at e
      obtain ⟨l', p, q⟩ := ih l e.2
      exact ⟨b :: l', p.cons b, by rw [List.map_cons, q, e.1]⟩
  | swap x y l0 =>
    intro l e
    match l, e with
    | b :: c :: l, e =>
      simp only [List.map_cons, List.cons.injEq] at e
      exact ⟨c :: b :: l, List.Perm.swap _ _ _, by rw [List.map_cons, List.map_cons, e.1, e.2.1, e.2.2]⟩
  | trans _ _ ih1 ih2 =>
    intro l e
    obtain ⟨l2, p2, e2⟩ := ih2 l e
    obtain ⟨l1, p1, e1⟩ := ih1 l2 e2
    exact ⟨l1, p1.trans p2, e1⟩
structure SetN0 (w : World) (h : Heap) (a : Addr) (L : List (Addr × NK)) : Prop where
  ex : ∃ (es : Array (Int × Value)) (ep : Nat) (t : SetTable), (∃ o, h.get? a = some o ∧ o.ExactSet ∧ o.data = .set es ep t) ∧ es.toList = rowsN w L ∧ TabOk t (L.map fun p => hN w p.2) ∧ (L.map (·.2)).Nodup ∧
    (w.params.followText "set-order" = true ∨ t.led = true) ∧ L.length * 5 < t.mask * 3 ∧ L.length < 64
def SetNO (w : World) (a : Addr) (L : List (Addr × NK)) : HO := .ext fun h => SetN0 w h a L
theorem SetN.n0 {w : World} {h : Heap} {a : Addr} {L : List (Addr × NK)} {es : Array (Int × Value)} {ep : Nat} {t : SetTable} (R : SetN w h a L es ep t) : SetN0 w h a L := ⟨es, ep, t, R.ob, R.rows, R.tab, R.nd, R.led, R.room, R.few⟩
theorem SetN0.full {w : World} {h : Heap} {a : Addr} {L : List (Addr × NK)} (R : SetN0 w h a L) (ht : ∀ p ∈ L, IsN h p.2 p.1) : ∃ es ep t, SetN w h a L es ep t := by
  obtain ⟨es, ep, t, h1, h2, h3, h4, h5, h6, h7⟩ := R.ex
  exact ⟨es, ep, t, h1, h2, h3, h4, ht, h5, h6, h7⟩
theorem setNO_new {P : Program} {w : World} {H : Hp} {h : Heap} {a : Addr} {L : List (Addr × NK)} (R : SetN0 w h a L) : ObjOk P w H h a (SetNO w a L) := by
  have ⟨es, ep, t, ⟨o, ho, r⟩, q⟩ := R.ex
  refine ⟨R, ⟨o, ho⟩, fun h1 h2 p k => ?_⟩
  have ⟨es', ep', t', ⟨o', ho', r'⟩, q'⟩ := SetN0.ex p
  exact ⟨es', ep', t', ⟨o', k o' ho', r'⟩, q'⟩
theorem setN_fresh {w : World} {h : Heap} {a : Addr} (ho : h.get? a = some (freshSet w)) : SetN0 w h a [] := by
  refine ⟨#[], 0, .fresh 0 0 (!w.params.followText "set-order"), ⟨_, ho, ⟨rfl, rfl, rfl⟩, rfl⟩, rfl, ⟨List.Pairwise.nil, rfl, rfl, .inl rfl, fun x hx => (by cases hx), fun i h j hi => (by simp at hi)⟩, List.nodup_nil, ?_, (show 0 * 5 < 7 * 3 by decide), (show 0 < 64 by decide)⟩
  show _ ∨ (!w.params.followText "set-order") = true
  cases w.params.followText "set-order"
  · exact .inr rfl
  · exact .inl rfl
section
variable {X : Cx}
theorem acc_setN : PAcc X (newSet (.type "set")) (fun D => SetNO X.w D []) := ⟨fun pins s σ H Q I h => by
  refine newSet_known ?_
  exact h s.heap.objs.size _ (I.hok.fresh (Nat.le_refl _)) (Nat.le_refl _) (by rw [Heap.size_push]; exact Nat.le_succ _) (fun b u e => Heap.get?_push_of_some _ e) (I.laid (t' := s.toks) (fun b o e => Heap.get?_push_of_some _ e) (Nat.le_refl _) (setNO_new (setN_fresh (Heap.get?_push_size _ rfl))))⟩
/-- a key: a tuple of simple things -/
def KeyT (y : D) : Prop := ∃ ks, keyN y = some (.tup ks) ∧ (NestedKey.tup ks).depth ≤ 8
def kOf (y : D) : NK := (keyN y).getD .none
theorem KeyT.eq {y : D} (h : KeyT y) : keyN y = some (kOf y) ∧ (kOf y).depth ≤ 8 := by
  obtain ⟨ks, e, d⟩ := h
  unfold kOf
  rw [e]; exact ⟨rfl, d⟩
theorem KeyT.tup {y : D} (h : KeyT y) : ∃ ds, y = .tup ds := by
  obtain ⟨ks, e, _⟩ := h
  cases y <;> first | exact ⟨_, rfl⟩ | simp [keyN] at e
theorem KeyT.ref {K : PySem.W.Frag} {G : Hp} {v : V} {y : D} (h : KeyT y) (r : Rp K G v y) : ∃ a, v = .ref a := by
  obtain ⟨ds, rfl⟩ := h.tup
  cases r; exact ⟨_, rfl⟩
abbrev keyed (T : List (Addr × D)) : List (Addr × NK) := T.map fun t => (t.1, kOf t.2)
def MemT (K : PySem.W.Frag) (G : Hp) (T : List (Addr × D)) : Prop := ∀ t ∈ T, Rp K G (.ref t.1) t.2 ∧ KeyT t.2
theorem MemT.mono {K : PySem.W.Frag} {G G' : Hp} {T : List (Addr × D)} (g : Same G G') (h : MemT K G T) : MemT K G' T := fun t ht => ⟨(h t ht).1.mono g, (h t ht).2⟩
theorem MemT.is {pins : List (Addr × Obj)} {σ : L2.St} {H : Hp} {s : Shared} {G : Hp} {T : List (Addr × D)} (I : Inv X pins σ H s) (g : Same G H) (h : MemT X.K G T) : ∀ p ∈ keyed T, IsN s.heap p.2 p.1 := by
  intro p hp
  obtain ⟨t, ht, rfl⟩ := List.mem_map.mp hp
  obtain ⟨r, k⟩ := h t ht
  exact ⟨nested_of I g t.2 k.eq.1 r rfl, k.eq.2⟩
def tLeafS (K : PySem.W.Frag) (w : World) (te : TE) (d : Addr) : TB := fun σ H Q => te σ H fun v H4 => ∃ (G : Hp) (y : D) (x : Addr) (T : List (Addr × D)), v = .ref x ∧ Same G H4 ∧ Rp K G v y ∧ KeyT y ∧ H4 d = some (SetNO w d (keyed T)) ∧ MemT K G T ∧ T.length + 1 < 64 ∧
  ∀ L', (kOf y ∈ (keyed T).map (·.2) → L' = keyed T) → (kOf y ∉ (keyed T).map (·.2) → L'.Perm (keyed ((x, y) :: T))) → Q (upd H4 d (SetNO w d L'))
theorem in_set {elt : Expr} {gs : List Comprehension} {sc : Scope} {p : Pos} {te : TE} {d : Addr} (hx : ∀ u s, ¬ X.xe u s) (hu : X.A.units + 64 < cLine) (he : PE X elt te) : PIn X (fun m => emitOf (.SetComp elt gs sc p) (.ref d) X.env >>= fun _ => m) [] (tLeafS X.K X.w te d) := by
  refine ⟨fun pins s σ H Q I h more Qf Ef hmore => ?_⟩
  unfold emitOf
  refine wpAny_bind (wpAny_bind (thnX hx (he.run pins s σ H _ I h) fun v s1 ⟨y', H1, I1, r1, G, y, x, T, ev, g, ry, ky, hd, hm, few, q⟩ => ?_))
  subst ev
  cases r1
  refine wpAny_bind (wpAny_standAt (wpAny_bind ?_))
  have R0 : SetN0 X.w s1.heap d (keyed T) := (I1.hok d _ hd).1
  obtain ⟨es, ep, t, R⟩ := R0.full (hm.is I1 g)
  obtain ⟨o, ho, hex, hdd⟩ := R.ob
  have isx : IsN s1.heap (kOf y) x := ⟨nested_of I1 g y ky.eq.1 ry rfl, ky.eq.2⟩
  refine wpAny_call_entry F.slot_set_add ⟨o, ho, hex.1⟩ F.entry_set_add ?_ (F.args_set_add_2 _ _)
  unfold Builtin.«set.add» Builtin.Frozenset.oneOther
  simp only [List.isEmpty_nil, bind_assoc]
  unfold Builtin.Frozenset.addrOf setAdd
  refine wpAny_bind (wpAny_pure ?_)
  try dsimp only
  refine wpAny_bind (wpAny_pure ?_)
  try dsimp only
  refine wpAny_bind ?_
  refine wpAny_holding ?_
  have dx := isx.2
  refine wpAny_bind (pyHash_key (kOf y) _ _ s1 _ isx.1 (by simp only [Around.in1_units]; omega) ?_)
  refine addN (s := { s1 with toks := s1.toks + (kOf y).draws }) R isx (by simp only [Around.in1_units]; omega) (by rw [List.length_map]; exact few) fun b h' L' es' ep' t' sb R' e1 e2 => ?_
  refine wpAny_pure ⟨_, rfl, wpAny_pure ?_⟩
  have he : ∃ u, h'.get? d = some u := by
    obtain ⟨o, ho, _⟩ := R'.ob
    exact ⟨o, ho⟩
  refine hmore _ (upd H1 d (SetNO X.w d L')) (I1.write (e := d) (t' := s1.toks + (kOf y).draws) (by rw [hd]; trivial) (.inl rfl) (fun b u hb hu => (sb.2 b hb).trans hu) he (setNO_new R'.n0)) (q L' e1 e2)
def relS (K : PySem.W.Frag) (w : World) (d : Addr) : Hp → List D → HO → Prop := fun G acc o => ∃ T : List (Addr × D), o = SetNO w d (keyed T) ∧ (T.map (·.2)).Perm acc ∧ MemT K G T
theorem relS_mono {K : PySem.W.Frag} {w : World} {d : Addr} {G G' : Hp} {a : List D} {o : HO} (g : Same G G') (h : relS K w d G a o) : relS K w d G' a o := let ⟨T, e, p, m⟩ := h; ⟨T, e, p, m.mono g⟩
def bSet (me : VE) : VB (List D) := fun ρ S acc Q => acc.length < 63 ∧ me ρ S fun y S' => KeyT y ∧ (y ∈ acc → Q acc S') ∧ (y ∉ acc → Q (acc ++ [y]) S')
theorem bSet_e {me : VE} {ρ : Sl} {S : Store} {acc : List D} {Q : List D → Store → Prop} : bSet me ρ S acc Q = (acc.length < 63 ∧ me ρ S fun y S' => KeyT y ∧ (y ∈ acc → Q acc S') ∧ (y ∉ acc → Q (acc ++ [y]) S')) := rfl
theorem keyed_mem {K : PySem.W.Frag} {G : Hp} {T : List (Addr × D)} {y : D} (m : MemT K G T) (ky : KeyT y) : kOf y ∈ (keyed T).map (·.2) ↔ y ∈ T.map (·.2) := by
  simp only [List.map_map, List.mem_map, Function.comp]
  constructor
  · rintro ⟨t, ht, e⟩
    have h1 := (m t ht).2.eq.1
    rw [e] at h1
    exact ⟨t, ht, keyN_inj _ _ h1 ky.eq.1⟩
  · rintro ⟨t, ht, rfl⟩
    exact ⟨t, ht, rfl⟩
theorem b_set {elt : Expr} {gs : List Comprehension} {sc : Scope} {p : Pos} {me : VE} {d : Addr} (hx : ∀ u s, ¬ X.xe u s) (hu : X.A.units + 64 < cLine) (he : PE X elt (LE X.K me)) :
    PIn X (fun m => emitOf (.SetComp elt gs sc p) (.ref d) X.env >>= fun _ => m) [] (LB X.K (relS X.K X.w d) d (bSet me)) := by
  refine PIn.imp (in_set hx hu he) fun σ H Q' ⟨G0, S0, H0, ρ, S, G, acc, o, Q, hd0, a0, re, hH, ⟨T, eo, pm, m⟩, hS, hG, hm, k⟩ => ?_
  subst eo
  refine ⟨ρ, S, G, _, a0.vw, re, hm.2, fun y S1 v H1 G1 a1 r1 ⟨ky, q1, q2⟩ => ?_⟩
  obtain ⟨h1, s1, g1⟩ := a1.fr d _ hS hH
  have gd : G1 d = none := g1.trans hG
  obtain ⟨x, rfl⟩ := ky.ref r1
  have m1 := m.mono a1.gg
  have len : T.length = acc.length := by rw [← pm.length_eq, List.length_map]
  refine ⟨G1, y, x, T, rfl, a1.vw.gh, r1, ky, h1, m1, by have := hm.1; rw [len]; omega, fun L' e1 e2 => ?_⟩
  have go : ∀ T' : List (Addr × D), L' = keyed T' → (MemT X.K G1 T') → ∀ acc', (T'.map (·.2)).Perm acc' → Q acc' S1 → Q' (upd H1 d (SetNO X.w d L')) := fun T' e mm acc' pp q => by
    subst e
    exact k _ S1 _ G1 _ a1.gg ((a0.trans a1).junk hd0 s1 gd) upd_same ⟨T', rfl, pp, mm⟩ s1 gd q
  by_cases hin : kOf y ∈ (keyed T).map (·.2)
  · exact go T (e1 hin) m1 acc pm (q1 (pm.mem_iff.mp ((keyed_mem m ky).mp hin)))
  · obtain ⟨T', p', e'⟩ := perm_map (fun t : Addr × D => (t.1, kOf t.2)) (e2 hin) ((x, y) :: T) rfl
    refine go T' e' (fun t ht => ?_) (acc ++ [y]) ((p'.map (·.2)).trans ?_) (q2 fun z => hin ((keyed_mem m ky).mpr (pm.mem_iff.mpr z)))
    · rcases List.mem_cons.mp (p'.mem_iff.mp ht) with e | ht
      · rw [e]; exact ⟨r1, ky⟩
      · exact m1 t ht
    · rw [List.map_cons]
      exact (pm.cons y).trans (List.perm_append_comm (l₁ := [y]) (l₂ := acc))
def rSortN (K : PySem.W.Frag) (w : World) : List V → Hp → VK → Prop := fun vs H Q => ∃ (a : Addr) (T : List (Addr × D)) (G : Hp), vs = [V.ref a] ∧ H a = some (SetNO w a (keyed T)) ∧ Same G H ∧ MemT K G T ∧ Srt (T.map (·.2)) ∧
  ∀ p ys (ws : List D), H p = none → ws.Perm (T.map (·.2)) → RpL K G ys (ws.mergeSort dle) → Q (.ref p) (upd H p (.lst ys))
theorem tri_mem {K : PySem.W.Frag} {G : Hp} : ∀ T : List (Addr × D), MemT K G T → Tri K G (T.map fun t => Value.ref t.1) (T.map fun t => (V.ref t.1, t.2))
  | [], _ => .nil
  | t :: T, m => .cons (m t List.mem_cons_self).1 rfl (tri_mem T fun x hx => m x (List.mem_cons_of_mem _ hx))
theorem cr_sortN (hc : X.calm = true) (hu : X.A.units + 64 < cLine) : CallR X (.builtin "sorted") (rSortN X.K X.w) := by
  intro pins s σ H vs us Q I r h
  obtain ⟨a, T, G, rfl, ha, g, m, sr, q⟩ := h
  have R0 : SetN0 X.w s.heap a (keyed T) := (I.hok a _ ha).1
  obtain ⟨es, ep, t, R⟩ := R0.full (m.is I g)
  obtain ⟨o, ho, hex, hd⟩ := R.ob
  have few := R.few
  rw [List.length_map] at few
  have hsz := rowsN_len R.rows
  rw [List.length_map] at hsz
  rw [Vals.ref1 r]
  refine Calls.call_function_entry kind_sorted plain_sorted entry_sorted (args_sorted1 _) ?_
  unfold Builtin.«sorted»
  refine wpAny_bind (m := checkCount "sorted" 1 1 _) (wpAny_pure ?_)
  refine wpAny_bind (collect_set (A := X.A.in1) (I.ok.hd hc) ⟨o, ho, hex.1, hd⟩ R.fits (by unfold scanBound; omega) R.tab.ris R.led fun s1 vs k1 hz g1 o1 pm => ?_)
  have hes : es.toList.map (·.2) = T.map fun t => Value.ref t.1 := by
    rw [R.rows]
    unfold rowsN
    rw [List.map_map, List.map_map] <;> rfl
  rw [hes] at pm
  obtain ⟨T', pT, eT⟩ := perm_map (fun t : Addr × D => Value.ref t.1) pm T rfl
  subst eT
  have m' : MemT X.K G T' := fun t ht => m t (pT.mem_iff.mp ht)
  have sr' := sr.perm (pT.map (·.2))
  have len : T'.length = T.length := pT.length_eq
  refine wpAny_bind (wpAny_newList ?_ (by rw [List.length_map, sizeLine_eq]; omega))
  have hoL : (s1.heap.push (seqObj "list" ((T' : List (Addr × D)).map fun t => Value.ref t.1).toArray 0)).get? s1.heap.objs.size = some (seqObj "list" ((T' : List (Addr × D)).map fun t => Value.ref t.1).toArray 0) := Heap.get?_push_size _ rfl
  have tr := tri_mem T' m'
  have kp : ∀ b u, s.heap.get? b = some u → (s1.heap.push (seqObj "list" ((T' : List (Addr × D)).map fun t => Value.ref t.1).toArray 0)).get? b = some u := fun b u e => Heap.get?_push_of_some _ (k1 b u e)
  have hml : ((T' : List (Addr × D)).map fun t => (V.ref t.1, t.2)).map (fun b : V × D => pyd b.2) = (T'.map (·.2)).map pyd := by rw [List.map_map, List.map_map]; rfl
  have mem2 : ∀ b ∈ ((T' : List (Addr × D)).map fun t => (V.ref t.1, t.2)), b.2 ∈ T'.map (·.2) := fun b hb => by
    obtain ⟨t, ht, rfl⟩ := List.mem_map.mp hb
    exact List.mem_map.mpr ⟨t, ht, rfl⟩
  refine wpAny_bind (wpAny_holding (PySem.W.list_sort_data (s := { s1 with heap := s1.heap.push (seqObj "list" ((T' : List (Addr × D)).map fun t => Value.ref t.1).toArray 0) }) (enc := fun b : V × D => pyd b.2) hoL tr.each (each_imp (fun u b hb z => ?_) tr.each) (by rw [hml]; exact sr'.alike) (by rw [hml]; exact sr'.key)
    (by rw [List.length_map, sizeLine_eq]; omega) (fun b hb => by have := sr'.dep _ (mem2 b hb); simp only [Around.in1_units]; omega) fun out ho eo => ?_))
  · obtain ⟨as, ra⟩ := reads_of I g b.2 (sr'.flat _ (mem2 b hb)) z.1 z.2
    refine ⟨as, Reads.keeps kp ra, fun hin => ?_⟩
    obtain ⟨o, e⟩ := PyProof.On.reads_mem_get ra _ hin
    exact absurd (Heap.lt_size e) (Nat.not_lt.mpr hz)
  · obtain ⟨c, hc⟩ := sortedHeap_at (vs := (T' : List (Addr × D)).map fun t => Value.ref t.1) (out := out.toArray) hoL
    obtain ⟨e1, e2⟩ := Tri.of eo
    have e2' := e2
    rw [sort_snd, List.map_map] at e2'
    have hn : H s1.heap.objs.size = none := I.hok.fresh hz
    have hk : ∀ b u, s.heap.get? b = some u → (sortedHeap (s1.heap.push (seqObj "list" ((T' : List (Addr × D)).map fun t => Value.ref t.1).toArray 0)) s1.heap.objs.size ((T' : List (Addr × D)).map fun t => Value.ref t.1) out.toArray).get? b = some u := fun b u e => by
      have q := k1 b u e
      have hlt := Heap.lt_size q
      rw [sortedHeap_old (Nat.ne_of_lt hlt) (by rw [size_push']; exact Nat.lt_succ_of_lt hlt)]
      exact Heap.get?_push_of_some _ q
    have hlen : ((((T' : List (Addr × D)).map fun t => (V.ref t.1, t.2)).mergeSort (PySem.W.dataLe false fun b => pyd b.2)).map (·.1)).length ≤ sizeLine := by rw [List.length_map, List.length_mergeSort, List.length_map, sizeLine_eq]; omega
    have J : Inv X pins σ (upd H s1.heap.objs.size (.lst ((((T' : List (Addr × D)).map fun t => (V.ref t.1, t.2)).mergeSort (PySem.W.dataLe false fun b => pyd b.2)).map (·.1))))
        { s with heap := sortedHeap (s1.heap.push (seqObj "list" ((T' : List (Addr × D)).map fun t => Value.ref t.1).toArray 0)) s1.heap.objs.size ((T' : List (Addr × D)).map fun t => Value.ref t.1) out.toArray, gens := s1.gens, drawn := s1.drawn, toks := s1.toks } :=
      I.call (ch := []) (Un.laid hk hz hn) (I.hok.laid hk hz ⟨hlen, out, c, e1, hc⟩) (by rw [g1]; exact I.bare) (fun _ z => nomatch z)
    have e : ∀ h : Heap, ({ s1 with heap := h } : Shared) = { s with heap := h, gens := s1.gens, drawn := s1.drawn, toks := s1.toks } := fun h => by
      cases s1
      cases s
      cases o1
      rfl
    refine wpAny_pure ⟨_, rfl, ?_⟩
    rw [e]
    exact ⟨.ref s1.heap.objs.size, _, J, rfl, q _ _ (T'.map (·.2)) hn (pT.map (·.2)) e2'⟩
/-- sorted({e for x in xs if c}) -/
def mSortS (c : CT) (mi : VW) (mt : VT) (me : VE) (vs : List Nat) (R : List D → Store → (D → Store → Prop) → Prop) : VE := fun ρ S Q => mi ρ S fun ds kp S1 => turnsV c mt (bSet me) vs ds kp ρ [] S1 fun acc S2 => Srt acc ∧ ∀ ws : List D, ws.Perm acc → R (ws.mergeSort dle) S2 Q
theorem mSortS_e {c : CT} {mi : VW} {mt : VT} {me : VE} {vs : List Nat} {R : List D → Store → (D → Store → Prop) → Prop} {ρ : Sl} {S : Store} {Q : D → Store → Prop} :
    mSortS c mi mt me vs R ρ S Q = mi ρ S fun ds kp S1 => turnsV c mt (bSet me) vs ds kp ρ [] S1 fun acc S2 => Srt acc ∧ ∀ ws : List D, ws.Perm acc → R (ws.mergeSort dle) S2 Q := rfl
section
variable {elt tg iter : Expr} {ifs : List Expr} {scope : Scope} {own : List (Str × Nat)} {pos p1 p2 : Pos} {c : CT} {mi : VW} {mt : VT} {me : VE} {R : List D → Store → (D → Store → Prop) → Prop}
theorem pe_setc (hw : c.within (own.map (·.2))) (hc : X.calm = true) (hu : X.A.units + 64 < cLine) (hN : X.N.Nodup) (ok : BlkOk X.N X.env.scope scope own) (hi : PI X tg iter (LI X.K mi))
    (hg : ∀ (s : Shared) (H : Hp) (C : Addr) (cl : List (Str × Addr)) (fp : List Addr), PG (X.blk s H scope (compEnvC scope cl C X.env) fp) tg (gCT X.K c))
    (ht : ∀ (s : Shared) (H : Hp) (C : Addr) (cl : List (Str × Addr)) (fp : List Addr), PTs (X.blk s H scope (compEnvC scope cl C X.env) fp) ifs (LT X.K mt))
    (he : ∀ (s : Shared) (H : Hp) (C : Addr) (cl : List (Str × Addr)) (fp : List Addr), PE (X.blk s H scope (compEnvC scope cl C X.env) fp) elt (LE X.K me))
    (hs : ∀ x, foldedSetIterable iter X.env x = pure x := by intro _; rfl) :
    PE X (.SetComp elt [⟨tg, iter, ifs, 0⟩] scope pos) (tComp (LI X.K mi) (gCT X.K c) (LT X.K mt) (fun d => LB X.K (relS X.K X.w d) d (bSet me)) (fun D => SetNO X.w D []) (own.map (·.2))) := by
  refine ⟨fun pins s σ H Q I h => ?_⟩
  rw [PpSet.eval_SetComp]
  refine comp_core (vs1 := []) (inner := fun d env m => emitOf (.SetComp elt [⟨tg, iter, ifs, 0⟩] scope pos) (.ref d) env >>= fun _ => m) rfl rfl acc_setN (fun it d env => turn_leaf rfl rfl rfl) hc hN I hi ok (by simp) hg ht
    (fun d s H C cl fp => b_set (X := X.blk s H scope (compEnvC scope cl C X.env) fp) (fun _ _ z => z) hu (he s H C cl fp)) hs h fun D C s' m H' I' q hn f => ⟨m, hn, fun h'' sb => ?_⟩
  obtain ⟨f0, f1, f2, f3, f4, f5⟩ := f
  exact ⟨.ref D, H', I'.turned (t' := s'.toks) (fun b o hb e => (sb.2 b hb).trans e) f0 f1 f3 f4 f5, rfl, q⟩
theorem v_sortC (hR : RecR R) (hw : c.within (own.map (·.2))) (hc : X.calm = true) (hu : X.A.units + 64 < cLine) (hgl : Gl X "sorted") (hmg : X.mg "sorted" = none) (hN : X.N.Nodup) (ok : BlkOk X.N X.env.scope scope own) (hi : PI X tg iter (LI X.K mi))
    (hg : ∀ (s : Shared) (H : Hp) (C : Addr) (cl : List (Str × Addr)) (fp : List Addr), PG (X.blk s H scope (compEnvC scope cl C X.env) fp) tg (gCT X.K c))
    (ht : ∀ (s : Shared) (H : Hp) (C : Addr) (cl : List (Str × Addr)) (fp : List Addr), PTs (X.blk s H scope (compEnvC scope cl C X.env) fp) ifs (LT X.K mt))
    (he : ∀ (s : Shared) (H : Hp) (C : Addr) (cl : List (Str × Addr)) (fp : List Addr), PE (X.blk s H scope (compEnvC scope cl C X.env) fp) elt (LE X.K me))
    (hs : ∀ x, foldedSetIterable iter X.env x = pure x := by intro _; rfl)
    (hst : starEach [.SetComp elt [⟨tg, iter, ifs, 0⟩] scope p2] X.env = (false, eval (.SetComp elt [⟨tg, iter, ifs, 0⟩] scope p2) X.env) :: starEach [] X.env := by rfl) :
    PE X (.Call (.Name "sorted" p1) [.SetComp elt [⟨tg, iter, ifs, 0⟩] scope p2] [] pos) (LE X.K (mSortS c mi mt me (own.map (·.2)) R)) := by
  refine PE.imp (pe_callB (cr_sortN hc hu) hgl hmg (by decide +kernel) (pa_cons (pe_setc hw hc hu hN ok hi hg ht he hs) pa_nil hst) (by decide) (by decide) hst) fun σ H Q' ⟨ρ, S, G, Q, vw, re, hm, k⟩ => ?_
  refine ⟨ρ, S, G, _, vw, re, hm, fun ds kp S1 H1 G1 J a1 wk t L hL => ?_⟩
  have n0 := a1.vw.none hL
  refine turns_ask (rel := relS X.K X.w L) relS_mono hw hL ((Aft.refl a1.vw).junk hL n0.2 n0.1) wk (re.mono a1.gg) upd_same ⟨[], rfl, List.Perm.refl _, fun t ht => nomatch ht⟩ n0.2 n0.1 t fun acc' S' H' G' o' g' a' x1 ⟨T, eo, pm, m⟩ x3 x4 ⟨sr, q⟩ => ?_
  subst eo
  refine ⟨L, T, G', rfl, x1, a'.vw.gh, m, sr.perm pm, fun p ys ws hp pw rl => ?_⟩
  obtain ⟨S2, G2, d, qd, a2, rd⟩ := made_of hR a'.vw hp rl (q ws (pw.trans pm))
  exact k d S2 _ _ _ (a1.trans (a'.trans a2)) rd qd
end
end
end VL
set_option maxHeartbeats 2000000
namespace VL
open PySem PySem.Spec L2
open PyProof.Rows hiding St
theorem sort_by {key : D → Int} {ws r : List D} (hk : ∀ a ∈ ws, ∀ b ∈ ws, dle a b = decide (key a ≤ key b)) (inj : ∀ a ∈ ws, ∀ b ∈ ws, key a = key b → a = b) (hr : r.Perm ws) (pr : r.Pairwise fun a b => key a ≤ key b) : ws.mergeSort dle = r := by
  have e := List.map_mergeSort (s := fun a b : Int => decide (a ≤ b)) (f := key) (l := ws) (r := dle) fun a ha b hb => hk a ha b hb
  have pm : (ws.mergeSort dle).Perm ws := List.mergeSort_perm ..
  have pw : ((ws.map key).mergeSort fun a b : Int => decide (a ≤ b)).Pairwise fun a b => (decide (a ≤ b)) = true :=
    List.pairwise_mergeSort (fun a b c h1 h2 => by simp only [decide_eq_true_eq] at *; omega) (fun a b => by simp only [Bool.or_eq_true, decide_eq_true_eq]; omega) _
  rw [← e, List.pairwise_map] at pw
  refine List.Perm.eq_of_pairwise (le := fun a b => key a ≤ key b) (fun a b ha hb h1 h2 => inj a (pm.mem_iff.mp ha) b (hr.mem_iff.mp hb) (by omega)) (pw.imp fun h => by simpa using h) pr (pm.trans hr.symm)
def eqP (a b : D) : Bool := PyData.eqv (py a) (py b)
def inP (x : D) (ds : List D) : Bool := ds.any fun z => eqP z x
def mInD (neg : Bool) : R2V := fun x y S Q => match rdS y S with
  | some ds => SeqAt.shaped (py x) = true ∧ SeqAt.shaped (py (.lst ds)) = true ∧ (∀ es, y ≠ .tup es) ∧ Q (.bl (if neg then !inP x ds else inP x ds)) S
  | none => False
theorem dp_rd {K : PySem.W.Frag} {G H : Hp} {S : Store} {y : D} {v : V} {ds : List D} (vw : View K G S H) (r : Rp K G v y) (e : rdS y S = some ds) (hn : ∀ es, y ≠ .tup es) (c : (py (.lst ds)).canLay0 = true) : Dp K H v (py (.lst ds)) := by
  obtain ⟨a, xs, rfl, q, l⟩ := rdS_ok vw r e
  have c' : PyData.canLayAll0 (pyL ds) = true := by simpa [py, PyData.canLay0] using c
  cases r with
  | tup h _ => exact absurd rfl (hn _)
  | lst h _ => simp only [rdS, rdR, rdL] at e; cases e; exact dp_of vw.gh (.lst _) c (.lst h (by assumption))
  | ro h _ => simp only [rdS, rdR, rdL] at e; cases e; exact dp_of vw.gh (.ro _) c (.ro h (by assumption))
  | dct h _ => simp [rdS, rdR, rdL] at e
  | ref _ =>
    have : py (rsv S (.ref a)) = py (.lst ds) := by
      simp only [rdS, rdR, rdL] at e
      simp only [rsv]
      split at e
      · rename_i es e1
        try rw [e1]
        cases e; rfl
      · cases e
    rw [← this] at c ⊢
    exact dp_rsv vw c (.ref _)
theorem py_lst (ds : List D) : py (.lst ds) = .list (ds.map py) := by simp only [py, pyL_map]
theorem any_py {x : D} {ds : List D} : (ds.map py).any (fun z => PyData.eqv z (py x)) = inP x ds := by
  unfold inP eqP
  rw [List.any_map]; rfl
section
variable {X : Cx}
theorem ov_inD (hu : X.A.units + 65 < cLine) : OpV X (compareOp .In) (mInD false) := by
  refine ⟨_, op_inD hu, ?_⟩
  intro x y v1 v2 G S H Q Q' vw r1 r2 h k
  unfold mInD at h
  split at h
  · rename_i ds e
    obtain ⟨h1, h2, h3, q⟩ := h
    have dy := dp_rd vw r2 e h3 (SeqAt.canLay_of_shaped h2)
    rw [py_lst] at dy h2
    exact ⟨_, _, dp_of vw.gh x (SeqAt.canLay_of_shaped h1) r1, dy, h1, h2, by rw [any_py]; exact k _ S _ H G (Aft.refl vw) (.bl _) q⟩
  · exact h.elim
theorem ov_notinD (hu : X.A.units + 65 < cLine) : OpV X (compareOp .NotIn) (mInD true) := by
  refine ⟨_, op_notInD hu, ?_⟩
  intro x y v1 v2 G S H Q Q' vw r1 r2 h k
  unfold mInD at h
  split at h
  · rename_i ds e
    obtain ⟨h1, h2, h3, q⟩ := h
    have dy := dp_rd vw r2 e h3 (SeqAt.canLay_of_shaped h2)
    rw [py_lst] at dy h2
    exact ⟨_, _, dp_of vw.gh x (SeqAt.canLay_of_shaped h1) r1, dy, h1, h2, by rw [any_py]; exact k _ S _ H G (Aft.refl vw) (.bl _) q⟩
  · exact h.elim
theorem units65 {k : Nat} {A : Around} (r : Room k A) : A.units + 65 < cLine := by have := r.un; omega
end
theorem mInD_l {neg : Bool} {x : D} {ds : List D} {S : Store} {Q : D → Store → Prop} : mInD neg x (.lst ds) S Q = (SeqAt.shaped (py x) = true ∧ SeqAt.shaped (py (.lst ds)) = true ∧ (∀ es, D.lst ds ≠ .tup es) ∧ Q (.bl (if neg then !inP x ds else inP x ds)) S) := rfl
theorem mInD_r {neg : Bool} {x : D} {a : Addr} {S : Store} {Q : D → Store → Prop} {ds : List D} (h : S a = some (.lst ds)) : mInD neg x (.ref a) S Q = (SeqAt.shaped (py x) = true ∧ SeqAt.shaped (py (.lst ds)) = true ∧ (∀ es, D.ref a ≠ .tup es) ∧ Q (.bl (if neg then !inP x ds else inP x ds)) S) := by
  unfold mInD
  simp only [rdS, rdR, rdL, h]
def homes8 : List D := [.tup [.str "bin", .int 0], .tup [.str "bin", .int 1], .tup [.str "bin", .int 2], .tup [.str "bin", .int 3], .tup [.str "peg", .int 0], .tup [.str "peg", .int 1], .tup [.str "peg", .int 2], .tup [.str "peg", .int 3]]
def hkey : D → Int
  | .tup [.str b, .int k] => (if b = "peg" then 4 else 0) + k
  | _ => 0
theorem home8 {d : D} (h : isHome d = true) : d ∈ homes8 := by
  unfold isHome at h
  split at h
  · rename_i s k
    simp only [Bool.and_eq_true, Bool.or_eq_true, decide_eq_true_eq] at h
    obtain ⟨hs, h0, h1⟩ := h
    have hk : k = 0 ∨ k = 1 ∨ k = 2 ∨ k = 3 := by omega
    rcases hs with rfl | rfl <;> rcases hk with rfl | rfl | rfl | rfl <;> simp [homes8]
  · cases h
theorem homes_all : ∀ d ∈ homes8, isHome d = true := by decide +kernel
theorem dle_homes : ∀ a ∈ homes8, ∀ b ∈ homes8, dle a b = decide (hkey a ≤ hkey b) := by decide +kernel
theorem hkey_inj : ∀ a ∈ homes8, ∀ b ∈ homes8, hkey a = hkey b → a = b := by
  intro a ha b hb
  simp only [homes8, List.mem_cons, List.not_mem_nil, or_false] at ha hb
  rcases ha with rfl | rfl | rfl | rfl | rfl | rfl | rfl | rfl <;> rcases hb with rfl | rfl | rfl | rfl | rfl | rfl | rfl | rfl <;> first | (intro _; rfl) | (intro h; exact absurd h (by decide +kernel))
theorem homes_ris : homes8.Pairwise fun a b => hkey a < hkey b := by decide +kernel
theorem eqP_hkey : ∀ a ∈ homes8, ∀ b ∈ homes8, eqP a b = decide (hkey a = hkey b) := by decide +kernel
theorem eqP_homes (a : D) (ha : a ∈ homes8) (b : D) (hb : b ∈ homes8) : (eqP a b = true) = (a = b) := by
  rw [eqP_hkey a ha b hb, decide_eq_true_eq, eq_iff_iff]
  exact ⟨hkey_inj a ha b hb, fun e => by rw [e]⟩
theorem inP_homes {d : D} {ds : List D} (hd : isHome d = true) (h : ∀ e ∈ ds, isHome e = true) : (inP d ds = true) = (d ∈ ds) := by
  unfold inP
  rw [List.any_eq_true, eq_iff_iff]
  constructor
  · rintro ⟨e, he, h1⟩
    rw [eqP_homes e (home8 (h e he)) d (home8 hd)] at h1
    exact h1 ▸ he
  · intro hm
    exact ⟨d, hm, by rw [eqP_homes d (home8 hd) d (home8 hd)]⟩
/-- these homes, sorted, each once -/
def sortH (ds : List D) : List D := homes8.filter fun h => inP h ds
theorem sort_homes {ds acc ws : List D} (hd : ∀ e ∈ ds, isHome e = true) (nd : acc.Nodup) (hm : ∀ e, e ∈ acc ↔ e ∈ ds) (pw : ws.Perm acc) : ws.mergeSort dle = sortH ds := by
  have hw : ∀ e ∈ ws, e ∈ homes8 := fun e he => home8 (hd e ((hm e).mp (pw.mem_iff.mp he)))
  refine sort_by (key := hkey) (fun a ha b hb => dle_homes a (hw a ha) b (hw b hb)) (fun a ha b hb => hkey_inj a (hw a ha) b (hw b hb)) ?_ ((homes_ris.imp (fun h => by omega)).filter _)
  have n1 : (sortH ds).Nodup := List.Pairwise.filter _ (homes_ris.imp (fun {a b} h e => by subst e; omega))
  refine (List.perm_ext_iff_of_nodup n1 (pw.nodup_iff.mpr nd)).mpr fun e => ?_
  unfold sortH
  rw [List.mem_filter, pw.mem_iff, hm]
  constructor
  · rintro ⟨h1, h2⟩
    rwa [inP_homes (homes_all e h1) hd] at h2
  · intro h
    exact ⟨home8 (hd e h), by rw [inP_homes (hd e h) hd]; exact h⟩
theorem sortH_homes {ds : List D} : ∀ e ∈ sortH ds, isHome e = true := fun e he => homes_all e (List.mem_filter.mp he).1
theorem sortH_len {ds : List D} : (sortH ds).length ≤ 8 := List.length_filter_le _ _
theorem keyT_home {d : D} (h : isHome d = true) : KeyT d := by
  obtain ⟨b, k, e, _⟩ := isHome_ex h
  subst e
  cases b
  · exact ⟨[.text "bin", .num k], rfl, by simp [NestedKey.depth, NestedKey.depthAll]⟩
  · exact ⟨[.text "peg", .num k], rfl, by simp [NestedKey.depth, NestedKey.depthAll]⟩
theorem srt_homes {ds : List D} (h : ∀ e ∈ ds, isHome e = true) : Srt ds where
  flat := fun d hd => by
    obtain ⟨b, k, e, _⟩ := isHome_ex (h d hd)
    subst e; rfl
  alike := fun d hd d' hd' => by
    obtain ⟨x, hx, rfl⟩ := List.mem_map.mp hd
    obtain ⟨y, hy, rfl⟩ := List.mem_map.mp hd'
    obtain ⟨b, k, e, _⟩ := isHome_ex (h x hx)
    obtain ⟨b2, k2, e2, _⟩ := isHome_ex (h y hy)
    subst e e2; simp [pyd, pydL, PySem.W.alike, PySem.W.alikeAll]
  key := .inl fun d hd => by
    obtain ⟨x, hx, rfl⟩ := List.mem_map.mp hd
    obtain ⟨b, k, e, _⟩ := isHome_ex (h x hx)
    subst e; exact ⟨_, _, rfl⟩
  dep := fun d hd => by
    obtain ⟨b, k, e, _⟩ := isHome_ex (h d hd)
    subst e; simp [pyd, pydL, PyData.depth, PyData.depthAll]
theorem lay_homes {ds : List D} (h : ∀ e ∈ ds, isHome e = true) : PyData.canLayAll0 (pyL ds) = true ∧ PyData.depthAll (pyL ds) ≤ 1 := by
  induction ds with
  | nil => exact ⟨rfl, by simp [pyL, PyData.depthAll]⟩
  | cons d ds ih =>
    obtain ⟨a, b⟩ := ih fun e he => h e (List.mem_cons_of_mem _ he)
    obtain ⟨x, k, e, _⟩ := isHome_ex (h d List.mem_cons_self)
    subst e
    have so : PyData.strOk (if x = true then Str.ofString "peg" else Str.ofString "bin") = true := by cases x <;> decide +kernel
    exact ⟨by simp [pyL, py, PyData.canLayAll0, PyData.canLay0, a, so], by simp [pyL, py, PyData.depthAll, PyData.depth]; omega⟩
theorem shaped_homes {ds : List D} (h : ∀ e ∈ ds, isHome e = true) : SeqAt.shaped (py (.lst ds)) = true := by
  obtain ⟨a, b⟩ := lay_homes h
  unfold SeqAt.shaped
  simp only [py, PyData.canLay0, PyData.depth, a, Bool.true_and]
  simp; omega
theorem shaped_home {d : D} (h : isHome d = true) : SeqAt.shaped (py d) = true := by
  have := home8 h
  revert this
  revert d
  have : ∀ d ∈ homes8, SeqAt.shaped (py d) = true := by decide +kernel
  intro d _ h
  exact this d h
/-- the turns of a set comprehension that leaves the store -/
theorem turns_set {c : CT} {mt : VT} {me : VE} {vs : List Nat} {ds : List D} {kp : Store → Prop} {ρ : Sl} {S1 : Store} {Qe : List D → Store → Prop} (f : D → List D) (hk : kp S1) (len : ds.length ≤ 62)
    (hs : ∀ d ∈ ds, ∀ (J : List D → Store → Prop) (acc : List D), acc.length < 63 → (match f d with
      | [] => J acc S1
      | [y] => (y ∈ acc → J acc S1) ∧ (y ∉ acc → J (acc ++ [y]) S1)
      | _ => True) → (∀ y ys, f d ≠ y :: y :: ys) → match mCT c d (wipeD ρ vs) with
      | some ρ3 => mt ρ3 S1 fun b S3 => if b = true then bSet me ρ3 S3 acc J else J acc S3
      | none => False)
    (h1 : ∀ d ∈ ds, (f d).length ≤ 1) (he : ∀ acc, acc.Nodup → (∀ e, e ∈ acc ↔ e ∈ ds.flatMap f) → acc.length ≤ ds.length → Qe acc S1) : turnsV c mt (bSet me) vs ds kp ρ [] S1 Qe := by
  refine turns_inv (fun i acc S2 => S2 = S1 ∧ acc.Nodup ∧ (∀ e, e ∈ acc ↔ e ∈ (ds.take i).flatMap f) ∧ acc.length ≤ i) ⟨rfl, List.nodup_nil, fun e => by simp, Nat.le_refl _⟩ (fun _ _ _ h => h.1 ▸ hk) (fun i d acc S2 hd h => ?_) (fun acc S2 h => ?_)
  · obtain ⟨rfl, nd, mm, hl⟩ := h
    have hi := getE hd
    have hm := List.mem_of_getElem? hd
    have e1 := h1 d hm
    refine hs d hm _ acc (by omega) ?_ (fun y ys e => by rw [e] at e1; simp at e1)
    have tk : ∀ e, e ∈ (ds.take (i + 1)).flatMap f ↔ e ∈ (ds.take i).flatMap f ∨ e ∈ f d := fun e => by rw [List.take_succ, hd, List.flatMap_append, List.mem_append]; simp
    split
    · rename_i e0
      exact ⟨rfl, nd, fun e => by rw [tk, e0, mm]; simp, by omega⟩
    · rename_i y e0
      refine ⟨fun hy => ⟨rfl, nd, fun e => ?_, by omega⟩, fun hy => ⟨rfl, ?_, fun e => ?_, by simp; omega⟩⟩
      · rw [tk, e0, ← mm, List.mem_singleton]
        exact ⟨.inl, fun z => z.elim id fun z => z ▸ hy⟩
      · exact List.nodup_append.mpr ⟨nd, List.pairwise_singleton .., fun a ha b hb => by rw [List.mem_singleton.mp hb]; exact fun z => hy (z ▸ ha)⟩
      · rw [tk, e0, ← mm, List.mem_append]
    · trivial
  · obtain ⟨rfl, nd, mm, hl⟩ := h
    exact he acc nd (fun e => by rw [mm, List.take_length]) hl
end VL
set_option maxHeartbeats 2000000
namespace VL
open PySem PySem.Spec L2
open PyProof.Rows hiding St
def pickAt {α : Type} (l : List α) (pi : List Nat) : List α := pi.filterMap fun i => l[i]?
theorem pickAt_nil {α : Type} {l : List α} : pickAt l [] = [] := rfl
theorem vals_get {vs : List V} {us : List Value} (r : Vals vs us) (i : Nat) : (vs[i]? = none ∧ us[i]? = none) ∨ ∃ v u, vs[i]? = some v ∧ us[i]? = some u ∧ RelV v u := by
  induction r generalizing i with
  | nil => left; simp
  | cons h t ih =>
    cases i with
    | zero => right; exact ⟨_, _, rfl, rfl, h⟩
    | succ i => simpa using ih i
theorem vals_pick {vs : List V} {us : List Value} (r : Vals vs us) : ∀ pi : List Nat, Vals (pickAt vs pi) (pickAt us pi)
  | [] => .nil
  | i :: pi => by
    have ih := vals_pick r pi
    unfold pickAt at ih ⊢
    rcases vals_get r i with ⟨a, b⟩ | ⟨v, u, a, b, c⟩
    · rw [List.filterMap_cons_none a, List.filterMap_cons_none b]; exact ih
    · rw [List.filterMap_cons_some a, List.filterMap_cons_some b]; exact .cons c ih
theorem rpl_pick {K : PySem.W.Frag} {G : Hp} {vs : List V} {ds : List D} (r : RpL K G vs ds) : ∀ pi : List Nat, RpL K G (pickAt vs pi) (pickAt ds pi)
  | [] => .nil
  | i :: pi => by
    have ih := rpl_pick r pi
    unfold pickAt at ih ⊢
    cases e : vs[i]? with
    | none =>
      have e2 : ds[i]? = none := by rw [List.getElem?_eq_none_iff] at e ⊢; rw [← r.length]; exact e
      rw [List.filterMap_cons_none e, List.filterMap_cons_none e2]; exact ih
    | some v =>
      obtain ⟨d, e2, rv⟩ := r.getV e
      rw [List.filterMap_cons_some e, List.filterMap_cons_some e2]; exact .cons rv ih
/-- how the def binds n values by place and values by the names ks -/
def BindK (x : Str) (st : Stmt) (ps : List Str) (n : Nat) (ks : List Str) (pi : List Nat) : Prop := ∀ (kV doc pm : Value) (an : Option Addr) (cdv ct : Value) (us ws : List Value), us.length = n → ws.length = ks.length →
  bindArgs (PySem.W.fnOf x x (defArgs st) (defBody st) (defScope st) .none kV doc pm an cdv ct) ⟨us, ks.zip ws⟩ = pure (ps.zip (pickAt (us ++ ws) pi))
def mCallK (n m q : Nat) (pi : List Nat) (sp : VSp) (ms mk : VA) : VE := fun ρ S Q => ms ρ S fun ds S1 => mk ρ S1 fun es S2 => ds.length = n ∧ es.length = m ∧ (pickAt (ds ++ es) pi).length = q ∧ sp (pickAt (ds ++ es) pi) S2 Q
theorem mCallK_e {n m q : Nat} {pi : List Nat} {sp : VSp} {ms mk : VA} {ρ : Sl} {S : Store} {Q : D → Store → Prop} : mCallK n m q pi sp ms mk ρ S Q = ms ρ S fun ds S1 => mk ρ S1 fun es S2 => ds.length = n ∧ es.length = m ∧ (pickAt (ds ++ es) pi).length = q ∧ sp (pickAt (ds ++ es) pi) S2 Q := rfl
section
variable {X : Cx} {x : Str} {p pos kpos : Pos} {e : Expr} {es : List Expr} {kws : List Keyword} {nm : Option Str} {ms mk : VA} {me : VE}
theorem k_nil : PK X [] (LA X.K mNil) := ⟨fun _ _ _ _ H Q I h => by
  obtain ⟨ρ, S, G, Q', vw, re, hm, k⟩ := h
  exact wpAny_evalAll_nil ⟨[], H, I, .nil, k [] S [] H G (Aft.refl vw) .nil hm⟩⟩
theorem k_cons (ha : PE X e (LE X.K me)) (hr : PK X kws (LA X.K mk)) : PK X (⟨nm, e, kpos⟩ :: kws) (LA X.K (mCons me mk)) := by
  have h := pk_cons (nm := nm) (kpos := kpos) ha hr
  refine ⟨fun pos pins s σ H Q I q => h.run pos pins s σ H Q I ?_⟩
  obtain ⟨ρ, S, G, Q', vw, re, hm, k⟩ := q
  refine ⟨ρ, S, G, _, vw, re, hm, fun d S1 v H1 G1 a1 r1 h1 => ?_⟩
  refine ⟨ρ, S1, G1, _, a1.vw, re.mono a1.gg, h1, fun ds S2 vs H2 G2 a2 r2 h2 => ?_⟩
  exact k _ S2 _ H2 G2 (a1.trans a2) (.cons (r1.mono a2.gg) r2) h2
theorem go_fnk {CX : CXT} {k : Nat} {f : Addr} {fd : FuncData} {ps ks : List Str} {sp : Sp} {E : XK} {pins : List (Addr × Obj)} {σ : L2.St} {H : Hp} {s : Shared} {Q : VK} {us ws : List Value} {vs zs : List V} {pi : List Nat} (F : FnG X.prog X.w X.K X.mg X.base CX k f fd ps sp) (hr : Room k X.A) (hgd : X.A.guards = some [])
    (hb : BindsTo s fd ⟨us, ks.zip ws⟩ (ps.zip (pickAt (us ++ ws) pi))) (hx : Passes CX X E) (I : Inv X pins σ H s) (r : Vals vs us) (rz : Vals zs ws) (h : sp (pickAt (vs ++ zs) pi) H Q E) : wpAny (model X.prog X.w) X.A (call (.ref f) us (ks.zip ws)) (EP X pins σ Q) X.xe s := by
  refine wpAny_call (codeAny_mono (F.go X.A X.stack s H _ _ _ Q E hr hgd I.env0 hb (vals_pick (r.append rz) pi) h) fun res s' hq => ?_)
  match res, hq with
  | .error e, hq => exact hx pins σ H s e s' I hq
  | .ok (.ret u), hq => exact I.after hq
  | .ok .next, hq => exact (show False from hq).elim
  | .ok .brk, hq => exact (show False from hq).elim
  | .ok .cont, hq => exact (show False from hq).elim
theorem Fun.kbind {K : PySem.W.Frag} {st : Stmt} {f : Addr} {fd : FuncData} {ps ks : List Str} {n : Nat} {pi : List Nat} (F : Fun K x x st f fd) (hb : BindK x st ps n ks pi) (s : Shared) (us ws : List Value) (h1 : us.length = n) (h2 : ws.length = ks.length) : BindsTo s fd ⟨us, ks.zip ws⟩ (ps.zip (pickAt (us ++ ws) pi)) := by
  obtain ⟨oc, od, kV, doc, pm, an, cdv, ct, osl, rfl, lk, hcd⟩ := F.ex
  exact BindsTo.of_eq (hb kV doc pm an cdv ct us ws h1 h2)
variable {k n : Nat} {ps ks : List Str} {sp : VSp} {st : Stmt} {pi : List Nat}
def tCallP (n m : Nat) (pi : List Nat) (sp : Sp) (E : XK) (t tk : TA) : TE := fun σ H Q => t σ H fun vs H1 => tk σ H1 fun zs H2 => vs.length = n ∧ zs.length = m ∧ sp (pickAt (vs ++ zs) pi) H2 Q E
theorem pg_callK0 {f : Addr} {fd : FuncData} {spm : Sp} {tk : TA} (F : FnG X.prog X.w X.K X.mg X.base CX0 k f fd ps spm) (hm : X.mg x = some (.ref f)) (Fn : Fun X.K x x st f fd) (hb : BindK x st ps 0 ks pi) (hr : Room k X.A) (hgd : X.A.guards = some []) (hg : Gl X x) (hkw : PK X kws tk)
    (hall : (backToKw pos (keywordEach kws X.env)).all (·.1.isSome) = true) (hks : (backToKw pos (keywordEach kws X.env)).filterMap (·.1) = ks)
    (hdb : (x == ("__debug__" : Str)) = false) (hpl : ((backTo pos (starEach [] X.env)).any (·.1) || (backToKw pos (keywordEach kws X.env)).any (·.1.isNone)) = false) :
    PE X (.Call (.Name x p) [] kws pos) (tCallP 0 ks.length pi spm E0 tNil tk) := by
  refine ⟨fun pins s σ H Q I h => ?_⟩
  refine wpAny_Call_Name_kw (ld_glob I hg hm ?_ hdb)
  refine PySem.W.callWith_KW0 (h₀ := X.base) I.ok.mod.kin Fn.kp hall (thn (hkw.run pos pins s σ H _ I h) fun ws s2 ⟨zs, H2, I2, rz, l1, l2, q2⟩ => ⟨I2.kIn, ?_⟩) hpl
  rw [hks]
  exact go_fnk (us := []) (vs := []) F hr hgd (Fun.kbind Fn hb s2 [] ws rfl (by rw [← rz.length]; exact l2)) pass0 I2 .nil rz q2
/-- f(k = v, ..) -/
theorem v_callK0 (F : DefV X.prog X.w X.K X.mg X.base k x ps sp) (hh : Has X.K X.mg x st) (hb : BindK x st ps 0 ks pi) (hr : Room k X.A) (hgd : X.A.guards = some []) (hg : Gl X x) (hkw : PK X kws (LA X.K mk))
    (hall : (backToKw pos (keywordEach kws X.env)).all (·.1.isSome) = true := by rfl) (hks : (backToKw pos (keywordEach kws X.env)).filterMap (·.1) = ks := by rfl)
    (hdb : (x == ("__debug__" : Str)) = false := by decide)
    (hpl : ((backTo pos (starEach [] X.env)).any (·.1) || (backToKw pos (keywordEach kws X.env)).any (·.1.isNone)) = false := by rfl) :
    PE X (.Call (.Name x p) [] kws pos) (LE X.K (mCallK 0 ks.length ps.length pi sp mNil mk)) := by
  obtain ⟨f, fd, hm, Fn⟩ := hh
  refine PE.imp (pg_callK0 (F.run st f fd hm Fn) hm Fn hb hr hgd hg hkw hall hks hdb hpl) fun σ H Q' ⟨ρ, S, G, Q, vw, re, hm, kk⟩ => ?_
  refine ⟨ρ, S, G, _, vw, re, hm, fun es2 S2 zs H2 G2 a2 r2 ⟨l1, l2, l3, h2⟩ => ?_⟩
  have rp := rpl_pick (RpL.append .nil r2) pi
  exact ⟨rfl, by rw [r2.length]; exact l2, by show (pickAt ([] ++ zs) pi).length = _; rw [rp.length]; exact l3, _, S2, G2, _, a2.vw, rp, h2, fun d S' v H' G' a3 r3 q => kk d S' v H' G' (a2.trans a3) r3 q⟩
end
theorem pickAt_0 {α : Type} {a : α} {l : List α} {pi : List Nat} : pickAt (a :: l) (0 :: pi) = a :: pickAt (a :: l) pi := rfl
theorem pickAt_1 {α : Type} {a b : α} {l : List α} {pi : List Nat} : pickAt (a :: b :: l) (1 :: pi) = b :: pickAt (a :: b :: l) pi := rfl
theorem pickAt_2 {α : Type} {a b c : α} {l : List α} {pi : List Nat} : pickAt (a :: b :: c :: l) (2 :: pi) = c :: pickAt (a :: b :: c :: l) pi := rfl
theorem pickAt_3 {α : Type} {a b c d : α} {l : List α} {pi : List Nat} : pickAt (a :: b :: c :: d :: l) (3 :: pi) = d :: pickAt (a :: b :: c :: d :: l) pi := rfl
theorem pickAt_4 {α : Type} {a b c d e : α} {l : List α} {pi : List Nat} : pickAt (a :: b :: c :: d :: e :: l) (4 :: pi) = e :: pickAt (a :: b :: c :: d :: e :: l) pi := rfl
def mExt (mo me : VE) : VE := fun ρ S Q => mo ρ S fun o S1 => match o with
  | .ref a => (∃ ds, S1 a = some (.lst ds)) ∧ me ρ S1 fun d S2 => match S2 a with
    | some (.lst ds) => (match rdL d S2 with
      | some es => ds.length + es.length ≤ sizeLine ∧ Q .non (supd S2 a (.lst (ds ++ es)))
      | none => False)
    | _ => False
  | _ => False
theorem mExt_e {mo me : VE} {ρ : Sl} {S : Store} {Q : D → Store → Prop} : mExt mo me ρ S Q = mo ρ S fun o S1 => match o with
  | .ref a => (∃ ds, S1 a = some (.lst ds)) ∧ me ρ S1 fun d S2 => match S2 a with
    | some (.lst ds) => (match rdL d S2 with
      | some es => ds.length + es.length ≤ sizeLine ∧ Q .non (supd S2 a (.lst (ds ++ es)))
      | none => False)
    | _ => False
  | _ => False := rfl
def mPop (mo : VE) : VE := fun ρ S Q => mo ρ S fun o S1 => match o with
  | .ref a => (match S1 a with
    | some (.lst ds) => (match ds.getLast? with
      | some d => Q d (supd S1 a (.lst ds.dropLast))
      | none => False)
    | _ => False)
  | _ => False
theorem mPop_e {mo : VE} {ρ : Sl} {S : Store} {Q : D → Store → Prop} : mPop mo ρ S Q = mo ρ S fun o S1 => match o with
  | .ref a => (match S1 a with
    | some (.lst ds) => (match ds.getLast? with
      | some d => Q d (supd S1 a (.lst ds.dropLast))
      | none => False)
    | _ => False)
  | _ => False := rfl
theorem RpL.dropLast {K : PySem.W.Frag} {G : Hp} {xs : List V} {ds : List D} (r : RpL K G xs ds) : RpL K G xs.dropLast ds.dropLast := by
  rw [List.dropLast_eq_take, List.dropLast_eq_take, r.length]; exact r.take _
section
variable {X : Cx}
theorem v_ext {o e : Expr} {mo me : VE} {apos cpos : Pos} (ho : PE X o (LE X.K mo)) (he : PE X e (LE X.K me))
    (w : PE X (.Call (.Attribute o "extend" apos) [e] [] cpos) (tBM X.K "list" rExtend (LE X.K mo) (tCons (LE X.K me) tNil))) : PE X (.Call (.Attribute o "extend" apos) [e] [] cpos) (LE X.K (mExt mo me)) := by
  refine PE.imp w fun σ H Q' ⟨ρ, S, G, Q, vw, re, hm, k⟩ => ?_
  refine ⟨ρ, S, G, _, vw, re, hm, fun o S1 v1 H1 G1 a1 r1 h1 => ?_⟩
  cases r1 <;> try exact h1.elim
  rename_i a
  obtain ⟨⟨ds0, e0⟩, h1⟩ := h1
  obtain ⟨_, u0, hu0, k0⟩ := a1.vw.st _ _ e0
  cases k0 with
  | lst l0 =>
    refine ⟨.inl ⟨rfl, _, SqL.of hu0⟩, ρ, S1, G1, _, a1.vw, re.mono a1.gg, h1, fun d S2 v2 H2 G2 a2 r2 h2 => ?_⟩
    split at h2
    · rename_i ds e
      obtain ⟨_, u, hu, ku⟩ := a2.vw.st _ _ e
      cases ku with
      | lst l =>
        split at h2
        · rename_i es e2
          obtain ⟨b, zs, rfl, hb, lz⟩ := rdL_ok a2.vw r2 e2
          have a3 := a2.vw.wrote (o' := .lst (ds ++ es)) e (.lst (l.append lz))
          exact ⟨a, b, _, zs, rfl, rfl, hu, hb, by rw [l.length, lz.length]; exact h2.1, k _ _ _ _ _ (a1.trans (a2.trans a3)) .non h2.2⟩
        · exact h2.elim
    · exact h2.elim
theorem v_pop {o : Expr} {mo : VE} {apos cpos : Pos} (ho : PE X o (LE X.K mo))
    (w : PE X (.Call (.Attribute o "pop" apos) [] [] cpos) (tBM0 X.K "list" rPop (LE X.K mo))) : PE X (.Call (.Attribute o "pop" apos) [] [] cpos) (LE X.K (mPop mo)) := by
  refine PE.imp w fun σ H Q' ⟨ρ, S, G, Q, vw, re, hm, k⟩ => ?_
  refine ⟨ρ, S, G, _, vw, re, hm, fun o S1 v1 H1 G1 a1 r1 h1 => ?_⟩
  cases r1 <;> try exact h1.elim
  rename_i a
  simp only at h1
  split at h1
  · rename_i ds e
    obtain ⟨_, u, hu, ku⟩ := a1.vw.st _ _ e
    cases ku with
    | lst l =>
      split at h1
      · rename_i d e2
        rw [List.getLast?_eq_getElem?] at e2
        obtain ⟨y, hy, ry⟩ := l.get e2
        have a3 := a1.vw.wrote (o' := .lst ds.dropLast) e (.lst l.dropLast)
        exact ⟨.inl ⟨rfl, _, SqL.of hu⟩, a, _, y, rfl, rfl, hu, by rw [l.length]; exact hy, k _ _ _ _ _ (a1.trans a3) ry h1⟩
      · exact h1.elim
  · exact h1.elim
end
end VL
set_option maxHeartbeats 2000000
namespace VL
open PySem PySem.Spec L2
open PyProof.Rows hiding St
def mDvmW : CV := fun ds S Q => match ds with
  | [.int i, .int j] => CDivW i j ∧ Q (.tup [.int (i / j), .int (i % j)]) S
  | _ => False
theorem mDvmW_e {i j : Int} {S : Store} {Q : D → Store → Prop} : mDvmW [.int i, .int j] S Q = (CDivW i j ∧ Q (.tup [.int (i / j), .int (i % j)]) S) := rfl
theorem cv_divmodW {X : Cx} : CallV X (.builtin "divmod") mDvmW := by
  refine ⟨_, call_divmodW, ?_⟩
  intro ds vs G S H Q Q' vw rl h k
  unfold mDvmW at h
  split at h
  · cases rl with
    | cons r t =>
      cases t with
      | cons r2 t =>
        cases t; cases r; cases r2
        rename_i i j
        refine ⟨_, _, rfl, ⟨h.1.1, PyProof.noPylong_of_log2 h.1.2⟩, fun p hp => ?_⟩
        have a3 := vw.froze (o := .tup [.int (i / j), .int (i % j)]) hp
        exact k _ S _ _ _ a3 (.tup (SqT.of upd_same) (.cons (.int _) (.cons (.int _) .nil))) h.2
  · exact h.elim
end VL
set_option maxHeartbeats 2000000
namespace VL
open PySem PySem.Spec L2
open PyProof.Rows hiding St
/-- keys and values are these texts -/
inductive KC : List (Option Expr) → List Expr → List (Str × Str) → Prop
  | nil : KC [] [] []
  | cons {k v : Str} {j j2 : Nat} {p p2 : Pos} {ks : List (Option Expr)} {vs : List Expr} {cs : List (Str × Str)} (t : KC ks vs cs) : KC (some (.Constant (.str k) j p) :: ks) (.Constant (.str v) j2 p2 :: vs) ((k, v) :: cs)
abbrev PrS := Sem Value × Sem Value
def pairsC (env : Env) (pos : Pos) : List (Option Expr) → List Expr → List PrS
  | some k :: ks, v :: vs => (eval k env, do let x ← eval v env; standAt pos; pure x) :: pairsC env pos ks vs
  | _, _ => []
theorem pairsC_eq {env : Env} {pos : Pos} : ∀ {ks : List (Option Expr)} {vs : List Expr} {cs : List (Str × Str)}, KC ks vs cs → (evalEachOpt ks env).zip ((evalEach vs env).map fun v => do let x ← v; standAt pos; pure x) = (pairsC env pos ks vs).map fun p => (some p.1, p.2)
  | _, _, _, .nil => rfl
  | _, _, _, .cons t => by
    simp only [evalEachOpt, evalEach, List.map_cons, List.zip_cons_cons, pairsC]
    rw [pairsC_eq t]; rfl
theorem pairsC_len {env : Env} {pos : Pos} : ∀ {ks : List (Option Expr)} {vs : List Expr} {cs : List (Str × Str)}, KC ks vs cs → (pairsC env pos ks vs).length = cs.length
  | _, _, _, .nil => rfl
  | _, _, _, .cons t => by simp only [pairsC, List.length_cons, pairsC_len t]
def kvC (cs : List (Str × Str)) : List (Key × V) := cs.map fun c => (.inr c.1, .str c.2)
section
variable {X : Cx} {pins : List (Addr × Obj)} {σ : L2.St} {E : Value → Shared → Prop}
/-- a text put into a dict under a text -/
theorem set_txt {H : Hp} {s : Shared} {d : Addr} {acc : List (Key × V)} {k v : Str} {tk tv : Tok} {Q : Unit → Shared → Prop} (I : Inv X pins σ (upd H d (.dK acc)) s) (hl : acc.length < 1000) (h : ∀ s', Inv X pins σ (upd H d (.dK (putK acc (.inr k) (.str v)))) s' → Q () s') :
    wpAny (model X.prog X.w) X.A (dictSet d (.str k tk) (.str v tv)) Q E s := by
  obtain ⟨z, hd, vs, rel, dd⟩ := dk_of I.hok upd_same
  have hz : vs.length ≤ sizeLine := by rw [← rel.length]; exact z
  have rk : RelV (kV (.inr k)) (.str k tk) := ⟨tk, rfl⟩
  refine wpAny_dictSet_pairs (hsz := hz) (kV_is rk) dd fun h' dd' hs => h _ ?_
  have he : ∃ q, h'.get? d = some q := let ⟨q, _, _, hq, _⟩ := dd'; ⟨q, hq⟩
  have hl : (putK acc (.inr k) (V.str v)).length ≤ sizeLine := by have := length_putK acc (.inr k) (V.str v); rw [sizeLine_eq]; omega
  have := d_write (t' := s.toks + 1) I (by rw [upd_same]; exact True.intro) hs he (dk_new hl hd (rel.put (.inr k) (show RelV (.str v) (.str v tv) from ⟨tv, rfl⟩)) dd')
  rwa [upd_upd] at this
theorem txt_run {H : Hp} {s : Shared} {x : Str} {j : Nat} {p : Pos} {Q : Value → Shared → Prop} (I : Inv X pins σ H s) (h : ∀ t s', Inv X pins σ H s' → Q (.str x t) s') : wpAny (model X.prog X.w) X.A (eval (.Constant (.str x) j p) X.env) Q E s :=
  Calls.Constant_str (h _ _ (I.tok _))
theorem long_go {d : Addr} {H : Hp} {pos : Pos} : ∀ {ks : List (Option Expr)} {vs : List Expr} {cs : List (Str × Str)}, KC ks vs cs → ∀ (acc : List (Key × V)) (s : Shared) (Q : PUnit → Shared → Prop), Inv X pins σ (upd H d (.dK acc)) s → acc.length + cs.length ≤ 1000 →
    (∀ s', Inv X pins σ (upd H d (.dK (mergeK acc (kvC cs)))) s' → Q PUnit.unit s') →
    wpAny (model X.prog X.w) X.A (forIn (pairsC X.env pos ks vs) PUnit.unit fun (x : PrS) (_ : PUnit) => (do let kv ← x.1; let vv ← holding [kv] x.2; holding [kv, vv] (dictSet d kv vv); pure (ForInStep.yield PUnit.unit) : Sem (ForInStep PUnit))) Q X.xe s
  | _, _, _, .nil, acc, s, Q, I, _, h => by
    rw [pairsC, List.forIn_nil]
    exact wpAny_pure (h s I)
    all_goals (intros; simp_all)
  | _, _, _, .cons (k := k) (v := v) (j := j) (j2 := j2) (p := p) (p2 := p2) (cs := cs) t, acc, s, Q, I, hl, h => by
    rw [pairsC, List.forIn_cons]
    refine wpAny_bind (wpAny_bind (txt_run (j := j) (p := p) I fun t1 s1 I1 => ?_))
    refine wpAny_bind (wpAny_holding (wpAny_bind (txt_run (j := j2) (p := p2) I1 fun t2 s2 I2 => wpAny_bind (wpAny_standAt (wpAny_pure ?_)))))
    rw [List.length_cons] at hl
    refine wpAny_bind (wpAny_holding (set_txt I2 (by omega) fun s3 I3 => wpAny_pure ?_))
    have := length_putK acc (.inr k) (V.str v)
    exact long_go t _ s3 Q I3 (by omega) h
theorem sub_long {H : Hp} {s : Shared} {pos : Pos} {ks : List (Option Expr)} {vs : List Expr} {cs : List (Str × Str)} {Q : Addr → Shared → Prop} (kc : KC ks vs cs) (h15 : 15 < cs.length) (h1000 : cs.length ≤ 1000) (I : Inv X pins σ H s)
    (h : ∀ d s', H d = none → Inv X pins σ (upd H d (.dK (mergeK [] (kvC cs)))) s' → Q d s') : wpAny (model X.prog X.w) X.A (subDict (pairsC X.env pos ks vs)) Q X.xe s := by
  unfold subDict
  refine wpAny_bind (wpAny_alloc ?_)
  refine wpAny_bind (wpAny_holding ?_)
  rw [if_neg (by rw [pairsC_len kc]; omega)]
  have hn := I.hok.fresh (Nat.le_refl s.heap.objs.size)
  have I1 := I.laid (a := s.heap.objs.size) (o := .dK []) (h' := s.heap.push { cls := .type "dict", data := .dict #[] }) (t' := s.toks) (fun _ _ q => Heap.get?_push_of_some _ q) (Nat.le_refl _) (dk_empty s.heap I.big)
  refine wpAny_bind (wpAny_rule ?_)
  refine wpAny_bind (long_go kc [] _ _ I1 (by simpa using h1000) fun s' I' => wpAny_pure (wpAny_pure (h _ s' hn I')))
theorem sub_one {H : Hp} {s : Shared} {pos : Pos} {ks : List (Option Expr)} {vs : List Expr} {c : Str × Str} {Q : Addr → Shared → Prop} (kc : KC ks vs [c]) (I : Inv X pins σ H s)
    (h : ∀ d s', H d = none → Inv X pins σ (upd H d (.dK [(.inr c.1, .str c.2)])) s' → Q d s') : wpAny (model X.prog X.w) X.A (subDict (pairsC X.env pos ks vs)) Q X.xe s := by
  have hn := I.hok.fresh (Nat.le_refl s.heap.objs.size)
  have I1 := I.laid (a := s.heap.objs.size) (o := .dK []) (h' := s.heap.push { cls := .type "dict", data := .dict #[] }) (t' := s.toks) (fun _ _ q => Heap.get?_push_of_some _ q) (Nat.le_refl _) (dk_empty s.heap I.big)
  cases kc with
  | @cons k v j j2 p p2 ks vs cs t =>
    cases t
    unfold subDict
    refine wpAny_bind (wpAny_alloc ?_)
    refine wpAny_bind (wpAny_holding ?_)
    rw [if_pos (by simp [pairsC])]
    rw [pairsC]
    refine wpAny_bind (evalPairs_cons (txt_run (j := j) (p := p) I1 fun t1 s1 I1 => wpAny_bind (txt_run (j := j2) (p := p2) I1 fun t2 s2 I2 => wpAny_bind (wpAny_standAt (wpAny_pure (evalPairs_nil ?_))))))
    refine wpAny_holding ?_
    rw [List.forIn_cons]
    refine wpAny_bind ?_
    dsimp only
    refine wpAny_bind (wpAny_bind (set_txt I2 (by simp) fun s3 I3 => wpAny_pure ?_))
    dsimp only
    rw [List.forIn_nil]
    exact wpAny_pure (wpAny_pure (wpAny_pure (h _ s3 hn I3)))
end
section
variable {prog : Program} {w : World} {K : Type} [DecidableEq K] {knd : KeyKind prog w K} {A : Around} {E : Value → Shared → Prop} {s : Shared}
theorem put_fresh {d : Addr} {kvs : List (K × Value)} {k : K} {key v : Value} {Q : Unit → Shared → Prop} (hkey : knd.is k key = true) (hm : s.heap.DictOf knd d kvs) (hnot : k ∉ kvs.map (·.1)) (hsz : kvs.length ≤ sizeLine)
    (hQ : ∀ h', h'.DictOf knd d (kvs ++ [(k, v)]) → Heap.SameBut d s.heap h' → Q () { s with heap := h' }) : wpAny (model prog w) A (dictPut d (knd.hash k) key v) Q E s := by
  obtain ⟨o, es, ep, ho, hc, hd, hk, hp, hn⟩ := hm
  have hes : es.size ≤ sizeLine := by
    have e1 := hp.length
    have e2 : es.toList.length = es.size := by simp
    omega
  unfold dictPut
  refine wpAny_bind (wpAny_dictFind_of hkey ho hd hk ?_)
  have hidx : (es.findIdx? fun e => knd.is k e.key) = kvs.findIdx? fun kv => decide (kv.1 = k) := by
    rw [← hp.findIdx k]; obtain ⟨l⟩ := es; simp
  have hnone : (kvs.findIdx? fun kv => decide (kv.1 = k)) = none := List.findIdx?_eq_none_iff.mpr fun x hx => by
    simp only [decide_eq_false_iff_not]
    exact fun e => hnot (List.mem_map.mpr ⟨x, hx, e⟩)
  rw [hidx, hnone]
  refine wpAny_updateDictKeys (hz := hes) ho hd (hQ _ ⟨_, _, ep + 1, Heap.get?_update_self _ ho (Obj.isFreed_of_dict (Obj.data_mapDictKeys hd _)), hc.mapDictKeys _, Obj.data_mapDictKeys hd _, hk.push hkey _, ?_, ?_⟩ (Heap.SameBut.update ..))
  · have := hp.append hkey (knd.hash k) v
    obtain ⟨l⟩ := es
    simpa using this
  · rw [List.map_append, List.nodup_append]
    refine ⟨hn, by simp, ?_⟩
    intro a ha b hb
    simp only [List.map_cons, List.map_nil, List.mem_singleton] at hb
    subst hb
    exact fun e => hnot (e ▸ ha)
theorem merge_one {d o : Addr} {kvs : List (K × Value)} {k : K} {v : Value} {Q : Unit → Shared → Prop} (hdo : d ≠ o) (hoS : (o == sysModules) = false) (hd : s.heap.DictOf knd d kvs) (hne : kvs ≠ []) (ho : s.heap.DictOf knd o [(k, v)]) (hnot : k ∉ kvs.map (·.1)) (hsz : kvs.length ≤ sizeLine)
    (hQ : ∀ h', h'.DictOf knd d (kvs ++ [(k, v)]) → h'.DictOf knd o [(k, v)] → Heap.SameBut d s.heap h' → Q () { s with heap := h' }) : wpAny (model prog w) A (mergeMapping d (.ref o) false) Q E s := by
  obtain ⟨od, esd, epd, hod, hcd, hdd, hkd, hpd, hnd⟩ := id hd
  obtain ⟨oo, eso, epo, hoo, hco, hdo', hko, hpo, hno⟩ := id ho
  unfold mergeMapping
  refine wpAny_bind (wpAny_isInstance ho.typeIs isSubtype_dict_dict ?_)
  simp only [if_true]
  refine wpAny_bind (wpAny_specialOf ho.typeIs F.slot_dict_iter.lookup ?_)
  refine wpAny_bind (wpAny_pure ?_)
  simp only [beq_self_eq_true]
  rw [if_neg (by rw [hoS]; exact Bool.false_ne_true)]
  refine wpAny_bind (wpAny_dictEntries hod hdd ?_)
  have hemp : esd.isEmpty = false := by
    have := hpd.length
    cases h : esd.isEmpty with
    | false => rfl
    | true =>
      rw [Array.isEmpty_iff.mp h] at this
      exact absurd (List.length_eq_zero_iff.mp (by simpa using this.symm)) hne
  simp only [hemp, Bool.false_eq_true, if_false]
  refine wpAny_bind (wpAny_dictEntries hoo hdo' ?_)
  refine wpAny_bind (wpAny_dictEpoch hoo hdo' ?_)
  have hlen : eso.size = 1 := by
    have := hpo.length
    simpa using this
  simp only [hlen, show List.range 1 = [0] from rfl, List.forIn_cons]
  refine wpAny_bind (wpAny_bind (wpAny_bind (wpAny_dictEntries hoo hdo' ?_)))
  have hlt : 0 < eso.size := by omega
  rw [Array.getElem?_eq_getElem hlt]
  obtain ⟨hkey, hval⟩ := hpo.get? (i := 0) (e := eso[0]) (by simp [hlt]) (k := k) (v := v) rfl
  obtain ⟨k', hkey', hhash⟩ := hko eso[0] (Array.getElem_mem hlt)
  obtain rfl : k' = k := knd.inj _ _ _ hkey' hkey
  dsimp only
  rw [hhash, hval]
  refine wpAny_bind (wpAny_holding (put_fresh hkey hd hnot hsz fun h' hd' hs' => ?_))
  have hoo' : h'.get? o = some oo := (hs'.2 o (Ne.symm hdo)).trans hoo
  refine wpAny_bind (wpAny_dictEpoch hoo' hdo' ?_)
  rw [if_neg (by simp)]
  refine wpAny_pure ?_
  dsimp only
  rw [List.forIn_nil]
  exact wpAny_pure (wpAny_pure (hQ h' hd' ⟨oo, eso, epo, hoo', hco, hdo', hko, hpo, hno⟩ hs'))
theorem gather_more (f : (Option (Sem Value) × Sem Value) → (Option Addr × List (Sem Value × Sem Value)) → Sem (ForInStep (Option Addr × List (Sem Value × Sem Value))))
    (hf : ∀ (p : Sem Value × Sem Value) (run : List (Sem Value × Sem Value)), run.length + 1 < 17 → f (some p.1, p.2) (none, run) = pure (.yield (none, run ++ [p]))) (more : List (Option (Sem Value) × Sem Value)) :
    ∀ (items run : List (Sem Value × Sem Value)), run.length + items.length < 17 → forIn (items.map (fun p => (some p.1, p.2)) ++ more) ((none : Option Addr), run) f = forIn more (none, run ++ items) f
  | [], run, _ => by simp
  | p :: rest, run, h => by
    rw [List.map_cons, List.cons_append, List.forIn_cons, hf p run (by simp at h; omega), pure_bind]
    have := gather_more f hf more rest (run ++ [p]) (by simp at h ⊢; omega)
    simpa using this
theorem disp_18 (P : List (Sem Value × Sem Value)) (q r : Sem Value × Sem Value) (hP : P.length = 16) :
    dictDisplay ((P ++ [q, r]).map fun p => (some p.1, p.2)) = (do
      let d ← subDict (P ++ [q])
      let sub ← holding [.ref d] (subDict [r])
      (holding [.ref d, .ref sub] (mergeMapping d (.ref sub) false)).onRaise fun x => do let _ ← holding [.ref d, x] (runValue (.builtin "proto.let_go" {}))
      pure (.ref d)) := by
  unfold dictDisplay
  dsimp only
  rw [List.map_append, gather_more _ (fun p run h => by
    have hne : ((run ++ [(p.1, p.2)]).length == 17) = false := by simp; omega
    simp only [hne, Bool.false_eq_true, if_false]) _ P [] (by simp; omega)]
  have h17 : (([] ++ P ++ [(q.1, q.2)]).length == 17) = true := by simp; omega
  have hr : (([] ++ [(r.1, r.2)] : List (Sem Value × Sem Value)).length == 17) = false := by simp
  have hne : ([] ++ P ++ [(q.1, q.2)]).isEmpty = false := by simp
  simp only [List.map_cons, List.map_nil, List.forIn_cons, List.forIn_nil, h17, hr, hne, if_true, Bool.false_eq_true, if_false, bind_assoc, pure_bind, List.nil_append]
  simp [hP, map_eq_pure_bind, -bind_pure_comp]
end
theorem putK_new {acc : List (Key × V)} {k : Key} {v : V} (h : k ∉ acc.map (·.1)) : putK acc k v = acc ++ [(k, v)] := by
  unfold putK
  rw [if_neg]
  rw [List.any_eq_true]
  rintro ⟨kv, hkv, e⟩
  exact h (List.mem_map.mpr ⟨kv, hkv, by simpa using e⟩)
theorem mergeK_new : ∀ (more acc : List (Key × V)), (acc.map (·.1) ++ more.map (·.1)).Nodup → mergeK acc more = acc ++ more
  | [], acc, _ => by simp [mergeK]
  | (k, v) :: r, acc, h => by
    have hk : k ∉ acc.map (·.1) := by
      simp only [List.map_cons] at h
      exact fun z => (List.nodup_append.mp h).2.2 k z k List.mem_cons_self rfl
    have e : mergeK acc ((k, v) :: r) = mergeK (putK acc k v) r := rfl
    rw [e, putK_new hk, mergeK_new r _ (by simpa using h)]
    simp
theorem KC.cut {ks : List (Option Expr)} {vs : List Expr} {cs : List (Str × Str)} (h : KC ks vs cs) : ∀ n : Nat, KC (ks.take n) (vs.take n) (cs.take n) ∧ KC (ks.drop n) (vs.drop n) (cs.drop n) := by
  induction h with
  | nil => intro n; simp only [List.take_nil, List.drop_nil]; exact ⟨.nil, .nil⟩
  | cons t ih =>
    intro n
    cases n with
    | zero => exact ⟨.nil, .cons t⟩
    | succ n => exact ⟨.cons (ih n).1, (ih n).2⟩
theorem pairsC_cut {env : Env} {pos : Pos} {ks : List (Option Expr)} {vs : List Expr} {cs : List (Str × Str)} (h : KC ks vs cs) : ∀ n : Nat, pairsC env pos ks vs = pairsC env pos (ks.take n) (vs.take n) ++ pairsC env pos (ks.drop n) (vs.drop n) := by
  induction h with
  | nil => intro n; simp [pairsC]
  | cons t ih =>
    intro n
    cases n with
    | zero => simp [pairsC]
    | succ n => simp only [List.take_succ_cons, List.drop_succ_cons, pairsC, List.cons_append, ← ih n]
def mDctC (cs : List (Str × Str)) : VE := fun _ S Q => Q (.dct (cs.map fun c => (.inr c.1, .str c.2))) S
theorem mDctC_e {cs : List (Str × Str)} {ρ : Sl} {S : Store} {Q : D → Store → Prop} : mDctC cs ρ S Q = Q (.dct (cs.map fun c => (.inr c.1, .str c.2))) S := rfl
theorem rkC {K : PySem.W.Frag} {G : Hp} : ∀ cs : List (Str × Str), RpK K G (kvC cs) (cs.map fun c => (.inr c.1, .str c.2))
  | [] => .nil
  | c :: cs => .cons (.str c.2) (rkC cs)
section
variable {X : Cx}
def tDis18 (cs : List (Str × Str)) : TE := fun σ H Q => ∀ d, H d = none → ∀ o, o ≠ d → H o = none → ∀ u, Q (.ref d) (upd (upd (upd H d (.dK (kvC (cs.take 17)))) o u) d (.dK (kvC cs)))
theorem kv_append : ∀ {ks ls : List (Key × V)} {vs ws : List (Key × Value)}, KV ks vs → KV ls ws → KV (ks ++ ls) (vs ++ ws)
  | _, _, _, _, .nil, s => s
  | _, _, _, _, .cons h t, s => .cons h (kv_append t s)
theorem pe_dis18 {pos : Pos} {keys : List (Option Expr)} {values : List Expr} {cs : List (Str × Str)} (kc : KC keys values cs) (h18 : cs.length = 18) (nd : (cs.map (·.1)).Nodup) : PE X (.Dict keys values pos) (tDis18 cs) := by
  refine ⟨fun pins s σ H Q I q => ?_⟩
  obtain ⟨k1, k2⟩ := kc.cut 17
  obtain ⟨c, ec⟩ : ∃ c, cs.drop 17 = [c] := by
    have : (cs.drop 17).length = 1 := by rw [List.length_drop]; omega
    exact List.length_eq_one_iff.mp this
  have ecs : cs = cs.take 17 ++ [c] := by rw [← ec, List.take_append_drop]
  rw [ec] at k2
  have l17 : (cs.take 17).length = 17 := by rw [List.length_take]; omega
  obtain ⟨P, q1, eP⟩ : ∃ P q1, pairsC X.env pos (keys.take 17) (values.take 17) = P ++ [q1] := by
    have hl := pairsC_len (env := X.env) (pos := pos) k1
    rw [l17] at hl
    have hne : pairsC X.env pos (keys.take 17) (values.take 17) ≠ [] := fun z => by rw [z] at hl; cases hl
    exact ⟨_, _, (List.dropLast_concat_getLast hne).symm⟩
  have lP : P.length = 16 := by
    have hl := pairsC_len (env := X.env) (pos := pos) k1
    rw [eP, l17, List.length_append, List.length_singleton] at hl
    omega
  obtain ⟨r1, er⟩ : ∃ r1, pairsC X.env pos (keys.drop 17) (values.drop 17) = [r1] := by
    have hl := pairsC_len (env := X.env) (pos := pos) k2
    exact List.length_eq_one_iff.mp hl
  have ndk : ((kvC cs).map (·.1)).Nodup := by
    unfold kvC
    rw [List.map_map]
    have : (cs.map ((fun x : Key × V => x.1) ∘ fun c : Str × Str => ((Sum.inr c.1 : Key), V.str c.2))) = (cs.map (·.1)).map Sum.inr := by rw [List.map_map]; rfl
    rw [this]
    exact List.Pairwise.map _ (fun a b h z => h (Sum.inr.inj z)) nd
  have ekv : kvC cs = kvC (cs.take 17) ++ [(.inr c.1, .str c.2)] := by
    conv => lhs; rw [ecs]
    unfold kvC
    rw [List.map_append]; rfl
  have nd1 : ((kvC (cs.take 17)).map (·.1) ++ [(Sum.inr c.1 : Key)]).Nodup := by
    rw [ekv, List.map_append] at ndk
    exact ndk
  rw [arm_eval_Dict, pairsC_eq kc, pairsC_cut kc 17, eP, er, List.append_assoc]
  show wpAny _ _ (standAt _ >>= _) _ _ _
  refine wpAny_bind (wpAny_standAt ?_)
  rw [show [q1] ++ [r1] = [q1, r1] from rfl, disp_18 P q1 r1 lP, ← eP, ← er]
  refine wpAny_bind (sub_long k1 (by omega) (by omega) I fun d s1 hd I1 => ?_)
  rw [mergeK_new _ [] (by simpa using (List.nodup_append.mp nd1).1), List.nil_append] at I1
  refine wpAny_bind (wpAny_holding (sub_one k2 I1 fun o s2 ho I2 => ?_))
  have hod : o ≠ d := fun z => by subst z; rw [upd_same] at ho; cases ho
  have hoH : H o = none := by rw [upd_ne hod] at ho; exact ho
  have Hd : (upd (upd H d (.dK (kvC (cs.take 17)))) o (.dK [(.inr c.1, .str c.2)])) d = some (.dK (kvC (cs.take 17))) := by rw [upd_ne (Ne.symm hod), upd_same]
  obtain ⟨z, hds, vs, rel, dd⟩ := dk_of I2.hok Hd
  obtain ⟨z2, hos, vs2, rel2, dd2⟩ := dk_of I2.hok upd_same
  obtain ⟨⟨k2', v2'⟩, rfl⟩ : ∃ kv, vs2 = [kv] := by
    have := rel2.length
    exact List.length_eq_one_iff.mp (by simpa using this.symm)
  have r2 := rel2
  cases r2 with
  | cons h t =>
  have ek : Sum.inr c.1 = k2' := h.1
  subst ek
  have keys1 : vs.map (·.1) = (kvC (cs.take 17)).map (·.1) := (rel.keys).symm
  refine wpAny_bind (wpAny_onRaise (wpAny_holding (merge_one (knd := mixKind X.prog X.w) (Ne.symm hod) hos dd (fun z => ?_) dd2 (fun z => ?_) (by rw [← rel.length]; exact z) fun h' d1 d2 sb => ?_)))
  · have := rel.length
    rw [z] at this
    simp only [kvC, List.length_map, l17] at this
    cases this
  · rw [keys1] at z
    exact (List.nodup_append.mp nd1).2.2 _ z _ (List.mem_singleton.mpr rfl) rfl
  · refine wpAny_pure ⟨.ref d, upd (upd (upd H d (.dK (kvC (cs.take 17)))) o (.dK [(.inr c.1, .str c.2)])) d (.dK (kvC cs)), ?_, rfl, q d hd o hod hoH _⟩
    have he : ∃ x, h'.get? d = some x := let ⟨x, _, _, hx, _⟩ := d1; ⟨x, hx⟩
    refine d_write (t' := s2.toks) I2 (by rw [Hd]; exact True.intro) sb he (dk_new ?_ hds ?_ d1)
    · simp only [kvC, List.length_map, h18]; rw [sizeLine_eq]; decide
    · rw [ekv]
      exact kv_append rel (.cons ⟨rfl, h.2⟩ .nil)
theorem v_dictC {pos : Pos} {keys : List (Option Expr)} {values : List Expr} {cs : List (Str × Str)} (kc : KC keys values cs) (h18 : cs.length = 18) (nd : (cs.map (·.1)).Nodup) : PE X (.Dict keys values pos) (LE X.K (mDctC cs)) := by
  refine PE.imp (pe_tlk (pe_dis18 kc h18 nd)) fun σ H Q' ⟨ρ, S, G, Q, vw, re, hm, k⟩ => fun d hd o hod ho u => ⟨d, _, rfl, upd_same, trivial, fun od => ?_⟩
  have e : upd (upd (upd H d (.dK (kvC (cs.take 17)))) o u) d (.dK (kvC cs)) = upd (upd H o u) d (.dK (kvC cs)) := by
    funext b
    unfold upd
    by_cases h1 : b = d
    · rw [if_pos h1, if_pos h1]
    · rw [if_neg h1, if_neg h1, if_neg h1]
  rw [e, upd_upd]
  have n0 := vw.none ho
  have a1 := (Aft.refl vw).junk (u := u) ho n0.2 n0.1
  have hd1 : (upd H o u) d = none := by rw [upd_ne (Ne.symm hod)]; exact hd
  have a2 := a1.vw.froze (o := .frz od (.dK (kvC cs))) hd1
  exact k _ S _ _ _ (a1.trans a2) (.dct upd_same (rkC cs)) hm
end
end VL
set_option maxHeartbeats 2000000
namespace VL
open PySem PySem.Spec L2
open PyProof.Rows hiding St
theorem atI_ex {ds : List D} {r : Int} (h0 : 0 ≤ r) (h1 : r < (ds.length : Int)) : ∃ d, atI ds r = some d ∧ d ∈ ds := by
  obtain ⟨n, rfl⟩ : ∃ n : Nat, r = (n : Int) := ⟨r.toNat, by omega⟩
  have hn : n < ds.length := by omega
  exact ⟨ds[n], by rw [atI_lit, List.getElem?_eq_getElem hn], List.getElem_mem hn⟩
def textI (i : Int) : Str := Str.ofString (toString i)
def partT (d : D) : Str := match d with
  | .tup [.str b, .int k] => (if b = "peg" then Str.ofString "p" else Str.ofString "b") ++ textI k
  | .int i => textI i
  | _ => ""
def lineT (d : D) : Str := match d with
  | .tup (.str w :: ds) => Str.join (Str.ofString " ") (w :: ds.map partT)
  | _ => ""
theorem sapp_len (a b : Str) : (a ++ b).length = a.length + b.length := by show (a.cps ++ b.cps).size = _; simp [Str.length]
theorem join_two (sep x y : Str) (r : List Str) : Str.join sep (x :: y :: r) = x ++ sep ++ Str.join sep (y :: r) := rfl
theorem join_len (sep : Str) : ∀ (ys : List Str), (Str.join sep ys).length ≤ (ys.map (·.length)).sum + ys.length * sep.length
  | [] => by simp [Str.join]; decide
  | [x] => by simp [Str.join]
  | x :: y :: r => by
    have ih := join_len sep (y :: r)
    rw [join_two, sapp_len, sapp_len]
    simp only [List.map_cons, List.sum_cons, List.length_cons, Nat.succ_mul] at ih ⊢
    omega
theorem textI_len {i : Int} (h : smlI i = true) : (textI i).length ≤ 151 := int_len60 (of_decide_eq_true h)
theorem smlI_40 {i : Int} (h0 : -(10 ^ 40) < i) (h1 : i < 10 ^ 40) : smlI i = true := smlI_of (by omega) (by omega)
/-- a number that isn't too big -/
def Big (d : D) : Prop := match d with
  | .int i => -(10 ^ 40) < i ∧ i < 10 ^ 40
  | _ => True
theorem fit_big {c : Nat} {d : D} (h : fitC c d = true) : isHome d = true ∨ ∃ i, d = .int i := by
  unfold fitC at h
  split at h
  · exact .inl h
  · right
    split at h
    · cases d <;> first | exact ⟨_, rfl⟩ | cases h
    · split at h
      · cases d <;> first | exact ⟨_, rfl⟩ | cases h
      · split at h
        · cases d <;> first | exact ⟨_, rfl⟩ | cases h
        · cases d <;> first | exact ⟨_, rfl⟩ | cases h
/-- what stands in a line -/
def PartK (d : D) : Prop := isHome d = true ∨ ∃ i, d = .int i ∧ smlI i = true
theorem PartK.of {c : Nat} {d : D} (h : fitC c d = true) (b : sml d = true) : PartK d := (fit_big h).imp id fun ⟨i, e⟩ => by subst e; exact ⟨i, rfl, by simpa only [sml] using b⟩
theorem PartK.big {c : Nat} {d : D} (h : fitC c d = true) (b : Big d) : PartK d := (fit_big h).imp id fun ⟨i, e⟩ => by subst e; exact ⟨i, rfl, smlI_40 b.1 b.2⟩
theorem fits_partS : ∀ {es : List (Nat × Str)} {ds : List D}, fitsAll es ds = true → smlL ds = true → ∀ d ∈ ds, PartK d
  | [], [], _, _, d, hd => nomatch hd
  | e :: es, y :: ds, h, b, d, hd => by
    simp only [fitsAll, Bool.and_eq_true] at h
    simp only [smlL, Bool.and_eq_true] at b
    rcases List.mem_cons.mp hd with rfl | hd
    · exact .of h.1 b.1
    · exact fits_partS h.2 b.2 d hd
theorem partT_len {d : D} (h : PartK d) : (partT d).length ≤ 152 := by
  rcases h with h | ⟨i, rfl, a⟩
  · obtain ⟨b, k, e, h0, h1⟩ := isHome_ex h
    subst e
    have hk := textI_len (i := k) (smlI_of (by omega) (by omega))
    cases b
    · simp only [partT, sapp_len]; rw [if_neg (by decide +kernel)]; have : (Str.ofString "b").length = 1 := by decide +kernel
      try simp only [Bool.false_eq_true, if_false]
      omega
    · simp only [partT, sapp_len]; rw [if_pos (by decide +kernel)]; have : (Str.ofString "p").length = 1 := by decide +kernel
      omega
  · have := textI_len a; simp only [partT]; omega
theorem row_len {ds : List D} (h : ∀ d ∈ ds, PartK d) : ((ds.map partT).map (·.length)).sum ≤ 152 * ds.length := by
  induction ds with
  | nil => simp
  | cons d ds ih =>
    have h1 := partT_len (h d List.mem_cons_self)
    have := ih fun e he => h e (List.mem_cons_of_mem _ he)
    simp only [List.map_cons, List.sum_cons, List.length_cons, Nat.mul_succ]; omega
theorem one_sp : (Str.ofString " ").length = 1 := by decide +kernel
theorem lineT_len {w : Str} {ds : List D} (h : ∀ d ∈ ds, PartK d) : (lineT (.tup (.str w :: ds))).length ≤ w.length + 153 * ds.length + 1 := by
  have h1 := join_len (Str.ofString " ") (w :: ds.map partT)
  have h2 := row_len h
  rw [one_sp] at h1
  simp only [List.map_cons, List.sum_cons, List.length_cons, List.length_map] at h1
  simp only [lineT]; omega
theorem eqq_self {S : Store} {d : D} (h : okq S d) : eqq S d d = true := by
  unfold eqq
  exact SeqAt.eqv_refl _ (SeqAt.canLay_of_shaped h)
end VL
set_option maxHeartbeats 4000000
namespace VL
open PySem PySem.Spec L2
open PyProof.Rows hiding St
/-- a part of a line of such a def -/
def PartP (ks : List D) (bins many : Int) (c : Nat) (d : D) : Prop := fitC c d = true ∧ Sm 200 1 d ∧ (c = 104 → binIn bins d = true ∧ pegIn ks d = true) ∧ (c = 103 → binIn bins d = true) ∧ (c = 116 → ltI many d = true)
def keepsOk (ks : List D) : Prop := ks.length ≤ 3 ∧ ∀ k ∈ ks, isWithin k 1 3 = true
theorem log_small {m : Int} (h0 : 0 ≤ m) (h1 : m ≤ 1000) : m.natAbs.log2 < 9000 := log2_small (k := 10) (by omega) (by decide) (by decide)
theorem sm_int {i : Int} (a : -(10 ^ 44) < i) (b : i < 10 ^ 44) : Sm 200 1 (.int i) := ⟨smlI_of (i := i) (by omega) (by omega), by simp [VL.cnt], by simp [dep]⟩
/-- a line of such a def -/
structure LineP (ks : List D) (bins many defs : Int) (last : Bool) (l : D) : Prop where
  line : lineD l = true
  own : ownB l ks bins = true
  stay : ∀ at_ : Int, (last = true ∨ at_ + 1 < many) → stayB l at_ many = true
  call : calledB defs l = true
  sm : Sm 1000 2 l
  sh : short l = true
theorem short_fit {c : Nat} {d : D} (h : fitC c d = true) : short d = true := by
  cases d with
  | tup ds =>
    have hh : isHome (.tup ds) = true := by
      unfold fitC at h
      split at h
      · exact h
      · split at h
        · cases h
        · split at h
          · cases h
          · split at h
            · cases h
            · cases h
    obtain ⟨b, k, e, _⟩ := isHome_ex hh
    cases e
    cases b <;> simp [short, shortL] <;> decide +kernel
  | str s =>
    unfold fitC at h
    split at h
    · cases h
    · split at h
      · cases h
      · split at h
        · cases h
        · split at h
          · cases h
          · cases h
  | lst ds =>
    unfold fitC at h
    split at h
    · cases h
    · split at h
      · cases h
      · split at h
        · cases h
        · split at h
          · cases h
          · cases h
  | _ => rfl
theorem line_made {ks : List D} {bins many defs : Int} {last : Bool} {w : Str} {es : List (Nat × Str)} {ds : List D} (he : lineTab.lookup w = some es) (hr : RowP (PartP ks bins many) (es.map (·.1)) ds) (hw : last = true → w = "go" ∨ w = "back")
    (hc : ∀ x ∈ partsW w ds "called", ltI defs x = true) : LineP ks bins many defs last (.tup (.str w :: ds)) := by
  have hf : fitsAll es ds = true := hr.fits fun c d h => h.1
  have mem := look_mem he
  obtain ⟨-, s1, s2, -, -⟩ := table_signs _ mem
  have s2' : w.length ≤ 10 := s2
  have l3 : es.length ≤ 3 := (table_ok _ mem).2
  have len := hr.len
  rw [List.length_map] at len
  have smw : Sm 200 1 (.str w) := ⟨by simpa only [sml] using s1, by simp only [VL.cnt]; omega, by simp [dep]⟩
  have all : AllSm 200 1 (.str w :: ds) := fun e he => by
    rcases List.mem_cons.mp he with rfl | h
    · exact smw
    · obtain ⟨c, _, q⟩ := hr.each e h; exact q.2.1
  refine ⟨by simp only [lineD, he, hf], own_of (es := es) (fun x hx => (hr.part he hx (c := 103) (by decide +kernel)).2.2.2.1 rfl) (fun x hx => (hr.part he hx (c := 104) (by decide +kernel)).2.2.1 rfl), fun at_ h => stay_of he hf (fun x hx => (hr.part he hx (c := 116) (by decide +kernel)).2.2.2.2 rfl) ?_, by simpa only [calledB, List.all_eq_true] using hc, (AllSm.tup all (k := 4) (by simp only [List.length_cons]; omega)).mono (by decide) (by decide), short_of (by simp only [List.length_cons]; omega) fun d hd => ?_⟩
  · rcases h with h | h
    · rcases hw h with h | h
      · exact .inl h
      · exact .inr (.inl h)
    · exact .inr (.inr h)
  · rcases List.mem_cons.mp hd with rfl | h
    · simp only [short, decide_eq_true_eq]; omega
    · obtain ⟨c, _, q⟩ := hr.each d h; exact short_fit q.1
theorem no_called : ∀ e ∈ lineTab, e.1 ≠ "call" → ∀ p ∈ e.2, p.2 ≠ "called" := by decide +kernel
theorem called_nil {w : Str} {es : List (Nat × Str)} {ds : List D} (he : lineTab.lookup w = some es) (hw : w ≠ "call") {P : D → Prop} : ∀ x ∈ partsW w ds "called", P x := fun x hx => by
  have e1 : partsW w ds "called" = pickL "called" es ds := by unfold partsW; rw [he]; rfl
  rw [e1] at hx
  have : ∀ {es : List (Nat × Str)} {ds : List D}, (∀ p ∈ es, p.2 ≠ "called") → pickL "called" es ds = [] := by
    intro es
    induction es with
    | nil => intro ds _; rfl
    | cons e es ih =>
      intro ds h
      cases ds with
      | nil => rfl
      | cons d ds => simp only [pickL, if_neg (h e (by simp))]; exact ih fun p hp => h p (by simp [hp])
  rw [this (no_called _ (look_mem he) hw)] at hx
  exact nomatch hx
theorem call_made {ks : List D} {bins many defs : Int} {last : Bool} {r : Int} (h0 : 0 ≤ r) (h1 : r < defs) (h6 : defs ≤ 6) (hl : last = true → ("call" : Str) = "go" ∨ ("call" : Str) = "back") : LineP ks bins many defs last (.tup [.str "call", .int r]) := by
  have he : lineTab.lookup ("call" : Str) = some [((116 : Nat), ("called" : Str))] := rfl
  have hf : fitsAll [(116, "called")] [.int r] = true := by simp [fitsAll, fitC, isFrom, h0]
  have hl : last = false := by
    cases last with
    | false => rfl
    | true => exact absurd (hl rfl) (by decide +kernel)
  have all : AllSm 200 1 [.str "call", .int r] := fun e he => by
    simp only [List.mem_cons, List.not_mem_nil, or_false] at he
    rcases he with rfl | rfl
    · exact smb_iff.mp (by decide +kernel)
    · exact sm_int (by omega) (by omega)
  refine ⟨by simp only [lineD, he, hf], own_of (es := [(116, "called")]) (fun x hx => ?_) (fun x hx => ?_), fun at_ h => stay_of he hf (fun x hx => ?_) (.inr (.inr ?_)), ?_, (AllSm.tup all (k := 4) (by simp)).mono (by decide) (by decide), ?_⟩
  · rw [show partsW "call" [.int r] "read" = [] from rfl] at hx; exact nomatch hx
  · rw [show partsW "call" [.int r] "written" = [] from rfl] at hx; exact nomatch hx
  · rw [show partsW "call" [.int r] "goal" = [] from rfl] at hx; exact nomatch hx
  · rcases h with h | h
    · rw [hl] at h; cases h
    · exact h
  · simp only [calledB, show partsW "call" [.int r] "called" = [.int r] from rfl, List.all_cons, List.all_nil, ltI, Bool.and_true, decide_eq_true_eq]; exact h1
  · refine short_of (by simp) fun d hd => ?_
    simp only [List.mem_cons, List.not_mem_nil, or_false] at hd
    rcases hd with rfl | rfl
    · decide +kernel
    · rfl
/-- a def of such a program -/
structure DefP (defs : Int) (d : D) : Prop where
  ex : ∃ t g ks b ls, d = .tup [.str t, .str g, .tup ks, .int b, .tup ls] ∧ Sm 100 1 (.str t) ∧ Sm 100 1 (.str g) ∧ keepsOk ks ∧ (∀ l ∈ ls, Sm 1000 2 l ∧ short l = true)
  ok : defB d = true
  call : callsB defs d = true
  sm : Sm 60000 4 d
  sh : short d = true
theorem sm_nb {s : Str} (h : ∀ c ∈ s.cps.toList, c ∈ [110, 98, 45]) (hl : s.length ≤ 4) : Sm 100 1 (.str s) := by
  refine ⟨?_, by simp only [VL.cnt]; omega, by simp [dep]⟩
  simp only [sml]
  exact strOk_of fun c hc => by have := h c hc; simp only [List.mem_cons, List.not_mem_nil, or_false] at this; omega
theorem def_made {defs b : Int} {t g : Str} {ks : List Int} {ls : List D} (ht : ∀ c ∈ t.cps.toList, c ∈ [110, 98, 45]) (tl : t.length = 4) (hg : ∀ c ∈ g.cps.toList, c ∈ [110, 98, 45]) (gl : g.length = 1) (hks : ks.Pairwise (· < ·)) (hk : ∀ k ∈ ks, 1 ≤ k ∧ k ≤ 3) (kl : ks.length ≤ 3) (b0 : 0 ≤ b) (b1 : b ≤ 4)
    (l0 : 1 ≤ ls.length) (l1 : ls.length ≤ 24) (hl : ∀ (j : Nat) l, ls[j]? = some l → LineP (ks.map D.int) b ls.length defs (decide ((j : Int) = ls.length - 1)) l) : DefP defs (.tup [.str t, .str g, .tup (ks.map D.int), .int b, .tup ls]) := by
  have st := sm_nb ht (by omega)
  have sg := sm_nb hg (by omega)
  have kok : keepsOk (ks.map D.int) := ⟨by simpa using kl, fun k hk' => by obtain ⟨i, hi, rfl⟩ := List.mem_map.mp hk'; have := hk i hi; simp [isWithin]; omega⟩
  have each : ∀ l ∈ ls, ∃ last, LineP (ks.map D.int) b ls.length defs last l := fun l hm => by
    obtain ⟨j, hj⟩ := List.getElem?_of_mem hm
    exact ⟨_, hl j l hj⟩
  have smk : Sm 700 2 (.tup (ks.map D.int)) := by
    have a : AllSm 200 1 (ks.map D.int) := fun e he => by obtain ⟨i, hi, rfl⟩ := List.mem_map.mp he; have := hk i hi; exact sm_int (by omega) (by omega)
    exact (a.tup (k := 3) (by simpa using kl)).mono (by decide) (by decide)
  have sml' : Sm 25000 3 (.tup ls) := by
    have a : AllSm 1000 2 ls := fun e he => let ⟨_, q⟩ := each e he; q.sm
    exact (a.tup l1).mono (by decide) (by decide)
  have kb : keepsB (.tup (ks.map D.int)) = true := by
    simp only [keepsB, Bool.and_eq_true, List.all_eq_true]
    exact ⟨kok.2, rise_of hks⟩
  have lb : linesB (.tup ls) = true := by
    simp only [linesB, Bool.and_eq_true, List.all_eq_true, decide_eq_true_eq]
    exact ⟨⟨l0, l1⟩, fun l hm => let ⟨_, q⟩ := each l hm; q.line⟩
  have sb : ∀ {s : Str} {m : Int}, (∀ c ∈ s.cps.toList, c ∈ [110, 98, 45]) → (s.length : Int) = m → signsB (.str s) m = true := fun {s m} h e => by
    simp only [signsB, e, decide_true, Bool.true_and, List.all_eq_true, decide_eq_true_eq]
    exact h
  refine ⟨⟨t, g, _, b, ls, rfl, st, sg, kok, fun l hm => let ⟨_, q⟩ := each l hm; ⟨q.sm, q.sh⟩⟩, ?_, ?_, ?_, ?_⟩
  · simp only [defB, sb ht (show (t.length : Int) = 4 by omega), sb hg (show (g.length : Int) = 1 by omega), kb, lb, Bool.true_and, Bool.and_eq_true]
    refine ⟨by simp [isWithin]; omega, right_of fun j l hj => ?_⟩
    have q := hl j l hj
    refine ⟨?_, q.own⟩
    rw [Nat.zero_add]
    refine q.stay _ ?_
    by_cases e : (j : Int) = ls.length - 1
    · exact .inl (decide_eq_true e)
    · have := getE hj
      exact .inr (by omega)
  · simp only [callsB, List.all_eq_true]
    exact fun l hm => let ⟨_, q⟩ := each l hm; q.call
  · have a : AllSm 25000 3 [.str t, .str g, .tup (ks.map D.int), .int b, .tup ls] := fun e he => by
      simp only [List.mem_cons, List.not_mem_nil, or_false] at he
      rcases he with rfl | rfl | rfl | rfl | rfl
      · exact st.mono (by decide) (by decide)
      · exact sg.mono (by decide) (by decide)
      · exact smk.mono (by decide) (by decide)
      · exact (sm_int (by omega) (by omega)).mono (by decide) (by decide)
      · exact sml'
    have q := a.tup (k := 5) (by simp)
    have c1 : VL.cnt (.str t) ≤ 100 := st.2.1
    have c2 : VL.cnt (.str g) ≤ 100 := sg.2.1
    have c3 := smk.2.1
    have c4 : VL.cnt (.int b) ≤ 200 := (sm_int (i := b) (by omega) (by omega)).2.1
    have c5 := sml'.2.1
    refine ⟨q.1, ?_, q.2.2⟩
    rw [show VL.cnt (.tup [.str t, .str g, .tup (ks.map D.int), .int b, .tup ls]) = cntL [.str t, .str g, .tup (ks.map D.int), .int b, .tup ls] + 3 by rw [VL.cnt]]
    simp only [cntL]
    omega
  · refine short_of (by simp) fun d hd => ?_
    simp only [List.mem_cons, List.not_mem_nil, or_false] at hd
    rcases hd with rfl | rfl | rfl | rfl | rfl
    · simp only [short, decide_eq_true_eq]; omega
    · simp only [short, decide_eq_true_eq]; omega
    · exact short_of (by rw [List.length_map]; omega) fun e he => by obtain ⟨i, _, rfl⟩ := List.mem_map.mp he; rfl
    · rfl
    · exact short_of (by omega) fun e he => let ⟨_, q⟩ := each e he; q.sh
/-- such a program -/
structure ProgP (d : D) : Prop where
  ex : ∃ ds, d = .tup ds ∧ 1 ≤ ds.length ∧ ds.length ≤ 6 ∧ ∀ e ∈ ds, DefP ds.length e
  ok : progB d = true
  sm : Sm 400000 5 d
  sh : short d = true
theorem prog_made {ds : List D} (h0 : 1 ≤ ds.length) (h1 : ds.length ≤ 6) (h : ∀ e ∈ ds, DefP ds.length e) : ProgP (.tup ds) := by
  refine ⟨⟨ds, rfl, h0, h1, h⟩, ?_, ?_, short_of (by omega) fun e he => (h e he).sh⟩
  · simp only [progB, Bool.and_eq_true, List.all_eq_true, decide_eq_true_eq]
    exact ⟨⟨⟨h0, h1⟩, fun e he => (h e he).ok⟩, fun e he => (h e he).call⟩
  · exact (AllSm.tup (n := 60000) (m := 4) (fun e he => (h e he).sm) h1).mono (by decide) (by decide)
end VL
set_option maxHeartbeats 4000000
namespace VL
open PySem PySem.Spec L2
open PyProof.Rows hiding St
def intT (d : D) : Str := match d with
  | .int i => textI i
  | _ => ""
def keepsT (ks : List D) : Str := if ks.isEmpty then "-" else Str.join (Str.ofString "") (ks.map intT)
def headT (t g : Str) (ks : List D) (b : Int) : Str := Str.join (Str.ofString " ") [Str.ofString "def", t, g, keepsT ks, textI b]
def rowsT (d : D) : List Str := match d with
  | .tup [.str t, .str g, .tup ks, .int b, .tup ls] => headT t g ks b :: ls.map lineT
  | _ => []
/-- a program, small enough to be held by the model's sizes -/
structure Prog (d : D) : Prop where
  ok : progB d = true
  sm : sml d = true
  sh : short d = true
theorem ProgP.prog {d : D} (h : ProgP d) : Prog d := ⟨h.ok, h.sm.1, h.sh⟩
/-- what a program's line is -/
structure LineL (l : D) : Prop where
  ex : ∃ w es r, l = .tup (.str w :: r) ∧ lineTab.lookup w = some es ∧ fitsAll es r = true ∧ (∀ d ∈ r, PartK d) ∧ r.length ≤ 3 ∧ w.length ≤ 10 ∧ PyData.strOk w = true
theorem fits_len' : ∀ {es : List (Nat × Str)} {ds : List D}, fitsAll es ds = true → ds.length = es.length
  | [], [], _ => rfl
  | _ :: _, _ :: _, h => by
    simp only [fitsAll, Bool.and_eq_true] at h
    simp [fits_len' h.2]
theorem lineL_of {l : D} (h : lineD l = true) (s : sml l = true) : LineL l := by
  obtain ⟨w, r, es, rfl, he, hf⟩ := lineD_ex h
  have mem := look_mem he
  have st := table_signs _ mem
  have l3 : es.length ≤ 3 := (table_ok _ mem).2
  have s' : smlL (D.str w :: r) = true := by simpa only [sml] using s
  simp only [smlL, Bool.and_eq_true] at s'
  exact ⟨w, es, r, rfl, he, hf, fits_partS hf s'.2, by have := fits_len' hf; omega, st.2.2.1, st.2.1⟩
structure DefL (d : D) : Prop where
  ex : ∃ t g ks b ls, d = .tup [.str t, .str g, .tup ks, .int b, .tup ls] ∧ t.length = 4 ∧ (∀ c ∈ t.cps.toList, c ∈ [110, 98, 45]) ∧ g.length = 1 ∧ (∀ c ∈ g.cps.toList, c ∈ [110, 98, 45]) ∧ (∀ k ∈ ks, ∃ i, k = .int i ∧ 1 ≤ i ∧ i ≤ 3) ∧ riseB ks = true ∧ 0 ≤ b ∧ b ≤ 4 ∧
    1 ≤ ls.length ∧ ls.length ≤ 24 ∧ (∀ l ∈ ls, LineL l) ∧ rightB ks b ls.length 0 ls = true
theorem signs_ex {s : D} {m : Int} (h : signsB s m = true) : ∃ t, s = .str t ∧ (t.length : Int) = m ∧ ∀ c ∈ t.cps.toList, c ∈ [110, 98, 45] := by
  cases s with
  | str t =>
    simp only [signsB, Bool.and_eq_true, decide_eq_true_eq, List.all_eq_true] at h
    exact ⟨t, rfl, h.1, h.2⟩
  | _ => cases h
theorem within_ex {d : D} {a b : Int} (h : isWithin d a b = true) : ∃ i, d = .int i ∧ a ≤ i ∧ i ≤ b := by
  cases d with
  | int i =>
    simp only [isWithin, Bool.and_eq_true, decide_eq_true_eq] at h
    exact ⟨i, rfl, h⟩
  | _ => simp [isWithin] at h
theorem defL_of {d : D} (h : defB d = true) (s : sml d = true) : DefL d := by
  cases d with
  | tup ds =>
    match ds, h, s with
    | [t, g, k, b, l], h, s =>
      simp only [defB, Bool.and_eq_true] at h
      obtain ⟨⟨⟨⟨h1, h2⟩, h3⟩, h4, h5⟩, h6⟩ := h
      obtain ⟨t, rfl, t1, t2⟩ := signs_ex h1
      obtain ⟨g, rfl, g1, g2⟩ := signs_ex h2
      obtain ⟨b, rfl, b0, b1⟩ := within_ex h4
      cases k <;> try (cases h3; done)
      rename_i ks
      cases l <;> try (cases h5; done)
      rename_i ls
      simp only [keepsB, Bool.and_eq_true, List.all_eq_true] at h3
      simp only [linesB, Bool.and_eq_true, decide_eq_true_eq, List.all_eq_true] at h5
      have s' : smlL [D.str t, .str g, .tup ks, .int b, .tup ls] = true := by simpa only [sml] using s
      have sl := smlL_mem (d := D.tup ls) s' (by simp)
      have sl' : smlL ls = true := by simpa only [sml] using sl
      exact ⟨t, g, ks, b, ls, rfl, by omega, t2, by omega, g2, fun k hk => within_ex (h3.1 k hk), h3.2, b0, b1, h5.1.1, h5.1.2, fun l hl => lineL_of (h5.2 l hl) (smlL_mem sl' hl), h6⟩
  | _ => cases h
structure ProgL (d : D) : Prop where
  ex : ∃ ds, d = .tup ds ∧ 1 ≤ ds.length ∧ ds.length ≤ 6 ∧ (∀ e ∈ ds, DefL e) ∧ ∀ e ∈ ds, callsB ds.length e = true
theorem Prog.l {d : D} (h : Prog d) : ProgL d := by
  obtain ⟨ok, sm, sh⟩ := h
  cases d with
  | tup ds =>
    simp only [progB, Bool.and_eq_true, decide_eq_true_eq, List.all_eq_true] at ok
    have s' : smlL ds = true := by simpa only [sml] using sm
    exact ⟨ds, rfl, ok.1.1.1, ok.1.1.2, fun e he => defL_of (ok.1.2 e he) (smlL_mem s' he), fun e he => ok.2 e he⟩
  | _ => cases ok
theorem ints_of {ks : List D} {lo hi : Int} (h : ∀ k ∈ ks, ∃ i, k = D.int i ∧ lo ≤ i ∧ i ≤ hi) : ∃ ns : List Int, ks = ns.map D.int ∧ ∀ i ∈ ns, lo ≤ i ∧ i ≤ hi := by
  induction ks with
  | nil => exact ⟨[], rfl, fun i hi => nomatch hi⟩
  | cons k ks ih =>
    obtain ⟨ns, rfl, h2⟩ := ih fun k hk => h k (List.mem_cons_of_mem _ hk)
    obtain ⟨i, rfl, i0, i1⟩ := h k List.mem_cons_self
    refine ⟨i :: ns, rfl, fun j hj => ?_⟩
    rcases List.mem_cons.mp hj with rfl | hj
    · exact ⟨i0, i1⟩
    · exact h2 j hj
theorem rise_pw : ∀ {ns : List Int}, riseB (ns.map D.int) = true → ns.Pairwise (· < ·)
  | [], _ => .nil
  | [_], _ => List.pairwise_singleton _ _
  | a :: b :: r, h => by
    simp only [List.map_cons, riseB, Bool.and_eq_true, decide_eq_true_eq] at h
    have ih := rise_pw (ns := b :: r) h.2
    refine List.pairwise_cons.mpr ⟨fun x hx => ?_, ih⟩
    rcases List.mem_cons.mp hx with rfl | hx
    · exact h.1
    · have := (List.pairwise_cons.mp ih).1 x hx
      omega
theorem rise_few {ns : List Int} (h : ∀ i ∈ ns, 1 ≤ i ∧ i ≤ 3) (p : ns.Pairwise (· < ·)) : ns.length ≤ 3 := by
  match ns, p with
  | [], _ => simp
  | [_], _ => simp
  | [_, _], _ => simp
  | [_, _, _], _ => simp
  | a :: b :: c :: d :: r, p =>
    exfalso
    have h1 := h a (by simp)
    have h2 := h d (by simp)
    simp only [List.pairwise_cons, List.mem_cons] at p
    have p1 := p.1 b (.inl rfl)
    have p2 := p.2.1 c (.inl rfl)
    have p3 := p.2.2.1 d (.inl rfl)
    omega
theorem sum_le {n : Nat} {ys : List Str} (h : ∀ y ∈ ys, y.length ≤ n) : (ys.map (·.length)).sum ≤ n * ys.length := by
  induction ys with
  | nil => simp
  | cons y ys ih =>
    have h1 := h y List.mem_cons_self
    have := ih fun z hz => h z (List.mem_cons_of_mem _ hz)
    simp only [List.map_cons, List.sum_cons, List.length_cons, Nat.mul_succ]; omega
theorem join_le {n : Nat} (sep : Str) {ys : List Str} (h : ∀ y ∈ ys, y.length ≤ n) : (Str.join sep ys).length ≤ (n + sep.length) * ys.length := by
  have h1 := join_len sep ys
  have h2 := sum_le h
  rw [Nat.add_mul, Nat.mul_comm sep.length]; omega
theorem len_0 : (Str.ofString "").length = 0 := by decide +kernel
theorem len_def : (Str.ofString "def").length = 3 := by decide +kernel
theorem intT_len {ns : List Int} (h : ∀ i ∈ ns, 1 ≤ i ∧ i ≤ 3) : ∀ y ∈ (ns.map D.int).map intT, y.length ≤ 151 := fun y hy => by
  obtain ⟨d, hd, rfl⟩ := List.mem_map.mp hy
  obtain ⟨i, hi, rfl⟩ := List.mem_map.mp hd
  have := h i hi
  exact textI_len (smlI_of (by omega) (by omega))
theorem keepsT_len {ns : List Int} (h : ∀ i ∈ ns, 1 ≤ i ∧ i ≤ 3) (l : ns.length ≤ 3) : (keepsT (ns.map D.int)).length ≤ 453 := by
  unfold keepsT
  split
  · decide +kernel
  · have h1 := join_le (Str.ofString "") (intT_len h)
    rw [len_0, List.length_map, List.length_map] at h1
    omega
theorem headT_len {t g : Str} {ns : List Int} {b : Int} (ht : t.length = 4) (hg : g.length = 1) (h : ∀ i ∈ ns, 1 ≤ i ∧ i ≤ 3) (l : ns.length ≤ 3) (b0 : 0 ≤ b) (b1 : b ≤ 4) : (headT t g (ns.map D.int) b).length ≤ 800 := by
  have h1 := join_len (Str.ofString " ") [Str.ofString "def", t, g, keepsT (ns.map D.int), textI b]
  have h2 := keepsT_len h l
  have h3 := textI_len (i := b) (smlI_of (by omega) (by omega))
  simp only [List.map_cons, List.map_nil, List.sum_cons, List.sum_nil, List.length_cons, List.length_nil, one_sp, len_def, ht, hg] at h1
  unfold headT; omega
theorem LineL.len {l : D} (h : LineL l) : (lineT l).length ≤ 560 := by
  obtain ⟨w, es, r, rfl, _, _, pk, l3, lw, _⟩ := h.ex
  have h1 := lineT_len (w := w) pk
  have : 153 * r.length ≤ 153 * 3 := Nat.mul_le_mul_left _ l3
  omega
theorem DefL.keeps {d : D} (h : DefL d) : ∃ (t g : Str) (ns : List Int) (b : Int) (ls : List D), d = .tup [.str t, .str g, .tup (ns.map D.int), .int b, .tup ls] ∧ t.length = 4 ∧ (∀ c ∈ t.cps.toList, c ∈ [110, 98, 45]) ∧ g.length = 1 ∧ (∀ c ∈ g.cps.toList, c ∈ [110, 98, 45]) ∧ (∀ i ∈ ns, (1 : Int) ≤ i ∧ i ≤ 3) ∧ ns.Pairwise (· < ·) ∧ ns.length ≤ 3 ∧ 0 ≤ b ∧ b ≤ 4 ∧
    1 ≤ ls.length ∧ ls.length ≤ 24 ∧ (∀ l ∈ ls, LineL l) ∧ rightB (ns.map D.int) b ls.length 0 ls = true := by
  obtain ⟨t, g, ks, b, ls, rfl, h1, h2, h3, h4, h5, h6, h7⟩ := h.ex
  obtain ⟨ns, rfl, hns⟩ := ints_of h5
  have pw := rise_pw h6
  exact ⟨t, g, ns, b, ls, rfl, h1, h2, h3, h4, hns, pw, rise_few hns pw, h7⟩
theorem DefL.rows {d : D} (h : DefL d) : (rowsT d).length ≤ 25 ∧ ∀ r ∈ rowsT d, r.length ≤ 800 := by
  obtain ⟨t, g, ns, b, ls, rfl, h1, h2, h3, h4, h5, h6, h7, h8, h9, h10, h11, h12, h13⟩ := h.keeps
  refine ⟨by simp only [rowsT, List.length_cons, List.length_map]; omega, fun r hr => ?_⟩
  simp only [rowsT] at hr
  rcases List.mem_cons.mp hr with rfl | hr
  · exact headT_len h1 h3 h5 h7 h8 h9
  · obtain ⟨l, hl, rfl⟩ := List.mem_map.mp hr
    have := (h12 l hl).len
    omega
theorem relabel_look {env : Env} {x : Str} : ∀ {names : List (Str × NameKind)}, names.lookup x = some .cell ∨ names.lookup x = some .free →
    (names.map fun (n, k) => if (k == NameKind.free && env.scope.kind == .function && env.kindOf n == some .cell) then (n, NameKind.cell) else (n, k)).lookup x = some .cell ∨
    (names.map fun (n, k) => if (k == NameKind.free && env.scope.kind == .function && env.kindOf n == some .cell) then (n, NameKind.cell) else (n, k)).lookup x = some .free
  | [], h => by simp at h
  | (n, k) :: r, h => by
    have ih := @relabel_look env x r
    simp only [List.map_cons, List.lookup_cons] at h ⊢
    by_cases hx : (x == n) = true
    · rw [hx] at h
      simp only at h
      split
      · simp only [List.lookup_cons, hx]
        simp
      · simp only [List.lookup_cons, hx]
        exact h
    · have hx : (x == n) = false := by simpa using hx
      rw [hx] at h
      simp only at h
      split
      · simp only [List.lookup_cons, hx]
        exact ih h
      · simp only [List.lookup_cons, hx]
        exact ih h
/-- a comprehension within another's block -/
theorem blk_nest {N : List Str} {X : Cx} {s : Shared} {H : Hp} {scope scope2 : Scope} {cl : List (Str × Addr)} {C : Addr} {fp : List Addr} {own2 : List (Str × Nat)} (hN : X.N = N) (h : blkC N scope scope2 own2 = true) :
    BlkOk (X.blk s H scope (compEnvC scope cl C X.env) fp).N (X.blk s H scope (compEnvC scope cl C X.env) fp).env.scope scope2 own2 := by
  have e : (X.blk s H scope (compEnvC scope cl C X.env) fp).N = N := hN
  rw [e]
  have b := blkOk_by h
  exact ⟨b.kind, b.uniq, b.ix, fun y hy e => relabel_look (b.free y hy e), b.own⟩
/-- the law's letter of a part -/
def letN (e : Nat × Str) : Nat := if e.1 = 104 then 119 else if e.1 = 103 then 114 else if e.1 = 97 then 102 else if e.1 = 116 then (if e.2 = "goal" then 103 else 100) else e.1
def lettersD (es : List (Nat × Str)) : D := .str ⟨(es.map letN).toArray⟩
def partsTab : List (Key × D) := [(.inr "put", .str "wn"), (.inr "none", .str "w"), (.inr "copy", .str "wr"), (.inr "add", .str "wrr"), (.inr "less", .str "wrr"), (.inr "new", .str "wff"), (.inr "getn", .str "wrk"), (.inr "setn", .str "rkr"), (.inr "getb", .str "wrk"), (.inr "setb", .str "rkr"),
  (.inr "tell", .str "r"), (.inr "go", .str "g"), (.inr "if", .str "rg"), (.inr "ifnone", .str "rg"), (.inr "same", .str "rrg"), (.inr "call", .str "d"), (.inr "back", .str ""), (.inr "rest", .str "")]
theorem parts_tab : ∀ e ∈ lineTab, valD partsTab (.inr e.1) = some (lettersD e.2) := by
  intro e he
  simp only [lineTab, List.mem_cons, List.not_mem_nil, or_false] at he
  rcases he with rfl | rfl | rfl | rfl | rfl | rfl | rfl | rfl | rfl | rfl | rfl | rfl | rfl | rfl | rfl | rfl | rfl | rfl <;> rfl
def lets6 : List Nat := [119, 114, 110, 102, 107, 103, 100]
def codeL (c : Nat) : Nat := if c = 119 then 104 else if c = 114 then 103 else if c = 102 then 97 else if c = 103 ∨ c = 100 then 116 else c
theorem lets_ok : ∀ e ∈ lineTab, ∀ q ∈ e.2, codeL (letN q) = q.1 ∧ letN q ∈ lets6 := by decide +kernel
end VL
set_option maxHeartbeats 2000000
namespace VL
open PySem PySem.Spec L2
open PyProof.Rows hiding St
def mPar (i j : Nat) (ma : VA) : VS := fun E ρ S => ma ρ S fun ds S1 => match ds with
  | [v, w] => E.nx ((ρ.set i (some v)).set j (some w)) S1
  | _ => False
theorem mPar_e {i j : Nat} {ma : VA} {E : VEnds} {ρ : Sl} {S : Store} : mPar i j ma E ρ S = ma ρ S fun ds S1 => match ds with
  | [v, w] => E.nx ((ρ.set i (some v)).set j (some w)) S1
  | _ => False := rfl
section
variable {X : Cx}
theorem s_par {i j : Nat} {x y : Str} {a b : Expr} {ma : VA} {px py pt pos : Pos} {kt k2 pt2} (hc : X.calm = true) (hN : X.N.Nodup) (hi : X.N[i]? = some x) (hj : X.N[j]? = some y) (hij : i ≠ j)
    (hx : X.env.scope.names.lookup x = some .local) (hy : X.env.scope.names.lookup y = some .local) (ha : PA X [a, b] (LA X.K ma))
    (hw : swappedStores [.Tuple [.Name x px, .Name y py] kt pt] (.Tuple [a, b] k2 pt2) X.env = pure (some [x, y]))
    (hs : swapsWithSole [.Tuple [.Name x px, .Name y py] kt pt] (.Tuple [a, b] k2 pt2) pos.line X.env = pure false := by rfl) :
    PS X (.Assign [.Tuple [.Name x px, .Name y py] kt pt] (.Tuple [a, b] k2 pt2) pos) (LS X.K (mPar i j ma)) := by
  refine PS.imp (ps_par hc hN hi hj hij hx hy ha hw hs) fun D' σ H ⟨ρ, S, G, E, vw, re, hm, ok⟩ => ⟨ρ, S, G, _, vw, re, hm, fun ds S1 vs H1 G1 a1 r1 h1 => ?_⟩
  match ds, r1, h1 with
  | [d1, d2], .cons r1 (.cons r2 .nil), h1 =>
    exact ⟨_, _, rfl, ok.nx _ S1 _ H1 G1 a1 (((re.mono a1.gg).set r1).set r2) h1⟩
end
end VL
set_option maxHeartbeats 2000000
namespace VL
open PySem PySem.Spec L2
open PyProof.Rows hiding St
def mInt : CV := fun ds S Q => match ds with
  | [.int i] => Q (.int i) S
  | [.bl b] => Q (.int (if b = true then 1 else 0)) S
  | _ => False
theorem mInt_i {i : Int} {S : Store} {Q : D → Store → Prop} : mInt [.int i] S Q = Q (.int i) S := rfl
theorem mInt_b {b : Bool} {S : Store} {Q : D → Store → Prop} : mInt [.bl b] S Q = Q (.int (if b = true then 1 else 0)) S := rfl
theorem cv_int {X : Cx} : CallV X (.type "int") mInt := by
  refine ⟨_, call_int1, ?_⟩
  intro ds vs G S H Q Q' vw rl h k
  unfold mInt at h
  split at h
  · cases rl with
    | cons r t => cases t; cases r; exact .inl ⟨_, rfl, k _ S _ _ _ (Aft.refl vw) (.int _) h⟩
  · cases rl with
    | cons r t => cases t; cases r; exact .inr ⟨_, rfl, k _ S _ _ _ (Aft.refl vw) (.int _) h⟩
  · exact h.elim
section
variable {prog : Program} {w : World} {A : Around} {E : Value → Shared → Prop} {s : Shared}
theorem adjust_rev (n : Nat) : Builtin.Slice.sliceAdjust none none (-1) (n : Int) = ((n : Int) - 1, -1) := by
  unfold Builtin.Slice.sliceAdjust
  simp
theorem places_rev (n : Nat) : Builtin.Slice.slicePlaces ((n : Int) - 1) (-1) (-1) = n := by
  unfold Builtin.Slice.slicePlaces
  simp
  split <;> omega
theorem fm_congr {α β : Type} {f g : α → Option β} : ∀ {l : List α}, (∀ x ∈ l, f x = g x) → l.filterMap f = l.filterMap g
  | [], _ => rfl
  | x :: l, h => by
    have ih := fm_congr (l := l) fun y hy => h y (List.mem_cons_of_mem _ hy)
    have h1 := h x List.mem_cons_self
    cases e : g x with
    | none => rw [List.filterMap_cons_none (h1.trans e), List.filterMap_cons_none e, ih]
    | some y => rw [List.filterMap_cons_some (h1.trans e), List.filterMap_cons_some e, ih]
theorem pick_rev (xs : Array Value) : ((List.range xs.size).filterMap fun (m : Nat) => xs[((xs.size : Int) - 1 + (m : Int) * (-1)).toNat]?) = xs.toList.reverse := by
  have e : (List.range xs.size).filterMap (fun (m : Nat) => xs[((xs.size : Int) - 1 + (m : Int) * (-1)).toNat]?) = ((List.range xs.size).map fun k => xs.size - 1 - k).filterMap (xs[·]?) := by
    rw [List.filterMap_map]
    refine fm_congr fun m hm => ?_
    have : m < xs.size := List.mem_range.mp hm
    have : ((xs.size : Int) - 1 + (m : Int) * (-1)).toNat = xs.size - 1 - m := by omega
    rw [this]; rfl
  rw [e, PySem.W.krv_range, List.filterMap_reverse, PySem.W.krv_all]
theorem sliceApplied_rev {sl : Addr} {n : Nat} {vs : Value} {Q : Int × Int × Nat → Shared → Prop} (hs : s.heap.IsSliceOf sl .none .none vs) (pv : IsPart vs (some (-1))) (h : Q ((n : Int) - 1, -1, n) s) : wpAny (model prog w) A (Builtin.Slice.sliceApplied (.ref sl) (pure (n : Int))) Q E s := by
  obtain ⟨os, hos, hcs, hds⟩ := id hs
  unfold Builtin.Slice.sliceApplied Builtin.Slice.sliceFields
  refine wpAny_bind (wpAny_bind (wpAny_field hos hds (x := .none) rfl (wpAny_bind (wpAny_field hos hds (x := .none) rfl (wpAny_bind (wpAny_field hos hds (x := vs) rfl (wpAny_pure ?_)))))))
  refine wpAny_bind (HT.slicePart_ pv ?_)
  show wpAny _ _ (if ((-1 : Int) == 0) = true then _ else _) _ _ s
  rw [if_neg (by decide)]
  refine wpAny_bind (slicePart_none (wpAny_bind (slicePart_none (wpAny_bind (wpAny_pure ?_)))))
  show wpAny _ _ (match Builtin.Slice.sliceAdjust none none (-1) (n : Int) with | (lo, hi) => pure (lo, (-1 : Int), Builtin.Slice.slicePlaces lo hi (-1))) _ _ s
  rw [adjust_rev n]
  show wpAny _ _ (pure ((n : Int) - 1, (-1 : Int), Builtin.Slice.slicePlaces ((n : Int) - 1) (-1) (-1))) _ _ s
  rw [places_rev]
  exact wpAny_pure h
theorem getItem_tuple_rev {t sl : Addr} {items : Array Value} {vs : Value} {Q : Value → Shared → Prop} (ht : IsTup s.heap t items) (hs : s.heap.IsSliceOf sl .none .none vs) (pv : IsPart vs (some (-1)))
    (h : Q (.ref s.heap.objs.size) { s with heap := s.heap.push { cls := .type "tuple", data := .seq items.toList.reverse.toArray } }) (hsz : items.size ≤ sizeLine) : wpAny (model prog w) A (getItem (.ref t) (.ref sl)) Q E s := by
  have htake : sizeOk (.seq items.toList.reverse.toArray) := by
    show items.toList.reverse.toArray.size ≤ sizeLine
    simpa using hsz
  obtain ⟨os, hos, hcs, hds⟩ := id hs
  have hTs : s.TypeIs (.ref sl) "slice" := ⟨os, hos, hcs⟩
  unfold getItem
  try with_reducible refine wpAny_holding ?_
  first | refine wpAny_bind (wpAny_pure ?_) | skip
  refine wpAny_bind (wpAny_sequenceKey ht.typeIs (by decide) ?_)
  refine wpAny_bind (wpAny_callSpecial?_slot (name := Str.ofString "__getitem__") ht.typeIs PyProof.Rows.slot_tuple_getitem
    (wpAny_call_entry PyProof.Rows.slot_tuple_getitem ht.typeIs entry_tuple_getitem ?_ (args_tuple_getitem _ _)))
  show wpAny _ _ (Builtin.Tuple.tupleItemsOf (.ref t) >>= _) _ _ s
  refine wpAny_bind (tupleItemsOf_ ht ?_)
  refine wpAny_bind (wpAny_typeOf hTs ?_)
  rw [if_pos (by decide)]
  refine wpAny_bind (sliceApplied_rev hs pv ?_)
  show wpAny _ _ (if (((items.size : Int) - 1 == 0) && ((-1 : Int) == 1) && (items.size == items.size)) = true then _ else _) _ _ s
  rw [if_neg (by simp), pick_rev]
  first
    | exact wpAny_bind (m := Builtin.Tuple.tupleExact _) (wpAny_newObj_type (wpAny_pure ⟨_, rfl, wpAny_pure h⟩) htake)
    | exact wpAny_bind (m := Builtin.Tuple.tupleExact _) (wpAny_newObj_type (wpAny_bind (wpAny_pure (wpAny_pure ⟨_, rfl, wpAny_pure h⟩))) htake)
    | exact wpAny_bind (wpAny_bind (m := Builtin.Tuple.tupleExact _) (wpAny_newObj_type (wpAny_pure (wpAny_pure ⟨_, rfl, wpAny_pure h⟩)) htake))
    | exact wpAny_bind (wpAny_bind (m := Builtin.Tuple.tupleExact _) (wpAny_newObj_type (wpAny_pure ⟨_, rfl, wpAny_pure h⟩) htake))
end
section
variable {X : Cx}
theorem RpL.rev {K : PySem.W.Frag} {G : Hp} : ∀ {xs : List V} {ds : List D}, RpL K G xs ds → RpL K G xs.reverse ds.reverse
  | _, _, .nil => .nil
  | _, _, .cons h t => by
    rw [List.reverse_cons, List.reverse_cons]
    exact (RpL.rev t).append (.cons h .nil)
theorem vals_rev : ∀ {xs : List V} {us : List Value}, Vals xs us → Vals xs.reverse us.reverse
  | _, _, .nil => .nil
  | _, _, .cons h t => by
    rw [List.reverse_cons, List.reverse_cons]
    exact (vals_rev t).append (.cons h .nil)
/-- x[::-1], x a tuple or a list -/
def tRev (K : PySem.W.Frag) (te : TE) (ts : TO) : TE := fun σ H Q => te σ H fun x H1 => ts σ H1 fun st H2 => st = some (-1) ∧ ((∃ a xs, x = .ref a ∧ SqT K H2 a xs ∧ ∀ p, H2 p = none → Q (.ref p) (upd H2 p (.tup xs.reverse))) ∨ ∃ a xs, x = .ref a ∧ SqL K H2 a xs ∧ ∀ p, H2 p = none → Q (.ref p) (upd H2 p (.lst xs.reverse)))
theorem pe_rev {e st : Expr} {te : TE} {ts : TO} {p2 pos : Pos} (he : PE X e te) (hst : PO X (some st) ts) : PE X (.Subscript e (.Slice none none (some st) p2) pos) (tRev X.K te ts) := by
  refine ⟨fun pins s σ H Q I h => ?_⟩
  refine Subscript_ (thn (he.run pins s σ H _ I h) fun v s1 ⟨x, H1, I1, r1, q1⟩ => ?_)
  refine wpAny_Slice ?_
  rw [evalPart_none]
  refine wpAny_pure ?_
  refine wpAny_pure ?_
  refine thn (hst.run pins s1 σ H1 _ I1 q1) fun vs s3 ⟨o, H3, I3, ps, e1, q3⟩ => ?_
  subst e1
  have I4 : Inv X pins σ H3 { s3 with heap := s3.heap.push { cls := .type "slice", data := .fields #[.none, .none, vs] } } := I3.kept (t' := s3.toks) fun b ob q => Heap.get?_push_of_some _ q
  rcases q3 with ⟨a, xs, rfl, hx, q⟩ | ⟨a, xs, rfl, hx, q⟩
  · cases r1
    obtain ⟨its, r, ht, hz⟩ := I4.tuple hx
    refine tail_any (T := "tuple") (ops := [.ref a, .ref s3.heap.objs.size]) ht.typeIs PyProof.Rows.slot_tuple_getitem.lookup ?_ (by with_unfolding_all rfl)
    refine getItem_tuple_rev ht (Heap.IsSliceOf.new ..) ps ?_ (by rw [List.size_toArray, ← r.length]; exact hz)
    exact ⟨.ref _, _, I4.laid (t' := s3.toks) (o := .tup xs.reverse) (fun b ob q => Heap.get?_push_of_some _ q) (Nat.le_refl _) ⟨by rw [List.length_reverse]; exact hz, its.toArray.toList.reverse, by simpa using vals_rev r, IsTup.new _ _⟩, rfl, q _ (I4.hok.fresh (Nat.le_refl _))⟩
  · cases r1
    obtain ⟨its, r, ht, hz⟩ := I4.list hx
    refine tail_any (T := "list") (ops := [.ref a, .ref s3.heap.objs.size]) ht.isList.typeIs slot_list_getitem.lookup ?_ (by with_unfolding_all rfl)
    refine wpAny_getItem_list_slice ht.isList (Heap.IsSliceOf.new ..) .none .none ps (by decide) ?_ (by rw [List.size_toArray, ← r.length]; exact hz)
    rw [PySem.W.krv_pick]
    exact ⟨.ref _, _, I4.laid (t' := s3.toks) (o := .lst xs.reverse) (fun b ob q => Heap.get?_push_of_some _ q) (Nat.le_refl _) ⟨by rw [List.length_reverse]; exact hz, its.toArray.toList.reverse, 0, by simpa using vals_rev r, Heap.get?_push_size _ rfl⟩, rfl, q _ (I4.hok.fresh (Nat.le_refl _))⟩
def mRev (m : VE) (ms : VO) : VE := fun ρ S Q => m ρ S fun d S1 => ms ρ S1 fun st S2 => st = some (-1) ∧ match d with
  | .tup ds => Q (.tup ds.reverse) S2
  | d => match rdR d S2 with
    | some ds => Q (.lst ds.reverse) S2
    | none => False
theorem mRev_e {m : VE} {ms : VO} {ρ : Sl} {S : Store} {Q : D → Store → Prop} : mRev m ms ρ S Q = m ρ S fun d S1 => ms ρ S1 fun st S2 => st = some (-1) ∧ match d with
  | .tup ds => Q (.tup ds.reverse) S2
  | d => match rdR d S2 with
    | some ds => Q (.lst ds.reverse) S2
    | none => False := rfl
theorem v_rev {e st : Expr} {m : VE} {ms : VO} {p2 pos : Pos} (he : PE X e (LE X.K m)) (hst : PO X (some st) (LO X.K ms)) : PE X (.Subscript e (.Slice none none (some st) p2) pos) (LE X.K (mRev m ms)) := by
  refine PE.imp (pe_rev he hst) fun σ H Q' ⟨ρ, S, G, Q, vw, re, hm, k⟩ => ?_
  refine ⟨ρ, S, G, _, vw, re, hm, fun d S1 v1 H1 G1 a1 r1 h1 => ?_⟩
  refine ⟨ρ, S1, G1, _, a1.vw, re.mono a1.gg, h1, fun l S2 H2 G2 a2 ⟨h2, h3⟩ => ⟨h2, ?_⟩⟩
  have rr := r1.mono a2.gg
  have a12 := a1.trans a2
  split at h3
  · cases rr with
    | @tup a xs ds ht rl =>
      refine .inl ⟨a, xs, rfl, same_t a2.vw.gh ht, fun p hp => ?_⟩
      have a4 := a2.vw.froze (o := .tup xs.reverse) hp
      exact k _ S2 _ _ _ (a12.trans a4) (.tup (SqT.of upd_same) (rl.rev.mono a4.gg)) h3
  · split at h3
    · rename_i ds e
      obtain ⟨a, xs, rfl, q, rl⟩ := rdR_ok a2.vw rr e
      refine .inr ⟨a, xs, rfl, q, fun p hp => ?_⟩
      have a4 := a2.vw.froze (o := .lst xs.reverse) hp
      exact k _ S2 _ _ _ (a12.trans a4) (.lst upd_same (rl.rev.mono a4.gg)) h3
    · exact h3.elim
end
end VL
set_option maxHeartbeats 2000000
namespace VL
open PySem PySem.Spec L2
open PyProof.Rows hiding St
def binsH (b : Int) : List D := (rngD 0 b.toNat).map fun k => .tup [.str "bin", k]
def homesW (ks : List D) (b : Int) : List D := .tup [.str "peg", .int 0] :: (ks.map (fun k => .tup [.str "peg", k]) ++ binsH b)
def homesR (b : Int) : List D := (rngD 0 4).map (fun k => .tup [.str "peg", k]) ++ binsH b
theorem sm_home {x : Str} {i : Int} (hx : x = "peg" ∨ x = "bin") (i0 : 0 ≤ i) (i1 : i ≤ 4) : Sm 200 1 (.tup [.str x, .int i]) := by
  have hs : Sm 40 0 (.str x) := by rcases hx with rfl | rfl <;> exact smb_iff.mp (by decide +kernel)
  obtain ⟨a1, a2, a3⟩ := hs
  have a1 : PyData.strOk x = true := by simpa only [sml] using a1
  refine ⟨by simp only [sml, smlL, a1, Bool.true_and, Bool.and_true]; exact smlI_of (i := i) (by omega) (by omega), ?_, ?_⟩
  · simp only [VL.cnt, cntL] at a2 ⊢; omega
  · simp only [dep, depL]; omega
theorem binsH_mem {b : Int} {d : D} (h0 : 0 ≤ b) (h4 : b ≤ 4) (h : d ∈ binsH b) : isHome d = true ∧ binIn b d = true ∧ (∀ ks, pegIn ks d = true) ∧ Sm 200 1 d := by
  unfold binsH at h
  obtain ⟨e, he, rfl⟩ := List.mem_map.mp h
  obtain ⟨i, hi, rfl⟩ := rng_mem he
  refine ⟨?_, ?_, fun ks => ?_, sm_home (.inr rfl) (by omega) (by omega)⟩
  · simp only [isHome, decide_true, Bool.or_true, Bool.true_and, Bool.and_eq_true, decide_eq_true_eq]; omega
  · simp only [binIn, decide_true, Bool.not_true, Bool.false_or, decide_eq_true_eq]; omega
  · simp only [pegIn]; rw [show decide (("bin" : Str) = "peg") = false by decide +kernel]; rfl
theorem peg_mem {b i : Int} (h0 : 0 ≤ i) (h3 : i ≤ 3) : isHome (.tup [.str "peg", .int i]) = true ∧ binIn b (.tup [.str "peg", .int i]) = true ∧ Sm 200 1 (.tup [.str "peg", .int i]) := by
  refine ⟨?_, ?_, sm_home (.inl rfl) h0 (by omega)⟩
  · simp [isHome]; omega
  · simp only [binIn]; rw [show decide (("peg" : Str) = "bin") = false by decide +kernel]; rfl
theorem homesW_mem {ks : List D} {b : Int} {d : D} (hk : keepsOk ks) (h0 : 0 ≤ b) (h4 : b ≤ 4) (h : d ∈ homesW ks b) : isHome d = true ∧ binIn b d = true ∧ pegIn ks d = true ∧ Sm 200 1 d := by
  unfold homesW at h
  rcases List.mem_cons.mp h with rfl | h
  · obtain ⟨a, b, c⟩ := peg_mem (b := b) (i := 0) (by decide) (by decide)
    exact ⟨a, b, by simp [pegIn], c⟩
  · rcases List.mem_append.mp h with h | h
    · obtain ⟨e, he, rfl⟩ := List.mem_map.mp h
      obtain ⟨i, rfl, i0, i1⟩ := within_ex (hk.2 e he)
      obtain ⟨a, b, c⟩ := peg_mem (b := b) (i := i) (by omega) (by omega)
      refine ⟨a, b, ?_, c⟩
      simp only [pegIn, decide_true, Bool.not_true, Bool.false_or, Bool.or_eq_true, decide_eq_true_eq]
      exact .inr (inF_int he)
    · obtain ⟨a, b, c, d⟩ := binsH_mem h0 h4 h
      exact ⟨a, b, c ks, d⟩
theorem homesR_mem {b : Int} {d : D} (h0 : 0 ≤ b) (h4 : b ≤ 4) (h : d ∈ homesR b) : isHome d = true ∧ binIn b d = true ∧ Sm 200 1 d := by
  unfold homesR at h
  rcases List.mem_append.mp h with h | h
  · obtain ⟨e, he, rfl⟩ := List.mem_map.mp h
    obtain ⟨i, hi, rfl⟩ := rng_mem he
    exact peg_mem (by omega) (by omega)
  · obtain ⟨a, b, c, d⟩ := binsH_mem h0 h4 h
    exact ⟨a, b, d⟩
theorem homesW_len {ks : List D} {b : Int} (hk : keepsOk ks) (h0 : 0 ≤ b) (h4 : b ≤ 4) : 0 < (homesW ks b).length ∧ (homesW ks b).length ≤ 8 := by
  have := hk.1
  unfold homesW binsH
  simp only [List.length_cons, List.length_append, List.length_map, rng_len]; omega
theorem homesR_len {b : Int} (h0 : 0 ≤ b) (h4 : b ≤ 4) : 0 < (homesR b).length ∧ (homesR b).length ≤ 8 := by
  unfold homesR binsH
  simp only [List.length_append, List.length_map, rng_len]; omega
end VL
set_option maxHeartbeats 2000000
namespace VL
open PySem PySem.Spec L2
open PyProof.Rows hiding St
end VL
set_option maxHeartbeats 2000000
namespace VL
open PySem PySem.Spec L2
open PyProof.Rows hiding St
end VL
set_option maxHeartbeats 2000000
namespace VL
open PySem PySem.Spec L2
/-- what is found: a line, the one ahead of it -/
abbrev Fnd := List (Int × Option Int)
def hasF (F : Fnd) (i : Int) : Bool := F.any fun q => decide (q.1 = i)
def addF (here : Int) : List Int → Fnd × List Int → Fnd × List Int
  | [], FW => FW
  | t :: ts, FW => addF here ts (if hasF FW.1 t then FW else (FW.1 ++ [(t, some here)], FW.2 ++ [t]))
/-- the lines next of one -/
def nxOf (ls : List D) (i : Int) : List Int := match atI ls i with
  | some (.tup (.str w :: ps)) => (nextN w ps i).getD []
  | _ => []
/-- each line leads on within -/
def Flows (ls : List D) : Prop := ∀ i : Int, 0 ≤ i → i < ls.length → ∃ w ps ns, atI ls i = some (.tup (.str w :: ps)) ∧ nextN w ps i = some ns ∧ ∀ j ∈ ns, 0 ≤ j ∧ j < (ls.length : Int)
/-- from a line back to the first -/
def aheadF (F : Fnd) (i : Int) : Option Int := (F.find? fun q => decide (q.1 = i)).bind (·.2)
theorem pigeon : ∀ (n : Nat) (l : List Int), l.Nodup → (∀ x ∈ l, 0 ≤ x ∧ x < (n : Int)) → l.length ≤ n
  | 0, l, _, h => by
    cases l with
    | nil => exact Nat.le_refl _
    | cons x l => have := h x List.mem_cons_self; omega
  | n + 1, l, nd, h => by
    have r := pigeon n (l.erase n) (nd.erase _) fun x hx => by
      rw [nd.mem_erase_iff] at hx
      have := h x hx.2; have := hx.1
      omega
    rw [List.length_erase] at r
    split at r <;> omega
theorem hasF_mem {F : Fnd} {i : Int} : hasF F i = true ↔ i ∈ F.map (·.1) := by
  unfold hasF
  rw [List.any_eq_true, List.mem_map]
  constructor
  · rintro ⟨q, m, e⟩; exact ⟨q, m, of_decide_eq_true e⟩
  · rintro ⟨q, m, e⟩; exact ⟨q, m, decide_eq_true e⟩
/-- what is found stays within -/
structure Good (n : Nat) (F : Fnd) (W : List Int) : Prop where
  nd : (F.map (·.1)).Nodup
  within : ∀ x ∈ F.map (·.1), 0 ≤ x ∧ x < (n : Int)
  wait : ∀ x ∈ W, 0 ≤ x ∧ x < (n : Int)
  short : W.length ≤ F.length
theorem Good.add {n : Nat} {F : Fnd} {W : List Int} (g : Good n F W) {t : Int} {o : Option Int} (h : hasF F t = false) (b : 0 ≤ t ∧ t < (n : Int)) : Good n (F ++ [(t, o)]) (W ++ [t]) := by
  have ne : t ∉ F.map (·.1) := fun m => by rw [hasF_mem.mpr m] at h; cases h
  refine ⟨?_, fun x m => ?_, fun x m => ?_, by have := g.short; simp; omega⟩
  · rw [List.map_append, List.nodup_append]
    refine ⟨g.nd, (by simp), fun a m1 c m2 e => ?_⟩
    rw [List.mem_singleton.mp m2] at e
    exact ne ((show a = t from e) ▸ m1)
  · rw [List.map_append, List.mem_append] at m
    rcases m with m | m
    · exact g.within x m
    · rw [List.mem_singleton.mp m]; exact b
  · rcases List.mem_append.mp m with m | m
    · exact g.wait x m
    · rw [List.mem_singleton.mp m]; exact b
theorem Good.tail {n : Nat} {F : Fnd} {W : List Int} {h : Int} (g : Good n F (h :: W)) : Good n F W := ⟨g.nd, g.within, fun x m => g.wait x (List.mem_cons_of_mem _ m), by have := g.short; rw [List.length_cons] at this; omega⟩
end VL
set_option maxHeartbeats 2000000
namespace VL
open PySem PySem.Spec L2
inductive Rooted : Fnd → Prop
  | nil : Rooted []
  | snoc {F : Fnd} {t : Int} {o : Option Int} (r : Rooted F) (n : hasF F t = false) (h : ∀ i, o = some i → hasF F i = true) : Rooted (F ++ [(t, o)])
theorem hasF_snoc {F : Fnd} {t i : Int} {o : Option Int} : hasF (F ++ [(t, o)]) i = (hasF F i || decide (t = i)) := by
  unfold hasF; rw [List.any_append]; simp
theorem aheadF_old {F : Fnd} {t i : Int} {o : Option Int} (h : hasF F i = true) : aheadF (F ++ [(t, o)]) i = aheadF F i := by
  unfold aheadF hasF at *
  rw [List.find?_append]
  cases e : F.find? (fun q => decide (q.1 = i)) with
  | some q => rfl
  | none =>
    rw [List.find?_eq_none] at e
    rw [List.any_eq_true] at h
    obtain ⟨q, m, hq⟩ := h
    exact absurd hq (e q m)
def WayEnds (F : Fnd) : Nat → Int → Prop
  | 0, _ => False
  | m + 1, i => hasF F i = true ∧ ∀ h, aheadF F i = some h → WayEnds F m h
theorem WayEnds.mono {F : Fnd} : ∀ {m n : Nat} {i : Int}, WayEnds F m i → m ≤ n → WayEnds F n i
  | 0, _, _, h, _ => h.elim
  | m + 1, 0, _, _, l => by omega
  | m + 1, n + 1, i, h, l => ⟨h.1, fun j e => (h.2 j e).mono (by omega)⟩
theorem WayEnds.snoc {F : Fnd} {t : Int} {o : Option Int} : ∀ {m : Nat} {i : Int}, WayEnds F m i → WayEnds (F ++ [(t, o)]) m i
  | 0, _, h => h.elim
  | m + 1, i, h => ⟨by rw [hasF_snoc, h.1]; rfl, fun j e => (h.2 j (by rw [aheadF_old h.1] at e; exact e)).snoc⟩
/-- found, and waiting, as they stand between two rounds -/
structure Found (ls : List D) (F : Fnd) (W : List Int) : Prop where
  good : Good ls.length F W
  root : Rooted F
  sub : ∀ x ∈ W, hasF F x = true
theorem Found.add {ls : List D} {here : Int} : ∀ {ts : List Int} {F : Fnd} {W : List Int}, Found ls F W → hasF F here = true → (∀ t ∈ ts, 0 ≤ t ∧ t < (ls.length : Int)) → Found ls (addF here ts (F, W)).1 (addF here ts (F, W)).2
  | [], F, W, f, _, _ => f
  | t :: ts, F, W, f, h, b => by
    unfold addF
    cases e : hasF F t with
    | true =>
      simp only [e, if_true]
      exact Found.add f h fun x m => b x (List.mem_cons_of_mem _ m)
    | false =>
      simp only [e, if_false, Bool.false_eq_true]
      refine Found.add ⟨f.good.add e (b t List.mem_cons_self), .snoc f.root e (fun i q => by cases q; exact h), fun x m => ?_⟩ (by rw [hasF_snoc, h]; rfl) fun x m => b x (List.mem_cons_of_mem _ m)
      rw [hasF_snoc]
      rcases List.mem_append.mp m with m | m
      · rw [f.sub x m]; rfl
      · rw [List.mem_singleton.mp m]; simp
theorem nxOf_in {ls : List D} (fl : Flows ls) {i : Int} (h : 0 ≤ i ∧ i < (ls.length : Int)) : ∀ t ∈ nxOf ls i, 0 ≤ t ∧ t < (ls.length : Int) := by
  obtain ⟨w, ps, ns, e, hn, hb⟩ := fl i h.1 h.2
  unfold nxOf; rw [e]; simp only [hn]; exact hb
theorem Found.first {ls : List D} {b : Int} (h : 0 ≤ b ∧ b < (ls.length : Int)) : Found ls [(b, none)] [b] :=
  ⟨⟨by simp, by simp [h.1, h.2], by simp [h.1, h.2], by simp⟩, .snoc (F := []) .nil rfl (fun _ e => by cases e), fun x m => by rw [List.mem_singleton.mp m]; simp [hasF]⟩
end VL
set_option maxHeartbeats 2000000
namespace VL
open PySem PySem.Spec L2
open PyProof.Rows hiding St
end VL
set_option maxHeartbeats 2000000
namespace VL
open PySem PySem.Spec L2
open PyProof.Rows hiding St
theorem right_stays {ks : List D} {b many : Int} : ∀ {ls : List D} {i : Nat}, rightB ks b many i ls = true → ∀ (j : Nat) l, ls[j]? = some l → stayB l ((i + j : Nat) : Int) many = true
  | [], _, _, j, l, e => by simp at e
  | l0 :: ls, i, h, j, l, e => by
    unfold rightB at h
    simp only [Bool.and_eq_true] at h
    cases j with
    | zero => simp at e; subst e; exact h.1.1
    | succ j =>
      have := right_stays h.2 j l (by simpa using e)
      rw [show i + (j + 1) = i + 1 + j by omega]; exact this
theorem flows_of {ks : List D} {b : Int} {ls : List D} (hl : ∀ l ∈ ls, LineL l) (h : rightB ks b ls.length 0 ls = true) : Flows ls := by
  intro i h0 h1
  obtain ⟨l, e, m⟩ := atI_ex h0 h1
  obtain ⟨w, es, r, rfl, he, hf, _⟩ := (hl l m).ex
  obtain ⟨ns, hn, _, hin⟩ := next_ex he hf i
  refine ⟨w, r, ns, e, hn, fun j hj => ?_⟩
  have st : stayB (.tup (.str w :: r)) i ls.length = true := by
    have e2 : ls[i.toNat]? = some (.tup (.str w :: r)) := by
      rw [← e]; have := atI_lit i.toNat ls; rw [Int.toNat_of_nonneg h0] at this; exact this.symm
    have := right_stays h i.toNat _ e2
    rw [Nat.zero_add, Int.toNat_of_nonneg h0] at this; exact this
  simp only [stayB, hn, List.all_append, Bool.and_eq_true, List.all_eq_true] at st
  have lt := st.1 (.int j) (List.mem_map.mpr ⟨j, hj, rfl⟩)
  refine ⟨?_, of_decide_eq_true lt⟩
  rcases hin j hj with ⟨e, _⟩ | g
  · omega
  · have q := (parts_fit he hf g).1
    obtain ⟨k, e, k0⟩ := isFrom_ex (show isFrom (.int j) = true from q)
    cases e; exact k0
/-- a program's def -/
theorem Prog.at {ps : List D} (h : Prog (.tup ps)) {d : Int} (h0 : 0 ≤ d) (h1 : d < (ps.length : Int)) : ∃ t g ks b ls, atI ps d = some (.tup [.str t, .str g, .tup ks, .int b, .tup ls]) ∧ 1 ≤ ls.length ∧ ls.length ≤ 24 ∧ (∀ l ∈ ls, LineL l) ∧ Flows ls := by
  obtain ⟨ds, e, _, _, hd, _⟩ := h.l.ex
  cases e
  obtain ⟨x, e, m⟩ := atI_ex h0 h1
  obtain ⟨t, g, ks, b, ls, rfl, _, _, _, _, _, _, _, _, l1, l24, hl, hr⟩ := (hd x m).ex
  exact ⟨t, g, ks, b, ls, e, l1, l24, hl, flows_of hl hr⟩
end VL
set_option maxHeartbeats 4000000
namespace VL
open PySem PySem.Spec L2
open PyProof.Rows hiding St
end VL
set_option maxHeartbeats 4000000
namespace VL
open PySem PySem.Spec L2
open PyProof.Rows hiding St
end VL
set_option maxHeartbeats 4000000
namespace VL
open PySem PySem.Spec L2
open PyProof.Rows hiding St
end VL
set_option maxHeartbeats 4000000
namespace VL
open PySem PySem.Spec L2
/-- a way of just so many lines leads there -/
def reachN (ls : List D) (b : Int) : Nat → Int → Prop
  | 0, i => i = b
  | k + 1, i => ∃ h, reachN ls b k h ∧ i ∈ nxOf ls h
theorem hasF_app {F G : Fnd} {i : Int} : hasF (F ++ G) i = (hasF F i || hasF G i) := by unfold hasF; rw [List.any_append]
theorem hasF_new {h i : Int} {new : List Int} : hasF (new.map fun t => (t, some h)) i = true ↔ i ∈ new := by
  rw [hasF_mem, List.map_map]; simp
theorem addF_new {h : Int} : ∀ {ts : List Int} {F : Fnd} {W : List Int}, ∃ new : List Int, addF h ts (F, W) = (F ++ new.map (fun t => (t, some h)), W ++ new) ∧ ∀ x, x ∈ new ↔ x ∈ ts ∧ hasF F x = false
  | [], F, W => ⟨[], by simp [addF], by simp⟩
  | t :: ts, F, W => by
    cases e : hasF F t with
    | true =>
      obtain ⟨new, e1, m⟩ := addF_new (h := h) (ts := ts) (F := F) (W := W)
      refine ⟨new, by unfold addF; simp only [e, if_true]; exact e1, fun x => ?_⟩
      rw [m x, List.mem_cons]
      constructor
      · rintro ⟨a, c⟩; exact ⟨.inr a, c⟩
      · rintro ⟨a | a, c⟩
        · subst a; rw [e] at c; cases c
        · exact ⟨a, c⟩
    | false =>
      obtain ⟨new, e1, m⟩ := addF_new (h := h) (ts := ts) (F := F ++ [(t, some h)]) (W := W ++ [t])
      refine ⟨t :: new, by unfold addF; simp only [e, if_false, Bool.false_eq_true]; rw [e1]; simp, fun x => ?_⟩
      rw [List.mem_cons, m x, List.mem_cons, hasF_snoc, Bool.or_eq_false_iff]
      constructor
      · rintro (a | ⟨a, c, _⟩)
        · subst a; exact ⟨.inl rfl, e⟩
        · exact ⟨.inr a, c⟩
      · rintro ⟨a | a, c⟩
        · exact .inl a
        · by_cases q : x = t
          · exact .inl q
          · exact .inr ⟨a, c, by simpa using fun z => q z.symm⟩
theorem aheadF_app {F : Fnd} {G : Fnd} {i : Int} (h : hasF F i = true) : aheadF (F ++ G) i = aheadF F i := by
  unfold aheadF hasF at *
  rw [List.find?_append]
  cases e : F.find? (fun q => decide (q.1 = i)) with
  | some q => rfl
  | none =>
    rw [List.find?_eq_none] at e
    rw [List.any_eq_true] at h
    obtain ⟨q, m, hq⟩ := h
    exact absurd hq (e q m)
theorem aheadF_fresh {F : Fnd} {h i : Int} {new : List Int} (n : hasF F i = false) (m : i ∈ new) : aheadF (F ++ new.map fun t => (t, some h)) i = some h := by
  unfold aheadF
  have e0 : F.find? (fun q => decide (q.1 = i)) = none := by
    unfold hasF at n; rw [List.find?_eq_none]; rw [List.any_eq_false] at n; exact n
  rw [List.find?_append, e0, Option.none_or]
  cases e : (new.map fun t => (t, some h)).find? (fun q => decide (q.1 = i)) with
  | none =>
    rw [List.find?_eq_none] at e
    exact absurd (decide_eq_true rfl) (e (i, some h) (List.mem_map.mpr ⟨i, m, rfl⟩))
  | some q =>
    obtain ⟨t, _, rfl⟩ := List.mem_map.mp (List.mem_of_find?_eq_some e)
    rfl
/-- found and waiting, with how far each lies -/
structure Lev (ls : List D) (b : Int) (F : Fnd) (W : List Int) (δ : Int → Nat) : Prop where
  base : hasF F b = true ∧ aheadF F b = none ∧ δ b = 0
  up : ∀ i h, hasF F i = true → aheadF F i = some h → hasF F h = true ∧ δ i = δ h + 1 ∧ i ∈ nxOf ls h
  root : ∀ i, hasF F i = true → aheadF F i = none → i = b
  done : ∀ i, hasF F i = true → i ∉ W → ∀ j ∈ nxOf ls i, hasF F j = true ∧ δ j ≤ δ i + 1
  wsub : ∀ x ∈ W, hasF F x = true
  rise : W.Pairwise fun x y => δ x ≤ δ y
  span : ∀ h ∈ W.head?, ∀ x ∈ W, δ x ≤ δ h + 1
  low : ∀ i, hasF F i = true → i ∉ W → ∀ x ∈ W, δ i ≤ δ x
theorem Lev.step {ls : List D} {b h : Int} {F : Fnd} {W : List Int} {δ : Int → Nat} (v : Lev ls b F (h :: W) δ) : ∃ δ', Lev ls b (addF h (nxOf ls h) (F, W)).1 (addF h (nxOf ls h) (F, W)).2 δ' := by
  obtain ⟨new, e, m⟩ := addF_new (h := h) (ts := nxOf ls h) (F := F) (W := W)
  rw [e]
  have hF := v.wsub h List.mem_cons_self
  have inN : ∀ {i : Int}, hasF F i = false → hasF (F ++ new.map fun t => (t, some h)) i = true → i ∈ new := fun n q => by
    rw [hasF_app, n, Bool.false_or, hasF_new] at q; exact q
  have keep : ∀ {i : Int}, hasF F i = true → hasF (F ++ new.map fun t => (t, some h)) i = true := fun q => by rw [hasF_app, q]; rfl
  have isN : ∀ {i : Int}, i ∈ new → hasF (F ++ new.map fun t => (t, some h)) i = true := fun q => by rw [hasF_app, hasF_new.mpr q, Bool.or_true]
  have rise := List.pairwise_cons.mp v.rise
  have span := v.span h rfl
  have lowh : ∀ i, hasF F i = true → i ∉ h :: W → δ i ≤ δ h := fun i a c => v.low i a c h List.mem_cons_self
  have hasN : ∀ {i : Int}, i ∈ new → hasF F i = false := fun q => ((m _).mp q).2
  refine ⟨fun i => if hasF F i = true then δ i else δ h + 1, ⟨keep v.base.1, by rw [aheadF_app v.base.1]; exact v.base.2.1, by rw [if_pos v.base.1]; exact v.base.2.2⟩, ?_, ?_, ?_, ?_, ?_, ?_, ?_⟩
  · intro i g a c
    cases q : hasF F i with
    | true =>
      rw [aheadF_app q] at c
      obtain ⟨u1, u2, u3⟩ := v.up i g q c
      exact ⟨keep u1, by rw [if_pos rfl, if_pos u1]; exact u2, u3⟩
    | false =>
      have iN := inN q a
      rw [aheadF_fresh q iN] at c
      cases c
      exact ⟨keep hF, by rw [if_neg (by simp), if_pos hF], ((m i).mp iN).1⟩
  · intro i a c
    cases q : hasF F i with
    | true => rw [aheadF_app q] at c; exact v.root i q c
    | false => rw [aheadF_fresh q (inN q a)] at c; cases c
  · intro i a n j hj
    rw [List.mem_append, not_or] at n
    have q : hasF F i = true := by
      cases q : hasF F i with
      | true => rfl
      | false => exact absurd (inN q a) n.2
    rw [if_pos q]
    by_cases ih : i = h
    · subst ih
      cases qj : hasF F j with
      | false => exact ⟨isN ((m j).mpr ⟨hj, qj⟩), by rw [if_neg (by simp)]; exact Nat.le_refl _⟩
      | true =>
        refine ⟨keep qj, ?_⟩
        rw [if_pos rfl]
        by_cases w : j ∈ i :: W
        · exact span j w
        · have := lowh j qj w; omega
    · obtain ⟨d1, d2⟩ := v.done i q (fun z => by rcases List.mem_cons.mp z with z | z; exact ih z; exact n.1 z) j hj
      exact ⟨keep d1, by rw [if_pos d1]; exact d2⟩
  · intro x hx
    rcases List.mem_append.mp hx with x1 | x1
    · exact keep (v.wsub x (List.mem_cons_of_mem _ x1))
    · exact isN x1
  · rw [List.pairwise_append]
    refine ⟨rise.2.imp_of_mem fun {x y} hx hy r => ?_, ?_, fun x hx y hy => ?_⟩
    · rw [if_pos (v.wsub x (List.mem_cons_of_mem _ hx)), if_pos (v.wsub y (List.mem_cons_of_mem _ hy))]; exact r
    · refine List.Pairwise.imp_of_mem (R := fun _ _ => True) (fun {x y} hx hy _ => ?_) (List.pairwise_of_forall fun _ _ => trivial)
      rw [hasN hx, hasN hy]; exact Nat.le_refl _
    · rw [if_pos (v.wsub x (List.mem_cons_of_mem _ hx)), hasN hy]
      exact span x (List.mem_cons_of_mem _ hx)
  · intro g hg x hx
    have least : δ h ≤ (if hasF F g = true then δ g else δ h + 1) := by
      have gm := List.mem_of_mem_head? hg
      rcases List.mem_append.mp gm with g1 | g1
      · rw [if_pos (v.wsub g (List.mem_cons_of_mem _ g1))]; exact rise.1 g g1
      · rw [hasN g1]; simp
    have most : (if hasF F x = true then δ x else δ h + 1) ≤ δ h + 1 := by
      rcases List.mem_append.mp hx with x1 | x1
      · rw [if_pos (v.wsub x (List.mem_cons_of_mem _ x1))]; exact span x (List.mem_cons_of_mem _ x1)
      · rw [hasN x1]; simp
    omega
  · intro i a n x hx
    rw [List.mem_append, not_or] at n
    have q : hasF F i = true := by
      cases q : hasF F i with
      | true => rfl
      | false => exact absurd (inN q a) n.2
    have ih : δ i ≤ δ h := by
      by_cases ih : i = h
      · subst ih; exact Nat.le_refl _
      · exact lowh i q (fun z => by rcases List.mem_cons.mp z with z | z; exact ih z; exact n.1 z)
    rw [if_pos q]
    rcases List.mem_append.mp hx with x1 | x1
    · rw [if_pos (v.wsub x (List.mem_cons_of_mem _ x1))]; have := rise.1 x x1; omega
    · rw [hasN x1]; simp; omega
end VL
set_option maxHeartbeats 4000000
namespace VL
open PySem PySem.Spec L2
theorem Lev.first {ls : List D} {b : Int} : Lev ls b [(b, none)] [b] (fun _ => 0) where
  base := ⟨by simp [hasF], by simp [aheadF], rfl⟩
  up := fun i h a e => by
    have : b = i := by simpa [hasF] using a
    subst this
    simp [aheadF] at e
  root := fun i a _ => by
    have : b = i := by simpa [hasF] using a
    exact this.symm
  done := fun i a n => by
    have : b = i := by simpa [hasF] using a
    exact absurd (by simp [this]) n
  wsub := fun x m => by rw [List.mem_singleton.mp m]; simp [hasF]
  rise := by simp
  span := fun _ _ _ _ => Nat.zero_le _
  low := fun _ _ _ _ _ => Nat.zero_le _
section
variable {ls : List D} {b : Int} {F : Fnd} {δ : Int → Nat}
/-- what is reached is found, no farther -/
theorem Lev.reach (v : Lev ls b F [] δ) : ∀ {k : Nat} {i : Int}, reachN ls b k i → hasF F i = true ∧ δ i ≤ k
  | 0, i, h => by
    have h : i = b := h
    subst h
    exact ⟨v.base.1, by rw [v.base.2.2]; exact Nat.le_refl _⟩
  | k + 1, i, ⟨j, hj, m⟩ => by
    obtain ⟨f, l⟩ := v.reach hj
    obtain ⟨d1, d2⟩ := v.done j f (by simp) i m
    exact ⟨d1, by omega⟩
end
end VL
set_option maxHeartbeats 4000000
namespace VL
open PySem PySem.Spec L2
def tF (T : List (Int × Nat)) : Fnd := T.map fun q => (q.1, some (q.2 : Int))
/-- lies at just k -/
def Dist (ls : List D) (b : Int) (k : Nat) (i : Int) : Prop := reachN ls b k i ∧ ∀ j, j < k → ¬ reachN ls b j i
/-- the table up to k, the newest those at k -/
structure Tab (ls : List D) (b : Int) (k : Nat) (T : List (Int × Nat)) (N : List Int) : Prop where
  nd : (T.map (·.1)).Nodup
  is : ∀ q ∈ T, Dist ls b q.2 q.1 ∧ q.2 ≤ k
  all : ∀ j i, j ≤ k → reachN ls b j i → ∃ q ∈ T, q.1 = i
  new : ∀ i, i ∈ N ↔ Dist ls b k i
  rise : N.Pairwise (· < ·)
theorem hasT {T : List (Int × Nat)} {i : Int} : hasF (tF T) i = true ↔ ∃ q ∈ T, q.1 = i := by
  rw [hasF_mem]; unfold tF; rw [List.map_map, List.mem_map]; rfl
theorem Tab.first {ls : List D} {b : Int} : Tab ls b 0 [(b, 0)] [b] where
  nd := by simp
  is := fun q m => by rw [List.mem_singleton.mp m]; exact ⟨⟨rfl, fun j h => absurd h (Nat.not_lt_zero _)⟩, Nat.le_refl _⟩
  all := fun j i h r => by
    obtain rfl : j = 0 := by omega
    exact ⟨(b, 0), by simp, (show i = b from r).symm⟩
  new := fun i => by
    rw [List.mem_singleton]
    exact ⟨fun e => ⟨e, fun j h => absurd h (Nat.not_lt_zero _)⟩, fun d => d.1⟩
  rise := by simp
theorem Tab.step {ls : List D} {b : Int} {k : Nat} {T : List (Int × Nat)} {N N' : List Int} (t : Tab ls b k T N) (pw : N'.Pairwise (· < ·)) (m : ∀ i, i ∈ N' ↔ i ∈ N.flatMap (nxOf ls) ∧ hasF (tF T) i = false) :
    Tab ls b (k + 1) (T ++ N'.map fun i => (i, k + 1)) N' := by
  have no : ∀ {i : Int}, hasF (tF T) i = false → ∀ j, j ≤ k → ¬ reachN ls b j i := fun h j l r => by
    rw [hasT.mpr (t.all j _ l r)] at h; cases h
  have new : ∀ i, i ∈ N' ↔ Dist ls b (k + 1) i := fun i => by
    rw [m i, List.mem_flatMap]
    constructor
    · rintro ⟨⟨h, hN, mem⟩, f⟩
      exact ⟨⟨h, ((t.new h).mp hN).1, mem⟩, fun j l => no f j (by omega)⟩
    · rintro ⟨⟨h, r, mem⟩, least⟩
      refine ⟨⟨h, (t.new h).mpr ⟨r, fun j l r' => ?_⟩, mem⟩, ?_⟩
      · exact least (j + 1) (by omega) ⟨h, r', mem⟩
      · cases f : hasF (tF T) i with
        | false => rfl
        | true =>
          obtain ⟨q, mq, e⟩ := hasT.mp f
          obtain ⟨d, l⟩ := t.is q mq
          rw [e] at d
          exact absurd d.1 (least q.2 (by omega))
  refine ⟨?_, fun q mq => ?_, fun j i l r => ?_, new, pw⟩
  · rw [List.map_append, List.map_map, List.nodup_append]
    refine ⟨t.nd, ?_, fun a ma c mc e => ?_⟩
    · have : ((fun x : Int × Nat => x.1) ∘ fun i : Int => (i, k + 1)) = id := rfl
      rw [this, List.map_id]
      exact pw.imp fun h => Int.ne_of_lt h
    · obtain ⟨q, mq, rfl⟩ := List.mem_map.mp ma
      obtain ⟨c', mc', rfl⟩ := List.mem_map.mp mc
      have := ((m c').mp mc').2
      rw [hasT.mpr ⟨q, mq, (show q.1 = c' from e)⟩] at this; cases this
  · rcases List.mem_append.mp mq with mq | mq
    · obtain ⟨d, l⟩ := t.is q mq
      exact ⟨d, by omega⟩
    · obtain ⟨i, mi, rfl⟩ := List.mem_map.mp mq
      exact ⟨(new i).mp mi, Nat.le_refl _⟩
  · cases f : hasF (tF T) i with
    | true =>
      obtain ⟨q, mq, e⟩ := hasT.mp f
      exact ⟨q, List.mem_append_left _ mq, e⟩
    | false =>
      have : j = k + 1 := by
        rcases Nat.lt_or_ge k j with h | h
        · omega
        · exact absurd r (no f j h)
      subst this
      have mi : i ∈ N' := (new i).mpr ⟨r, fun j l => no f j (by omega)⟩
      exact ⟨(i, k + 1), List.mem_append_right _ (List.mem_map.mpr ⟨i, mi, rfl⟩), rfl⟩
/-- none at k: none beyond -/
theorem Tab.done {ls : List D} {b : Int} {k : Nat} {T : List (Int × Nat)} (t : Tab ls b k T []) : ∀ j i, reachN ls b j i → ∃ q ∈ T, q.1 = i := by
  have far : ∀ j i, reachN ls b j i → ∃ l, l ≤ k ∧ reachN ls b l i := by
    intro j
    induction j with
    | zero => exact fun i r => ⟨0, Nat.zero_le _, r⟩
    | succ j ih =>
      rintro i ⟨h, r, m⟩
      obtain ⟨l, lk, rl⟩ := ih h r
      rcases Nat.lt_or_ge l k with c | c
      · exact ⟨l + 1, c, h, rl, m⟩
      · obtain rfl : l = k := by omega
        by_cases least : ∀ j', j' < l → ¬ reachN ls b j' h
        · exact absurd ((t.new h).mpr ⟨rl, least⟩) (by simp)
        · obtain ⟨j', h'⟩ := Classical.not_forall.mp least
          obtain ⟨lt, h2⟩ := Classical.not_imp.mp h'
          exact ⟨j' + 1, lt, h, Classical.not_not.mp h2, m⟩
  intro j i r
  obtain ⟨l, lk, rl⟩ := far j i r
  exact t.all l i lk rl
end VL
set_option maxHeartbeats 4000000
namespace VL
open PySem PySem.Spec L2
theorem small_ints : ∀ {ns : List Int}, (∀ i ∈ ns, 0 ≤ i ∧ i < 1000) → smlL (ns.map D.int) = true ∧ cntL (ns.map D.int) ≤ 200 * ns.length ∧ depL (ns.map D.int) ≤ 1
  | [], _ => ⟨rfl, Nat.le_refl _, by simp [depL]⟩
  | i :: ns, h => by
    obtain ⟨a, b, c⟩ := small_ints (ns := ns) fun j m => h j (List.mem_cons_of_mem _ m)
    have := h i List.mem_cons_self
    rw [List.map_cons]
    refine ⟨by simp only [smlL, sml, a, smlI_of (i := i) (by omega) (by omega), Bool.and_self], ?_, ?_⟩
    · simp only [cntL, cnt, List.length_cons]; omega
    · simp only [depL, dep]; omega
end VL
set_option maxHeartbeats 2000000
namespace VL
open PySem PySem.Spec L2
open PyProof.Rows hiding St
end VL
set_option maxHeartbeats 2000000
namespace PySem
open Sem (wp)
end PySem
namespace VL
open PySem PySem.Spec L2
open PyProof.Rows hiding St
end VL
set_option maxHeartbeats 2000000
namespace VL
open PySem PySem.Spec L2
open PyProof.Rows hiding St
theorem RpL.reverse {K : PySem.W.Frag} {G : Hp} : ∀ {xs : List V} {ds : List D}, RpL K G xs ds → RpL K G xs.reverse ds.reverse
  | _, _, .nil => .nil
  | _, _, .cons r t => by rw [List.reverse_cons, List.reverse_cons]; exact t.reverse.append (.cons r .nil)
end VL
set_option maxHeartbeats 4000000
namespace VL
open PySem PySem.Spec L2
open PyProof.Rows hiding St
def stS (st : List Nat) : Str := ⟨st.toArray⟩
/-- at which sign a home stands -/
def signN (h : D) : Nat := match h with
  | .tup [.str w, .int k] => if w = "peg" then k.toNat else 4 + k.toNat
  | _ => 0
def kindW (w : Str) : Nat := if w = "none" ∨ w = "new" ∨ w = "getb" then 98 else 110
def givesN (ps : List D) (d : D) : Nat := match d with
  | .int i => (match atI ps i with
    | some (.tup (_ :: .str g :: _)) => g.cps.toList.headD 0
    | _ => 0)
  | _ => 0
/-- what a home holds behind a line: what another one held, or a kind -/
def srcL (ps : List D) (l : D) (t : Nat) : Nat ⊕ Nat := match l with
  | .tup (.str w :: r) => (match writesW w r with
    | h :: _ => if t = signN h then (if w = "copy" then .inl (signN (r.getD 1 .non)) else if w = "call" then .inr (givesN ps (r.getD 0 .non)) else .inr (kindW w)) else .inl t
    | [] => .inl t)
  | _ => .inl t
def valN (st : List Nat) : Nat ⊕ Nat → Nat
  | .inl s => st.getD s 0
  | .inr c => c
def behindN (ps : List D) (l : D) (st : List Nat) : List Nat := (List.range 8).map fun t => valN st (srcL ps l t)
theorem behindN_len {ps : List D} {l : D} {st : List Nat} : (behindN ps l st).length = 8 := by simp [behindN]
theorem behindN_get {ps : List D} {l : D} {st : List Nat} {t : Nat} (h : t < 8) : (behindN ps l st).getD t 0 = valN st (srcL ps l t) := by
  unfold behindN
  rw [List.getD_eq_getElem?_getD, List.getElem?_map, List.getElem?_range h]; rfl
def metN (a b : List Nat) : List Nat := List.zipWith (fun x y => if x = y then x else 45) a b
theorem metN_len {a b : List Nat} (ha : a.length = 8) (hb : b.length = 8) : (metN a b).length = 8 := by simp [metN, ha, hb]
theorem metN_get {a b : List Nat} {t : Nat} (ha : a.length = 8) (hb : b.length = 8) (h : t < 8) : (metN a b).getD t 0 = if a.getD t 0 = b.getD t 0 then a.getD t 0 else 45 := by
  unfold metN
  rw [List.getD_eq_getElem?_getD, List.getD_eq_getElem?_getD, List.getD_eq_getElem?_getD, List.getElem?_zipWith, List.getElem?_eq_getElem (show t < a.length by omega), List.getElem?_eq_getElem (show t < b.length by omega)]
  rfl
theorem ext8 {a b : List Nat} (ha : a.length = 8) (hb : b.length = 8) (h : ∀ t, t < 8 → a.getD t 0 = b.getD t 0) : a = b := by
  apply List.ext_getElem (by omega)
  intro t h1 h2
  have := h t (by omega)
  rw [List.getD_eq_getElem?_getD, List.getD_eq_getElem?_getD, List.getElem?_eq_getElem h1, List.getElem?_eq_getElem h2] at this
  exact this
/-- a stand may be whatever where another one is not -/
def Low (a b : List Nat) : Prop := ∀ t, t < 8 → a.getD t 0 = b.getD t 0 ∨ a.getD t 0 = 45
theorem Low.refl (a : List Nat) : Low a a := fun _ _ => .inl rfl
theorem Low.trans {a b c : List Nat} (h : Low a b) (g : Low b c) : Low a c := fun t ht => by
  rcases h t ht with e | e
  · rw [e]; exact g t ht
  · exact .inr e
theorem Low.met1 {a b : List Nat} (ha : a.length = 8) (hb : b.length = 8) : Low (metN a b) a := fun t ht => by
  rw [metN_get ha hb ht]; split
  · exact .inl rfl
  · exact .inr rfl
theorem Low.met2 {a b : List Nat} (ha : a.length = 8) (hb : b.length = 8) : Low (metN a b) b := fun t ht => by
  rw [metN_get ha hb ht]; split
  · rename_i e; exact .inl e
  · exact .inr rfl
def wtS (st : List Nat) : Nat := st.countP fun c => c ≠ 45
theorem wtS_le {st : List Nat} (h : st.length = 8) : wtS st ≤ 8 := by rw [← h]; exact List.countP_le_length
theorem zipW_wt : ∀ (a b : List Nat), a.length = b.length → List.zipWith (fun x y => if x = y then x else 45) a b ≠ a → (List.zipWith (fun x y => if x = y then x else 45) a b).countP (fun c => c ≠ 45) < a.countP (fun c => c ≠ 45)
  | [], [], _, h => (h rfl).elim
  | [], _ :: _, h, _ => by simp at h
  | _ :: _, [], h, _ => by simp at h
  | x :: a, y :: b, h, ne => by
    have hl : a.length = b.length := by simpa using h
    have le : (List.zipWith (fun x y => if x = y then x else 45) a b).countP (fun c => c ≠ 45) ≤ a.countP (fun c => c ≠ 45) := by
      by_cases e : List.zipWith (fun x y => if x = y then x else 45) a b = a
      · rw [e]; exact Nat.le_refl _
      · exact Nat.le_of_lt (zipW_wt a b hl e)
    rw [List.zipWith_cons_cons] at ne ⊢
    rw [List.countP_cons, List.countP_cons]
    by_cases e : x = y
    · rw [if_pos e] at ne ⊢
      have : List.zipWith (fun x y => if x = y then x else 45) a b ≠ a := fun z => ne (by rw [z])
      have := zipW_wt a b hl this
      omega
    · rw [if_neg e] at ne ⊢
      by_cases e2 : x = 45
      · subst e2
        have : List.zipWith (fun x y => if x = y then x else 45) a b ≠ a := fun z => ne (by rw [z])
        have := zipW_wt a b hl this
        omega
      · simp only [ne_eq, not_true_eq_false, decide_false, Bool.false_eq_true, if_false, e2, not_false_eq_true, decide_true, if_true]
        simp only [ne_eq] at le
        omega
inductive Fact (ps ls : List D) (fs : List Nat) : Int → Nat → Nat → Prop
  | first {t : Nat} (h : t < 8) : Fact ps ls fs 0 t (fs.getD t 0)
  | copy {i j : Int} {s t k : Nat} (f : Fact ps ls fs i s k) (n : j ∈ nxOf ls i) (e : srcL ps ((atI ls i).getD .non) t = .inl s) (h : t < 8) : Fact ps ls fs j t k
  | made {i j : Int} {s t k c : Nat} (f : Fact ps ls fs i s k) (n : j ∈ nxOf ls i) (e : srcL ps ((atI ls i).getD .non) t = .inr c) (h : t < 8) : Fact ps ls fs j t c
/-- told truly, as far as told -/
def Just (P : Nat → Prop) (k : Nat) : Prop := (k ≠ 45 → P k) ∧ (k = 45 → P 45 ∨ ∃ a b, a ≠ b ∧ P a ∧ P b)
abbrev Fs := List (Option (List Nat))
def atF (F : Fs) (i : Int) : Option (List Nat) := (F[i.toNat]?).join
def stepF (b : List Nat) (FW : Fs × List Int) (j : Int) : Fs × List Int :=
  let s := match atF FW.1 j with
    | none => b
    | some st => metN st b
  if atF FW.1 j = some s then FW else (FW.1.set j.toNat (some s), FW.2 ++ [j])
def wtF (F : Fs) : Nat := (F.map fun o => match o with | none => 9 | some st => wtS st).sum
structure SI (ps ls : List D) (fs : List Nat) (F : Fs) (W : List Int) (ex : Int → Prop) : Prop where
  len : F.length = ls.length
  fl : ∀ i : Int, 0 ≤ i → i < (ls.length : Int) → ∀ j ∈ nxOf ls i, 0 ≤ j ∧ j < (ls.length : Int)
  wait : ∀ i ∈ W, 0 ≤ i ∧ i < (ls.length : Int) ∧ ∃ st, atF F i = some st
  just : ∀ i st, 0 ≤ i → atF F i = some st → st.length = 8 ∧ ∀ t, t < 8 → Just (Fact ps ls fs i t) (st.getD t 0)
  beg : ∃ st, atF F 0 = some st ∧ Low st fs
  clo : ∀ i st, 0 ≤ i → atF F i = some st → i ∉ W → ¬ ex i → ∀ j ∈ nxOf ls i, ∃ st', atF F j = some st' ∧ Low st' (behindN ps ((atI ls i).getD .non) st)
theorem sum_set : ∀ (l : List Nat) (i : Nat) (x y : Nat), l[i]? = some x → (l.set i y).sum + x = l.sum + y
  | [], _, _, _, h => by simp at h
  | a :: l, 0, x, y, h => by simp at h; subst h; simp; omega
  | a :: l, i + 1, x, y, h => by
    have := sum_set l i x y (by simpa using h)
    simp only [List.set_cons_succ, List.sum_cons]; omega
theorem atF_set {F : Fs} {i j : Int} {o : Option (List Nat)} (h0 : 0 ≤ i) (h1 : i < (F.length : Int)) (j0 : 0 ≤ j) : atF (F.set i.toNat o) j = if i = j then o else atF F j := by
  unfold atF
  by_cases e : i = j
  · subst e
    rw [if_pos rfl, List.getElem?_set_self (by omega)]; rfl
  · rw [if_neg e, List.getElem?_set_ne (by omega)]
theorem atF_in {F : Fs} {i : Int} (h0 : 0 ≤ i) (h1 : i < (F.length : Int)) : F[i.toNat]? = some (atF F i) := by
  unfold atF
  rw [List.getElem?_eq_getElem (by omega)]; rfl
theorem Just.met {P : Nat → Prop} {a b : Nat} (h : Just P a) (g : Just P b) : Just P (if a = b then a else 45) := by
  by_cases e : a = b
  · rw [if_pos e]; exact h
  · rw [if_neg e]
    refine ⟨fun k => (k rfl).elim, fun _ => ?_⟩
    by_cases ka : a = 45
    · by_cases kb : b = 45
      · exact (e (by omega)).elim
      · rcases h.2 ka with q | q
        · exact .inl q
        · exact .inr q
    · by_cases kb : b = 45
      · exact g.2 kb
      · exact .inr ⟨a, b, e, h.1 ka, g.1 kb⟩
/-- what is done of a line's next ones -/
def Dn (F : Fs) (W : List Int) (h : Int) (st b : List Nat) (done : List Int) : Prop := h ∈ W ∨ atF F h = some st ∧ ∀ j ∈ done, 0 ≤ j ∧ ∃ st', atF F j = some st' ∧ Low st' b
theorem SI.step {ps ls : List D} {fs : List Nat} {F : Fs} {W : List Int} {h j : Int} {st b : List Nat} {done : List Int} (q : SI ps ls fs F W (· = h)) (jb : ∀ t, t < 8 → Just (Fact ps ls fs j t) (b.getD t 0)) (bl : b.length = 8) (hh : 0 ≤ h) (j0 : 0 ≤ j) (j1 : j < (ls.length : Int)) (dn : Dn F W h st b done) :
    SI ps ls fs (stepF b (F, W) j).1 (stepF b (F, W) j).2 (· = h) ∧ Dn (stepF b (F, W) j).1 (stepF b (F, W) j).2 h st b (done ++ [j]) ∧ 2 * wtF (stepF b (F, W) j).1 + (stepF b (F, W) j).2.length ≤ 2 * wtF F + W.length := by
  have jF : j < (F.length : Int) := by rw [q.len]; exact j1
  -- the new stand
  obtain ⟨s, es, sl, sj, slow, sold, swt⟩ : ∃ s, (match atF F j with | none => b | some st => metN st b) = s ∧ s.length = 8 ∧ (∀ t, t < 8 → Just (Fact ps ls fs j t) (s.getD t 0)) ∧ Low s b ∧ (∀ o, atF F j = some o → Low s o) ∧
      (atF F j ≠ some s → wtS s < (match atF F j with | none => 9 | some st => wtS st)) := by
    cases e : atF F j with
    | none => exact ⟨b, rfl, bl, jb, Low.refl b, fun o z => (nomatch z), fun _ => Nat.lt_succ_of_le (wtS_le bl)⟩
    | some o =>
      obtain ⟨ol, oj⟩ := q.just j o j0 e
      refine ⟨metN o b, rfl, metN_len ol bl, fun t ht => by rw [metN_get ol bl ht]; exact (oj t ht).met (jb t ht), .met2 ol bl, fun o' z => by cases z; exact .met1 ol bl, fun ne => ?_⟩
      exact zipW_wt o b (by omega) fun z => ne (by show some o = some (metN o b); rw [show metN o b = o from z])
  have un : stepF b (F, W) j = if atF F j = some s then (F, W) else (F.set j.toNat (some s), W ++ [j]) := by
    show (if atF F j = some (match atF F j with | none => b | some st => metN st b) then (F, W) else (F.set j.toNat (some (match atF F j with | none => b | some st => metN st b)), W ++ [j])) = _
    rw [es]
  rw [un]
  by_cases same : atF F j = some s
  · rw [if_pos same]
    refine ⟨q, ?_, Nat.le_refl _⟩
    rcases dn with d | ⟨d1, d2⟩
    · exact .inl d
    · refine .inr ⟨d1, fun x hx => ?_⟩
      rcases List.mem_append.mp hx with hx | hx
      · exact d2 x hx
      · rw [List.mem_singleton.mp hx]; exact ⟨j0, s, same, slow⟩
  · rw [if_neg same]
    have get : ∀ i, 0 ≤ i → atF (F.set j.toNat (some s)) i = if j = i then some s else atF F i := fun i i0 => atF_set j0 jF i0
    -- whatever stood, stands or is lower
    have old : ∀ i o, 0 ≤ i → atF F i = some o → ∃ o', atF (F.set j.toNat (some s)) i = some o' ∧ Low o' o := fun i o i0 e => by
      rw [get i i0]
      by_cases z : j = i
      · subst z; rw [if_pos rfl]; exact ⟨s, rfl, sold o e⟩
      · rw [if_neg z]; exact ⟨o, e, .refl o⟩
    refine ⟨⟨by rw [List.length_set]; exact q.len, q.fl, fun i hi => ?_, fun i o i0 e => ?_, ?_, fun i o i0 e ni nx k hk => ?_⟩, ?_, ?_⟩
    · rcases List.mem_append.mp hi with hi | hi
      · obtain ⟨a, c, o, e⟩ := q.wait i hi
        obtain ⟨o', e', _⟩ := old i o a e
        exact ⟨a, c, o', e'⟩
      · rw [List.mem_singleton.mp hi]; exact ⟨j0, j1, s, by rw [get j j0, if_pos rfl]⟩
    · rw [get i i0] at e
      by_cases z : j = i
      · subst z; rw [if_pos rfl] at e; cases e; exact ⟨sl, sj⟩
      · rw [if_neg z] at e; exact q.just i o i0 e
    · obtain ⟨o, e, l⟩ := q.beg
      obtain ⟨o', e', l'⟩ := old 0 o (by decide) e
      exact ⟨o', e', l'.trans l⟩
    · rw [get i i0] at e
      have z : j ≠ i := fun z => ni (by rw [z]; simp)
      rw [if_neg z] at e
      have i1 : i < (ls.length : Int) := by
        have : i.toNat < F.length := by
          unfold atF at e
          cases g : F[i.toNat]? with
          | none => rw [g] at e; cases e
          | some x => exact (List.getElem?_eq_some_iff.mp g).1
        rw [q.len] at this; omega
      obtain ⟨o2, e2, l2⟩ := q.clo i o i0 e (fun m => ni (List.mem_append_left _ m)) nx k hk
      obtain ⟨o3, e3, l3⟩ := old k o2 (q.fl i i0 i1 k hk).1 e2
      exact ⟨o3, e3, l3.trans l2⟩
    · rcases dn with d | ⟨d1, d2⟩
      · exact .inl (List.mem_append_left _ d)
      · by_cases z : j = h
        · exact .inl (by rw [z]; simp)
        · refine .inr ⟨by rw [get h hh, if_neg z]; exact d1, fun x hx => ?_⟩
          rcases List.mem_append.mp hx with hx | hx
          · obtain ⟨x0, o, e, l⟩ := d2 x hx
            obtain ⟨o3, e3, l3⟩ := old x o x0 e
            exact ⟨x0, o3, e3, l3.trans l⟩
          · rw [List.mem_singleton.mp hx]; exact ⟨j0, s, by rw [get j j0, if_pos rfl], slow⟩
    · rw [List.length_append]
      have := sum_set (F.map fun o => match o with | none => 9 | some st => wtS st) j.toNat (match atF F j with | none => 9 | some st => wtS st) (wtS s) (by rw [List.getElem?_map, atF_in j0 jF]; rfl)
      have w := swt same
      have e : wtF (F.set j.toNat (some s)) = ((F.map fun o => match o with | none => 9 | some st => wtS st).set j.toNat (wtS s)).sum := by
        unfold wtF; rw [List.map_set]
      have e2 : wtF F = (F.map fun o => match o with | none => 9 | some st => wtS st).sum := rfl
      rw [e, e2]
      simp only [List.length_cons, List.length_nil]
      omega
theorem SI.steps {ps ls : List D} {fs : List Nat} {h : Int} {st b : List Nat} (hh : 0 ≤ h) (bl : b.length = 8) : ∀ (js : List Int) {F : Fs} {W : List Int} {done : List Int}, SI ps ls fs F W (· = h) → (∀ j ∈ js, (0 ≤ j ∧ j < (ls.length : Int)) ∧ ∀ t, t < 8 → Just (Fact ps ls fs j t) (b.getD t 0)) → Dn F W h st b done →
    SI ps ls fs (js.foldl (stepF b) (F, W)).1 (js.foldl (stepF b) (F, W)).2 (· = h) ∧ Dn (js.foldl (stepF b) (F, W)).1 (js.foldl (stepF b) (F, W)).2 h st b (done ++ js) ∧ 2 * wtF (js.foldl (stepF b) (F, W)).1 + (js.foldl (stepF b) (F, W)).2.length ≤ 2 * wtF F + W.length
  | [], F, W, done, q, _, dn => ⟨q, by rw [List.append_nil]; exact dn, Nat.le_refl _⟩
  | j :: js, F, W, done, q, hj, dn => by
    obtain ⟨⟨j0, j1⟩, jj⟩ := hj j List.mem_cons_self
    obtain ⟨a1, a2, a3⟩ := q.step jj bl hh j0 j1 dn
    obtain ⟨b1, b2, b3⟩ := SI.steps hh bl js a1 (fun x hx => hj x (List.mem_cons_of_mem _ hx)) a2
    rw [List.foldl_cons]
    refine ⟨b1, ?_, Nat.le_trans b3 a3⟩
    rw [List.append_assoc] at b2; exact b2
/-- a stand's kind of a home, told just by what the home holds -/
def Meets (P : Nat → Prop) (k : Nat) : Prop := Just P k ∧ ∀ k', P k' → k = k' ∨ k = 45
theorem Meets.one {P : Nat → Prop} {a b : Nat} (h : Meets P a) (g : Meets P b) : a = b := by
  by_cases ea : a = 45
  · rcases h.1.2 ea with q | ⟨x, y, ne, q1, q2⟩
    · rcases g.2 45 q with e | e <;> omega
    · rcases g.2 x q1 with e | e
      · rcases g.2 y q2 with e2 | e2
        · omega
        · omega
      · omega
  · have := g.2 a (h.1.1 ea)
    by_cases eb : b = 45
    · subst eb
      rcases g.1.2 rfl with q | ⟨x, y, ne, q1, q2⟩
      · rcases h.2 45 q with e | e <;> omega
      · rcases h.2 x q1 with e | e
        · rcases h.2 y q2 with e2 | e2 <;> omega
        · omega
    · omega
def StandAt (ps ls : List D) (fs : List Nat) (i : Int) : Option (List Nat) → Prop
  | none => ∀ t k, ¬ Fact ps ls fs i t k
  | some st => st.length = 8 ∧ ∀ t, t < 8 → Meets (Fact ps ls fs i t) (st.getD t 0)
theorem StandAt.one {ps ls : List D} {fs : List Nat} {i : Int} {a b : Option (List Nat)} (h : StandAt ps ls fs i a) (g : StandAt ps ls fs i b) : a = b := by
  have fact : ∀ {st : List Nat}, (∀ t, t < 8 → Meets (Fact ps ls fs i t) (st.getD t 0)) → ∃ t k, Fact ps ls fs i t k := fun {st} h => by
    obtain ⟨⟨a, b⟩, _⟩ := h 0 (by decide)
    by_cases k : st.getD 0 0 = 45
    · rcases b k with q | ⟨x, y, ne, q1, q2⟩
      · exact ⟨_, _, q⟩
      · exact ⟨_, _, q1⟩
    · exact ⟨_, _, a k⟩
  cases a with
  | none => cases b with
    | none => rfl
    | some st => obtain ⟨t, k, f⟩ := fact g.2; exact (h t k f).elim
  | some st => cases b with
    | none => obtain ⟨t, k, f⟩ := fact h.2; exact (g t k f).elim
    | some st' => rw [ext8 h.1 g.1 fun t ht => (h.2 t ht).one (g.2 t ht)]
theorem SI.facts {ps ls : List D} {fs : List Nat} {F : Fs} (n0 : 0 < ls.length) (src : ∀ i t s, t < 8 → srcL ps ((atI ls i).getD .non) t = .inl s → s < 8) (q : SI ps ls fs F [] fun _ => False) {i : Int} {t k : Nat} (f : Fact ps ls fs i t k) : (0 ≤ i ∧ i < (ls.length : Int)) ∧ t < 8 ∧ ∃ st, atF F i = some st ∧ (st.getD t 0 = k ∨ st.getD t 0 = 45) := by
  induction f with
  | first h =>
    obtain ⟨st, e, l⟩ := q.beg
    exact ⟨⟨by omega, by omega⟩, h, st, e, l _ h⟩
  | copy f n e h ih =>
    obtain ⟨⟨a0, a1⟩, ht, st, e2, l2⟩ := ih
    obtain ⟨st', e3, l3⟩ := q.clo _ _ a0 e2 (by simp) (fun z => z) _ n
    refine ⟨q.fl _ a0 a1 _ n, h, st', e3, ?_⟩
    have := l3 _ h
    rw [behindN_get h, e] at this
    have v : ∀ s, valN st (.inl s) = st.getD s 0 := fun _ => rfl
    rw [v] at this
    omega
  | made f n e h ih =>
    obtain ⟨⟨a0, a1⟩, ht, st, e2, l2⟩ := ih
    obtain ⟨st', e3, l3⟩ := q.clo _ _ a0 e2 (by simp) (fun z => z) _ n
    refine ⟨q.fl _ a0 a1 _ n, h, st', e3, ?_⟩
    have := l3 _ h
    rw [behindN_get h, e] at this
    exact this
theorem SI.stand {ps ls : List D} {fs : List Nat} {F : Fs} (n0 : 0 < ls.length) (src : ∀ i t s, t < 8 → srcL ps ((atI ls i).getD .non) t = .inl s → s < 8) (q : SI ps ls fs F [] fun _ => False) {i : Int} (h0 : 0 ≤ i) : StandAt ps ls fs i (atF F i) := by
  cases e : atF F i with
  | none => intro t k f; obtain ⟨_, _, st, e2, _⟩ := q.facts n0 src f; rw [e] at e2; cases e2
  | some st =>
    obtain ⟨sl, sj⟩ := q.just i st h0 e
    refine ⟨sl, fun t ht => ⟨sj t ht, fun k f => ?_⟩⟩
    obtain ⟨_, _, st', e2, l⟩ := q.facts n0 src f
    rw [e] at e2; cases e2; exact l
end VL
set_option maxHeartbeats 4000000
namespace VL
open PySem PySem.Spec L2
open PyProof.Rows hiding St
def wr8 : List Str := ["put", "none", "copy", "add", "less", "new", "getn", "getb"]
theorem written_tab : ∀ e ∈ lineTab, (e.1 ∈ wr8 ∧ e.1 ≠ "call" ∧ e.2.head? = some (104, Str.ofString "written") ∧ ∀ q ∈ e.2.tail, q.2 ≠ "written") ∨ (e.1 ∉ wr8 ∧ ∀ q ∈ e.2, q.2 ≠ "written") := by decide +kernel
theorem pick_none {p : Str} : ∀ {es : List (Nat × Str)} {r : List D}, (∀ q ∈ es, q.2 ≠ p) → pickL p es r = []
  | [], _, _ => by simp [pickL]
  | _ :: _, [], _ => by simp [pickL]
  | e :: es, d :: r, h => by
    simp only [pickL]
    rw [if_neg (h e List.mem_cons_self), pick_none fun q hq => h q (List.mem_cons_of_mem _ hq)]
theorem writes_ex {w : Str} {r : List D} {es : List (Nat × Str)} (he : lineTab.lookup w = some es) (hf : fitsAll es r = true) :
    (w = "call" ∧ writesW w r = [.tup [.str "peg", .int 0]]) ∨ (w ≠ "call" ∧ w ∈ wr8 ∧ ∃ h rest, r = h :: rest ∧ writesW w r = [h] ∧ isHome h = true) ∨ (w ≠ "call" ∧ w ∉ wr8 ∧ writesW w r = []) := by
  by_cases c : w = "call"
  · exact .inl ⟨c, by unfold writesW; rw [if_pos c]⟩
  · refine .inr ?_
    have pw : writesW w r = pickL "written" es r := by unfold writesW partsW; rw [if_neg c, he]; rfl
    rcases written_tab _ (look_mem he) with ⟨a, _, b, d⟩ | ⟨a, d⟩
    · cases es with
      | nil => cases b
      | cons e es =>
        simp only [List.head?_cons, Option.some.injEq] at b
        simp only [List.tail_cons] at d
        subst b
        cases r with
        | nil => simp [fitsAll] at hf
        | cons h rest =>
          simp only [fitsAll, Bool.and_eq_true] at hf
          refine .inl ⟨c, a, h, rest, rfl, ?_, by have := hf.1; unfold fitC at this; rw [if_pos (.inl rfl)] at this; exact this⟩
          rw [pw]; simp only [pickL]
          rw [if_pos trivial, pick_none d]
    · exact .inr ⟨c, a, by rw [pw, pick_none d]⟩
theorem writes_home {w : Str} {r : List D} {es : List (Nat × Str)} (he : lineTab.lookup w = some es) (hf : fitsAll es r = true) {h : D} (m : h ∈ writesW w r) : isHome h = true := by
  rcases writes_ex he hf with ⟨_, e⟩ | ⟨_, _, h', rest, _, e, ih⟩ | ⟨_, _, e⟩
  · rw [e, List.mem_singleton] at m; subst m; decide +kernel
  · rw [e, List.mem_singleton] at m; subst m; exact ih
  · rw [e] at m; cases m
theorem called_in {ps : List D} (h : Prog (.tup ps)) {x : D} (m : x ∈ ps) {t g ks b : D} {ls : List D} (e : x = .tup [t, g, ks, b, .tup ls]) {i : Int} (hl : (.tup [.str "call", .int i]) ∈ ls) : i < (ps.length : Int) := by
  obtain ⟨ds, e2, _, _, _, hc⟩ := h.l.ex
  cases e2
  have := hc x m
  subst e
  simp only [callsB, List.all_eq_true] at this
  have := this _ hl
  simp only [calledB, List.all_eq_true] at this
  have z := this (.int i) (by
    have : (lineTab.lookup (Str.ofString "call")).getD [] = [(116, Str.ofString "called")] := by decide +kernel
    unfold partsW
    rw [this]
    simp [pickL])
  simpa [ltI] using z
def Src (ps ls : List D) : Prop := ∀ (i : Int) (t : Nat), t < 8 → (∀ s, srcL ps ((atI ls i).getD .non) t = .inl s → s < 8) ∧ ∀ c, srcL ps ((atI ls i).getD .non) t = .inr c → c ∈ [110, 98, 45]
theorem atI_mem {ds : List D} {i : Int} {d : D} (h : atI ds i = some d) : d ∈ ds := by
  unfold L2.atI at h
  cases e : ixN ds.length i with
  | none => rw [e] at h; cases h
  | some j => rw [e] at h; exact List.mem_of_getElem? h
theorem Fact.sign {ps ls : List D} {fs : List Nat} (s : Src ps ls) (l8 : fs.length = 8) (hf : ∀ c ∈ fs, c ∈ [110, 98, 45]) {i : Int} {t k : Nat} (f : Fact ps ls fs i t k) : t < 8 ∧ k ∈ [110, 98, 45] := by
  induction f with
  | @first t h =>
    refine ⟨h, hf _ ?_⟩
    rw [List.getD_eq_getElem?_getD, List.getElem?_eq_getElem (by omega)]
    exact List.getElem_mem _
  | copy f n e h ih => exact ⟨h, ih.2⟩
  | made f n e h ih => exact ⟨h, (s _ _ h).2 _ e⟩
def standD : Option (List Nat) → D
  | none => .non
  | some st => .str (stS st)
end VL
set_option maxHeartbeats 4000000
namespace VL
open PySem PySem.Spec L2
open PyProof.Rows hiding St
def jumpsW : List Str := ["go", "if", "ifnone", "same", "back"]
/-- no jumps, a back at last -/
structure Straight (ls : List D) : Prop where
  pos : 1 ≤ ls.length
  on : ∀ (i : Nat) l, ls[i]? = some l → i + 1 < ls.length → ∃ w r, l = .tup (.str w :: r) ∧ w ∉ jumpsW
  end_ : ls[ls.length - 1]? = some (.tup [.str (Str.ofString "back")])
theorem next_on {w : Str} {r : List D} {i : Int} (h : w ∉ jumpsW) : nextN w r i = some [i + 1] := by
  simp only [jumpsW, List.mem_cons, List.not_mem_nil, or_false, not_or] at h
  obtain ⟨a, b, c, d, e⟩ := h
  unfold nextN
  rw [if_neg e, if_neg a, if_neg (by simp only [not_or]; exact ⟨b, c, d⟩)]
theorem Straight.nx {ls : List D} (s : Straight ls) {i : Nat} (h : i < ls.length) : nxOf ls (i : Int) = if i + 1 < ls.length then [(i : Int) + 1] else [] := by
  unfold nxOf
  rw [atI_lit]
  by_cases e : i + 1 < ls.length
  · rw [if_pos e]
    obtain ⟨w, r, q, hw⟩ := s.on i _ (List.getElem?_eq_getElem h) e
    rw [List.getElem?_eq_getElem h, q]
    simp only [next_on hw, Option.getD_some]
  · rw [if_neg e]
    have : i = ls.length - 1 := by omega
    rw [this, s.end_]
    rfl
/-- the stands one by one -/
def dueN (ps ls : List D) (fs : List Nat) : Nat → List Nat
  | 0 => fs
  | i + 1 => behindN ps (ls.getD i .non) (dueN ps ls fs i)
theorem dueN_len {ps ls : List D} {fs : List Nat} (h : fs.length = 8) : ∀ i, (dueN ps ls fs i).length = 8
  | 0 => h
  | i + 1 => behindN_len
theorem Straight.fact {ps ls : List D} {fs : List Nat} (s : Straight ls) (f8 : fs.length = 8) (src : Src ps ls) {j : Int} {t k : Nat} (f : Fact ps ls fs j t k) : ∃ i : Nat, j = i ∧ i < ls.length ∧ t < 8 ∧ (dueN ps ls fs i).getD t 0 = k := by
  have sp := s.pos
  have step : ∀ {a : Nat} {j : Int}, a < ls.length → j ∈ nxOf ls (a : Int) → j = ((a + 1 : Nat) : Int) ∧ a + 1 < ls.length := fun {a j} ha hj => by
    rw [s.nx ha] at hj
    split at hj
    · rename_i h; rw [List.mem_singleton] at hj; exact ⟨by omega, h⟩
    · cases hj
  have at_ : ∀ {a : Nat}, a < ls.length → (atI ls (a : Int)).getD .non = ls.getD a .non := fun {a} ha => by
    rw [atI_lit, List.getD_eq_getElem?_getD]
  induction f with
  | first h => exact ⟨0, rfl, by omega, h, rfl⟩
  | copy f n e h ih =>
    obtain ⟨a, rfl, ha, hs, q⟩ := ih
    obtain ⟨rfl, h2⟩ := step ha n
    refine ⟨a + 1, rfl, h2, h, ?_⟩
    rw [at_ ha] at e
    unfold dueN; rw [behindN_get h, e]; exact q
  | made f n e h ih =>
    obtain ⟨a, rfl, ha, hs, q⟩ := ih
    obtain ⟨rfl, h2⟩ := step ha n
    refine ⟨a + 1, rfl, h2, h, ?_⟩
    rw [at_ ha] at e
    unfold dueN; rw [behindN_get h, e]; rfl
theorem Straight.has {ps ls : List D} {fs : List Nat} (s : Straight ls) (f8 : fs.length = 8) (src : Src ps ls) : ∀ (i t : Nat), i < ls.length → t < 8 → Fact ps ls fs (i : Int) t ((dueN ps ls fs i).getD t 0)
  | 0, t, _, ht => .first ht
  | i + 1, t, hi, ht => by
    have at_ : (atI ls (i : Int)).getD .non = ls.getD i .non := by rw [atI_lit, List.getD_eq_getElem?_getD]
    have nx : ((i + 1 : Nat) : Int) ∈ nxOf ls (i : Int) := by rw [s.nx (by omega), if_pos hi]; simp
    have q := src (i : Int) t ht
    rw [at_] at q
    unfold dueN
    rw [behindN_get ht]
    cases e : srcL ps (ls.getD i .non) t with
    | inl a => exact .copy (Straight.has s f8 src i a (by omega) (q.1 a e)) nx (by rw [at_]; exact e) ht
    | inr c => exact .made (Straight.has s f8 src i t (by omega) ht) nx (by rw [at_]; exact e) ht
theorem Straight.stand {ps ls : List D} {fs : List Nat} (s : Straight ls) (f8 : fs.length = 8) (src : Src ps ls) {i : Nat} (hi : i < ls.length) : StandAt ps ls fs (i : Int) (some (dueN ps ls fs i)) := by
  refine ⟨dueN_len f8 i, fun t ht => ⟨⟨fun _ => s.has f8 src i t hi ht, fun k => .inl (by have := s.has f8 src i t hi ht; rw [k] at this; exact this)⟩, fun k' f => ?_⟩⟩
  obtain ⟨a, e, _, _, q⟩ := s.fact f8 src f
  have : a = i := by omega
  subst this
  exact .inl q
theorem Straight.told {ps ls : List D} {fs : List Nat} {F : Fs} (s : Straight ls) (f8 : fs.length = 8) (src : Src ps ls) (hl : F.length = ls.length) (h : ∀ i : Int, 0 ≤ i → StandAt ps ls fs i (atF F i)) : F.map standD = (List.range ls.length).map fun i => D.str (stS (dueN ps ls fs i)) := by
  apply List.ext_getElem (by simp [hl])
  intro i h1 h2
  rw [List.length_map] at h1
  have q := (h (i : Int) (by omega)).one (s.stand f8 src (by omega))
  have e : atF F (i : Int) = F[i] := by unfold atF; rw [Int.toNat_natCast, List.getElem?_eq_getElem h1]; rfl
  rw [e] at q
  rw [List.getElem_map, List.getElem_map, List.getElem_range, q]
  rfl
end VL
set_option maxHeartbeats 4000000
namespace VL
open PySem PySem.Spec L2
open PyProof.Rows hiding St
def valT (kvs : List (NK × D)) (k : NK) : Option D := (kvs.find? fun p => decide (p.1 = k)).map (·.2)
def putT (kvs : List (NK × D)) (k : NK) (d : D) : List (NK × D) := if (valT kvs k).isSome then kvs.map (fun p => if p.1 = k then (p.1, d) else p) else kvs ++ [(k, d)]
section
variable {K : PySem.W.Frag} {G : Hp}
theorem EntR.len : ∀ {xs : List (NK × Addr × Value)} {kvs : List (NK × D)}, EntR K G xs kvs → xs.length = kvs.length
  | _, _, .nil => rfl
  | _, _, .cons _ _ _ t => by simp [t.len]
theorem EntR.val {k : NK} : ∀ {xs : List (NK × Addr × Value)} {kvs : List (NK × D)}, EntR K G xs kvs → (atKey xs k = none ∧ valT kvs k = none) ∨ ∃ q u v d, atKey xs k = some (q, u) ∧ valT kvs k = some d ∧ RelV v u ∧ Rp K G v d
  | _, _, .nil => .inl ⟨rfl, rfl⟩
  | _, _, .cons (k := k') (q := q) (u := u) (d := d) _ _ ⟨v, r1, r2⟩ t => by
    unfold atKey valT
    rw [List.find?_cons, List.find?_cons]
    by_cases e : k' = k
    · simp only [e, decide_true]
      exact .inr ⟨q, u, v, d, rfl, rfl, r1, r2⟩
    · simp only [e, decide_false]
      exact t.val
theorem EntR.is_some {k : NK} {xs : List (NK × Addr × Value)} {kvs : List (NK × D)} (r : EntR K G xs kvs) : (atKey xs k).isSome = (valT kvs k).isSome := by
  rcases r.val (k := k) with ⟨a, b⟩ | ⟨_, _, _, _, a, b, _⟩ <;> rw [a, b] <;> rfl
theorem EntR.append : ∀ {xs ys : List (NK × Addr × Value)} {kvs kws : List (NK × D)}, EntR K G xs kvs → EntR K G ys kws → EntR K G (xs ++ ys) (kvs ++ kws)
  | _, _, _, _, .nil, s => s
  | _, _, _, _, .cons a b c t, s => .cons a b c (t.append s)
theorem EntR.putAll {k : NK} {u : Value} {d : D} (rv : ∃ v, RelV v u ∧ Rp K G v d) : ∀ {xs : List (NK × Addr × Value)} {kvs : List (NK × D)}, EntR K G xs kvs → EntR K G (xs.map (putAt k u)) (kvs.map fun p => if p.1 = k then (p.1, d) else p)
  | _, _, .nil => .nil
  | _, _, .cons (k := k') a b c t => by
    rw [List.map_cons, List.map_cons]
    unfold putAt
    by_cases e : k' = k
    · rw [if_pos e, if_pos e]; exact .cons a b rv (t.putAll rv)
    · rw [if_neg e, if_neg e]; exact .cons a b c (t.putAll rv)
theorem EntR.put {k : NK} {q : Addr} {u : Value} {d : D} {xs : List (NK × Addr × Value)} {kvs : List (NK × D)} (r : EntR K G xs kvs) (hk : k.depth ≤ 8 ∧ keyN (dOfN k) = some k) (rk : Rp K G (.ref q) (dOfN k)) (rv : ∃ v, RelV v u ∧ Rp K G v d) : EntR K G (storedH xs k q u) (putT kvs k d) := by
  unfold putT
  rcases r.val (k := k) with ⟨a, b⟩ | ⟨_, _, _, _, a, b, _⟩
  · rw [storedH_new a, b]; exact r.append (.cons hk rk rv .nil)
  · rw [storedH_old a, b]; exact r.putAll rv
end
section
variable {X : Cx} {pins : List (Addr × Obj)} {σ : L2.St} {H G : Hp} {s : Shared} {p : Addr} {xs : List (NK × Addr × Value)} {kvs : List (NK × D)}
theorem EntR.is (I : L2.Inv X pins σ H s) (g : Same G H) : ∀ {xs : List (NK × Addr × Value)} {kvs : List (NK × D)}, EntR X.K G xs kvs → ∀ x ∈ xs, (PySem.nestedKind X.prog X.w).is s.heap x.1 x.2.1
  | _, _, .nil, x, m => nomatch m
  | _, _, .cons hk rk _ t, x, m => by
    rcases List.mem_cons.mp m with e | m
    · subst e; exact ⟨nested_of I g _ hk.2 rk rfl, hk.1⟩
    · exact t.is I g x m
/-- at p: a dict of the store whose keys are tuples, to be read -/
def TD (H : Hp) (w : World) (p : Addr) (xs : List (NK × Addr × Value)) : Prop := H p = some (.ext (dtPhi w p xs)) ∨ ∃ ob, H p = some (.frz ob (.ext (dtPhi w p xs)))
theorem TD.phi (I : L2.Inv X pins σ H s) (t : TD H X.w p xs) : dtPhi X.w p xs s.heap := by
  rcases t with e | ⟨ob, e⟩
  · exact (I.hok p _ e).1
  · exact (I.hok p _ e).2.1
theorem TD.of (I : L2.Inv X pins σ H s) (g : Same G H) (t : TD H X.w p xs) (r : EntR X.K G xs kvs) : (p == sysModules) = false ∧ xs.length ≤ sizeLine ∧ s.heap.DictOfH (PySem.nestedKind X.prog X.w) p xs := by
  obtain ⟨a, b, c, o, es, ep, h1, h2, h3, h4⟩ := t.phi I
  exact ⟨a, b, o, es, ep, h1, h2, h3, h4, r.is I g, c⟩
theorem phi_of {h : Heap} {P : Program} {w : World} (hs : (p == sysModules) = false) (hl : xs.length ≤ sizeLine) (d : h.DictOfH (PySem.nestedKind P w) p xs) : dtPhi w p xs h := by
  obtain ⟨o, es, ep, h1, h2, h3, h4, _, h6⟩ := d
  exact ⟨hs, hl, h6, o, es, ep, h1, h2, h3, h4⟩
theorem phi_ok {P : Program} {w : World} {h : Heap} (q : dtPhi w p xs h) : ObjOk P w H h p (.ext (dtPhi w p xs)) := by
  refine ⟨q, ?_, fun h1 h2 q1 k => ?_⟩
  · obtain ⟨_, _, _, o, _, _, e, _⟩ := q; exact ⟨o, e⟩
  · obtain ⟨a, b, c, o, es, ep, e, r⟩ := q1
    exact ⟨a, b, c, o, es, ep, k o e, r⟩
/-- which of the store's dicts may be read -/
def rdT (w : World) (d : D) (S : Store) : Option (List (NK × D)) := match d with
  | .ref p => (match S p with
    | some (.dtn _ q kvs) => some kvs
    | some (.dtl _ q kvs) => some kvs
    | _ => none)
  | _ => none
/-- .. and that it is one of this world, at its place -/
def okT (w : World) (d : D) (S : Store) : Prop := match d with
  | .ref p => (match S p with
    | some (.dtn w' q _) => w' = w ∧ q = p
    | some (.dtl w' q _) => w' = w ∧ q = p
    | _ => False)
  | _ => False
theorem rdT_ok {K : PySem.W.Frag} {S : Store} {d : D} {v : V} {w : World} (vw : View K G S H) (r : Rp K G v d) (h : rdT w d S = some kvs) (ok : okT w d S) : ∃ p xs, v = .ref p ∧ TD H w p xs ∧ EntR K G xs kvs := by
  cases r with
  | ref a =>
    simp only [rdT, okT] at h ok
    cases e : S a with
    | none => rw [e] at h; cases h
    | some o =>
      rw [e] at h ok
      obtain ⟨_, u, hu, k⟩ := vw.st a _ e
      cases k with
      | dtn r =>
        cases h
        obtain ⟨rfl, rfl⟩ := ok
        exact ⟨_, _, rfl, .inl hu, r⟩
      | dtl r =>
        cases h
        obtain ⟨rfl, rfl⟩ := ok
        exact ⟨_, _, rfl, .inr ⟨_, hu⟩, r⟩
      | _ => cases h
  | _ => simp [rdT] at h
/-- a key that is a tuple -/
def keyT (d : D) : Option NK := match d with
  | .tup ds => (match keyN (.tup ds) with
    | some k => if k.depth ≤ 8 then some k else none
    | none => none)
  | _ => none
theorem keyT_ok {K : PySem.W.Frag} {d : D} {v : V} {k : NK} (r : Rp K G v d) (h : keyT d = some k) : ∃ a, v = .ref a ∧ (k.depth ≤ 8 ∧ keyN (dOfN k) = some k) ∧ Rp K G (.ref a) (dOfN k) := by
  cases r with
  | @tup a xs ds ht l =>
    simp only [keyT] at h
    split at h
    · rename_i k' e
      split at h
      · rename_i d8
        cases h
        have q := dOf_key _ e
        exact ⟨a, rfl, ⟨d8, by rw [q]; exact e⟩, by rw [q]; exact .tup ht l⟩
      · cases h
    · cases h
  | _ => simp [keyT] at h
def mTIn (w : World) (neg : Bool) : R2V := fun x y S Q => match keyT x, rdT w y S with
  | some k, some kvs => okT w y S ∧ Q (.bl (if neg then !(valT kvs k).isSome else (valT kvs k).isSome)) S
  | _, _ => False
theorem mTIn_e {w : World} {neg : Bool} {x y : D} {S : Store} {Q : D → Store → Prop} : mTIn w neg x y S Q = (match keyT x, rdT w y S with
  | some k, some kvs => okT w y S ∧ Q (.bl (if neg then !(valT kvs k).isSome else (valT kvs k).isSome)) S
  | _, _ => False) := rfl
def rTIn (X : Cx) (neg : Bool) : R2 := fun x y H Q => ∃ (G : Hp) (p a : Addr) (xs : List (NK × Addr × Value)) (kvs : List (NK × D)) (k : NK), Same G H ∧ x = .ref a ∧ y = .ref p ∧ TD H X.w p xs ∧ EntR X.K G xs kvs ∧ (k.depth ≤ 8 ∧ keyN (dOfN k) = some k) ∧ Rp X.K G (.ref a) (dOfN k) ∧ Q (.bl (if neg then !(valT kvs k).isSome else (valT kvs k).isSome)) H
theorem lr_tin {neg : Bool} : LR2 X.K (rTIn X neg) (mTIn X.w neg) := by
  intro x y v1 v2 G S H Q Q' vw r1 r2 h k
  unfold mTIn at h
  split at h
  · rename_i ky kvs e1 e2
    obtain ⟨a, rfl, hk, rk⟩ := keyT_ok r1 e1
    obtain ⟨p, xs, rfl, td, er⟩ := rdT_ok vw r2 e2 h.1
    exact ⟨G, p, a, xs, kvs, ky, vw.gh, rfl, rfl, td, er, hk, rk, k _ S _ H G (Aft.refl vw) (.bl _) h.2⟩
  · exact h.elim
theorem ov_tin' (hu : X.A.units + 65 < cLine) : OpV X (compareOp .In) (mTIn X.w false) := by
  refine ⟨rTIn X false, ?_, lr_tin⟩
  intro pins s σ H x y v u Q I rx ry ⟨G, p, a, xs, kvs, k, g, ex, ey, td, er, hk, rk, q⟩
  subst ex ey
  cases rx; cases ry
  obtain ⟨hs, hl, dd⟩ := td.of I g er
  have key : (PySem.nestedKind X.prog X.w).is s.heap k a := ⟨nested_of I g _ hk.2 rk rfl, hk.1⟩
  refine wpAny_in_heap (show X.A.units + 1 + 8 < cLine by omega) key hs dd ?_
  rw [er.is_some]
  exact ⟨.bl _, H, I.tok _, rfl, q⟩
theorem ov_tnotin' (hu : X.A.units + 65 < cLine) : OpV X (compareOp .NotIn) (mTIn X.w true) := by
  refine ⟨rTIn X true, ?_, lr_tin⟩
  intro pins s σ H x y v u Q I rx ry ⟨G, p, a, xs, kvs, k, g, ex, ey, td, er, hk, rk, q⟩
  subst ex ey
  cases rx; cases ry
  obtain ⟨hs, hl, dd⟩ := td.of I g er
  have key : (PySem.nestedKind X.prog X.w).is s.heap k a := ⟨nested_of I g _ hk.2 rk rfl, hk.1⟩
  refine notIn_keyed (show X.A.units + 1 + 8 < cLine by omega) key hs ⟨xs, dd, rfl⟩ ?_
  rw [valueAt_pairsH, Option.isSome_map, er.is_some]
  exact ⟨.bl _, H, I.tok _, rfl, q⟩
def mTGet (w : World) : R2V := fun d y S Q => match rdT w d S, keyT y with
  | some kvs, some k => okT w d S ∧ (match valT kvs k with
    | some z => Q z S
    | none => False)
  | _, _ => False
theorem mTGet_e {w : World} {d y : D} {S : Store} {Q : D → Store → Prop} : mTGet w d y S Q = (match rdT w d S, keyT y with
  | some kvs, some k => okT w d S ∧ (match valT kvs k with
    | some z => Q z S
    | none => False)
  | _, _ => False) := rfl
def rTGet (X : Cx) : R2 := fun y x H Q => ∃ (G : Hp) (p a : Addr) (xs : List (NK × Addr × Value)) (kvs : List (NK × D)) (k : NK) (z : D), Same G H ∧ x = .ref a ∧ y = .ref p ∧ TD H X.w p xs ∧ EntR X.K G xs kvs ∧ (k.depth ≤ 8 ∧ keyN (dOfN k) = some k) ∧ Rp X.K G (.ref a) (dOfN k) ∧ valT kvs k = some z ∧ ∀ v, Rp X.K G v z → Q v H
theorem lr_tget : LR2 X.K (rTGet X) (mTGet X.w) := by
  intro x y v1 v2 G S H Q Q' vw r1 r2 h k
  unfold mTGet at h
  split at h
  · rename_i kvs ky e1 e2
    obtain ⟨a, rfl, hk, rk⟩ := keyT_ok r2 e2
    obtain ⟨p, xs, rfl, td, er⟩ := rdT_ok vw r1 e1 h.1
    obtain ⟨_, h⟩ := h
    split at h
    · rename_i z e3
      exact ⟨G, p, a, xs, kvs, ky, z, vw.gh, rfl, rfl, td, er, hk, rk, e3, fun v rv => k _ S _ H G (Aft.refl vw) rv h⟩
    · exact h.elim
  · exact h.elim
theorem v_tsub' {o i : Expr} {m mi : VE} {pos : Pos} (hu : X.A.units + 65 < cLine) (ho : PE X o (LE X.K m)) (hi : PE X i (LE X.K mi)) (hs : NoSl i := by first | exact fun _ _ => rfl | trivial) : PE X (.Subscript o i pos) (LE X.K (mOp (mTGet X.w) m mi)) := by
  refine PE.imp (t := tOp (rTGet X) (LE X.K m) (LE X.K mi)) ⟨fun pins s σ H Q I h => ?_⟩ fun σ H Q' q => le_op lr_tget σ H Q' q
  refine subD_of PySem.F.slot_dict_getitem.lookup hs (thn (ho.run pins s σ H _ I h) fun u s1 ⟨x, H1, I1, rx, q1⟩ => thn (hi.run pins s1 σ H1 _ I1 q1) fun iv s2 ⟨y, H2, I2, ry, G, p, a, xs, kvs, k, z, g, ex, ey, td, er, hk, rk, ev, q⟩ => ?_)
  subst ex ey
  cases rx; cases ry
  obtain ⟨hs, hl, dd⟩ := td.of I2 g er
  have key : (PySem.nestedKind X.prog X.w).is s2.heap k a := ⟨nested_of I2 g _ hk.2 rk rfl, hk.1⟩
  rcases er.val (k := k) with ⟨e1, e2⟩ | ⟨q', u', v', d', e1, e2, rv, rp⟩
  · rw [ev] at e2; cases e2
  · rw [ev] at e2; cases e2
    exact ⟨dd.typeIs, wpAny_getItem_heap (show X.A.units + 1 + 8 < cLine by omega) key dd e1 ⟨v', H2, I2.tok _, rv, q v' rp⟩⟩
def gSetT (w : World) (mo mi : VE) : VG := fun d ρ S Q => mo ρ S fun o S1 => mi ρ S1 fun i S2 => match o, keyT i with
  | .ref p, some k => (match S2 p with
    | some (.dtn w' q kvs) => (w' = w ∧ q = p) ∧ kvs.length < sizeLine ∧ Q ρ (supd S2 p (.dtn w p (putT kvs k d)))
    | _ => False)
  | _, _ => False
theorem gSetT_e {w : World} {mo mi : VE} {d : D} {ρ : Sl} {S : Store} {Q : Sl → Store → Prop} : gSetT w mo mi d ρ S Q = mo ρ S fun o S1 => mi ρ S1 fun i S2 => match o, keyT i with
  | .ref p, some k => (match S2 p with
    | some (.dtn w' q kvs) => (w' = w ∧ q = p) ∧ kvs.length < sizeLine ∧ Q ρ (supd S2 p (.dtn w p (putT kvs k d)))
    | _ => False)
  | _, _ => False := rfl
def rTSet (X : Cx) : TSet := fun o i v H Q => ∃ (G : Hp) (p a : Addr) (xs : List (NK × Addr × Value)) (kvs : List (NK × D)) (k : NK), Same G H ∧ o = .ref p ∧ i = .ref a ∧ H p = some (.ext (dtPhi X.w p xs)) ∧ EntR X.K G xs kvs ∧ (k.depth ≤ 8 ∧ keyN (dOfN k) = some k) ∧ Rp X.K G (.ref a) (dOfN k) ∧ kvs.length < sizeLine ∧
  ∀ u, RelV v u → Q (upd H p (.ext (dtPhi X.w p (storedH xs k a u))))
theorem storedH_len {xs : List (NK × Addr × Value)} {k : NK} {a : Addr} {u : Value} : (storedH xs k a u).length ≤ xs.length + 1 := by
  unfold storedH; split <;> simp
theorem set_dictT (hu : X.A.units + 65 < cLine) : PSet X (rTSet X) := by
  intro pins s σ H o i v ov iv u Q I ro ri rv ⟨G, p, a, xs, kvs, k, g, eo, ei, e, er, hk, rk, lt, q⟩
  subst eo ei
  cases ro; cases ri
  obtain ⟨hs, hl, dd⟩ := (show TD H X.w p xs from .inl e).of I g er
  have key : (PySem.nestedKind X.prog X.w).is s.heap k a := ⟨nested_of I g _ hk.2 rk rfl, hk.1⟩
  refine wpAny_setItem_heap (hsz := hl) (show X.A.units + 1 + 8 < cLine by omega) key dd fun h' dd' sb => ⟨_, ?_, q u rv⟩
  have hl' : (storedH xs k a u).length ≤ sizeLine := Nat.le_trans storedH_len (by rw [er.len]; omega)
  exact d_write I (by rw [e]; exact True.intro) sb (by obtain ⟨o, _, _, e, _⟩ := dd'; exact ⟨o, e⟩) (phi_ok (phi_of hs hl' dd'))
theorem g_sett' {o i : Expr} {mo mi : VE} {pos : Pos} (ho : PE X o (LE X.K mo)) (hi : PE X i (LE X.K mi))
    (hg : PG X (.Subscript o i pos) (gSub (LE X.K mo) (LE X.K mi) (rTSet X))) : PG X (.Subscript o i pos) (LG X.K (gSetT X.w mo mi)) := by
  refine PG.imp hg fun v σ H Q' ⟨ρ, S, G, d, Q, vw, re, rd, hm, k⟩ => ?_
  refine ⟨ρ, S, G, _, vw, re, hm, fun o S1 vo H1 G1 a1 r1 h1 => ?_⟩
  refine ⟨ρ, S1, G1, _, a1.vw, re.mono a1.gg, h1, fun i S2 vi H2 G2 a2 r2 h2 => ?_⟩
  split at h2
  · rename_i p ky ek
    cases r1
    obtain ⟨a, rfl, hk, rk⟩ := keyT_ok r2 ek
    split at h2
    · rename_i w' q' kvs e
      obtain ⟨⟨rfl, rfl⟩, lt, h2⟩ := h2
      obtain ⟨_, u, hu, ku⟩ := a2.vw.st _ _ e
      cases ku with
      | @dtn _ _ xs _ er =>
        have rr := ((rd.mono a1.gg).mono a2.gg)
        refine ⟨G2, _, a, xs, kvs, ky, a2.vw.gh, rfl, rfl, hu, er, hk, rk, lt, fun u rv => ?_⟩
        have a3 := a2.vw.wrote (o' := .dtn X.w q' (putT kvs ky d)) e (.dtn (er.put hk rk ⟨v, rv, rr⟩))
        exact k ρ _ σ _ _ (a1.trans (a2.trans a3)) (re.mono (a1.trans (a2.trans a3)).gg) h2
    · exact h2.elim
  · exact h2.elim
def mDictT0 (w : World) : VE := fun _ S Q => ∀ p, S p = none → Q (.ref p) (supd S p (.dtn w p []))
theorem mDictT0_e {w : World} {ρ : Sl} {S : Store} {Q : D → Store → Prop} : mDictT0 w ρ S Q = ∀ p, S p = none → Q (.ref p) (supd S p (.dtn w p [])) := rfl
theorem v_dictT0' {pos : Pos} : PE X (.Dict [] [] pos) (LE X.K (mDictT0 X.w)) := by
  refine PE.imp (t := fun _ H Q => ∀ p, H p = none → Q (.ref p) (upd H p (.ext (dtPhi X.w p [])))) ⟨fun pins s σ H Q I h => ?_⟩ fun σ H Q' ⟨ρ, S, G, Q, vw, re, hm, k⟩ => fun p hp => k _ _ _ _ _ (vw.stored (o := .dtn X.w p []) hp (.dtn .nil)) (.ref _) (hm p (vw.none hp).2)
  refine wpAny_Dict_empty ⟨.ref s.heap.objs.size, _, I.laid (a := s.heap.objs.size) (o := .ext (dtPhi X.w s.heap.objs.size [])) (t' := s.toks) (fun _ _ q => Heap.get?_push_of_some _ q) (Nat.le_refl _) (phi_ok ?_), rfl, h _ (I.hok.fresh (Nat.le_refl _))⟩
  exact ⟨beq_eq_false_iff_ne.mpr (Ne.symm (Nat.ne_of_lt I.big)), Nat.zero_le _, .nil, _, #[], 0, Heap.get?_push_size _ rfl, ⟨rfl, rfl, rfl⟩, rfl, rfl⟩
theorem ov_tin {w : World} (hw : X.w = w) (hu : X.A.units + 65 < cLine) : OpV X (compareOp .In) (mTIn w false) := by subst hw; exact ov_tin' hu
theorem ov_tnotin {w : World} (hw : X.w = w) (hu : X.A.units + 65 < cLine) : OpV X (compareOp .NotIn) (mTIn w true) := by subst hw; exact ov_tnotin' hu
theorem v_tsub {w : World} (hw : X.w = w) {o i : Expr} {m mi : VE} {pos : Pos} (hu : X.A.units + 65 < cLine) (ho : PE X o (LE X.K m)) (hi : PE X i (LE X.K mi)) (hs : NoSl i := by first | exact fun _ _ => rfl | trivial) : PE X (.Subscript o i pos) (LE X.K (mOp (mTGet w) m mi)) := by subst hw; exact v_tsub' hu ho hi hs
theorem g_sett {w : World} (hw : X.w = w) {o i : Expr} {mo mi : VE} {pos : Pos} (ho : PE X o (LE X.K mo)) (hi : PE X i (LE X.K mi))
    (hg : PG X (.Subscript o i pos) (gSub (LE X.K mo) (LE X.K mi) (rTSet X))) : PG X (.Subscript o i pos) (LG X.K (gSetT w mo mi)) := by subst hw; exact g_sett' ho hi hg
theorem v_dictT0 {w : World} (hw : X.w = w) {pos : Pos} : PE X (.Dict [] [] pos) (LE X.K (mDictT0 w)) := by subst hw; exact v_dictT0'
end
theorem rdT_n {w w' : World} {p q : Addr} {S : Store} {kvs : List (NK × D)} (h : S p = some (.dtn w' q kvs)) : rdT w (.ref p) S = some kvs := by simp only [rdT, h]
theorem okT_n {w : World} {p : Addr} {S : Store} {kvs : List (NK × D)} (h : S p = some (.dtn w p kvs)) : okT w (.ref p) S = True := by simp [okT, h]
theorem rdT_supd {w w' : World} {p q : Addr} {S : Store} {kvs : List (NK × D)} : rdT w (.ref p) (supd S p (.dtn w' q kvs)) = some kvs := rdT_n supd_same
theorem okT_supd {w : World} {p : Addr} {S : Store} {kvs : List (NK × D)} : okT w (.ref p) (supd S p (.dtn w p kvs)) = True := okT_n supd_same
theorem keyT_ii {i j : Int} : keyT (.tup [.int i, .int j]) = some (.tup [.num i, .num j]) := rfl
theorem keyT_iis {i j : Int} {s : Str} : keyT (.tup [.int i, .int j, .str s]) = some (.tup [.num i, .num j, .text s]) := rfl
theorem keyT_ih {i k : Int} {w : Str} : keyT (.tup [.int i, .tup [.str w, .int k]]) = some (.tup [.num i, .tup [.text w, .num k]]) := rfl
theorem cx_w {CX : CXT} {P : Program} {w : World} {K : PySem.W.Frag} {mg : Str → Option Value} {base : Heap} {N : List Str} {x : Str} {sc : Scope} {f : Addr} {cdv : Value} {A : Around} {outer : List Env} {s : Shared} {H : Hp} {E : XK} : (cxOf CX P w K mg base N x sc f cdv A outer s H E).w = w := rfl
end VL
set_option maxHeartbeats 4000000
namespace VL
open PySem PySem.Spec L2
open PyProof.Rows hiding St
/-- what a home's kind becomes behind a line: pairs of a sign and a kind -/
def bhN (ps : List D) (l : D) (s c : Nat) : List (Nat × Nat) := match l with
  | .tup (.str w :: r) => (match writesW w r with
    | h :: _ => (if s ≠ signN h then [(s, c)] else []) ++ (if w = "copy" then (if signN (r.getD 1 .non) = s then [(signN h, c)] else []) else (if s = signN h then [(signN h, if w = "call" then givesN ps (r.getD 0 .non) else kindW w)] else []))
    | [] => [(s, c)])
  | _ => []
theorem bhN_copy {ps : List D} {w : Str} {r : List D} {s c t : Nat} (e : srcL ps (.tup (.str w :: r)) t = .inl s) : (t, c) ∈ bhN ps (.tup (.str w :: r)) s c := by
  unfold bhN
  simp only [srcL] at e
  cases ew : writesW w r with
  | nil =>
    rw [ew] at e
    simp only [Sum.inl.injEq] at e
    subst e
    simp only [ew]; simp
  | cons h rest =>
    rw [ew] at e
    simp only [ew]
    simp only at e
    by_cases z : t = signN h
    · rw [if_pos z] at e
      by_cases cw : w = "copy"
      · rw [if_pos cw] at e
        simp only [Sum.inl.injEq] at e
        rw [if_pos cw, if_pos e, z]
        simp
      · rw [if_neg cw] at e
        split at e <;> cases e
    · rw [if_neg z] at e
      simp only [Sum.inl.injEq] at e
      subst e
      rw [if_pos z]; simp
theorem bhN_made {ps : List D} {w : Str} {r : List D} {s c t k : Nat} (e : srcL ps (.tup (.str w :: r)) t = .inr k) (hs : s = t) : (t, k) ∈ bhN ps (.tup (.str w :: r)) s c := by
  unfold bhN
  simp only [srcL] at e
  cases ew : writesW w r with
  | nil => rw [ew] at e; cases e
  | cons h rest =>
    rw [ew] at e
    simp only [ew]
    simp only at e
    by_cases z : t = signN h
    · rw [if_pos z] at e
      by_cases cw : w = "copy"
      · rw [if_pos cw] at e; cases e
      · rw [if_neg cw] at e
        subst hs
        subst z
        rw [if_neg (by simp), if_neg cw, if_pos rfl, List.nil_append]
        split at e
        · rename_i c2
          simp only [Sum.inr.injEq] at e
          subst e; rw [if_pos c2]; simp
        · rename_i c2
          simp only [Sum.inr.injEq] at e
          subst e; rw [if_neg c2]; simp
    · rw [if_neg z] at e; cases e
theorem Fact.all {ps ls : List D} {fs : List Nat} (src : Src ps ls) {i : Int} {t k : Nat} (f : Fact ps ls fs i t k) : ∀ t', t' < 8 → ∃ k', Fact ps ls fs i t' k' := by
  have step : ∀ {i j : Int}, (∀ t', t' < 8 → ∃ k', Fact ps ls fs i t' k') → j ∈ nxOf ls i → ∀ t', t' < 8 → ∃ k', Fact ps ls fs j t' k' := fun {i j} ih n t' ht => by
    cases e : srcL ps ((atI ls i).getD .non) t' with
    | inl s =>
      obtain ⟨k', f'⟩ := ih s ((src i t' ht).1 s e)
      exact ⟨k', .copy f' n e ht⟩
    | inr c =>
      obtain ⟨k', f'⟩ := ih 0 (by decide)
      exact ⟨c, .made f' n e ht⟩
  induction f with
  | first h => exact fun t' ht => ⟨_, .first ht⟩
  | copy f n e h ih => exact step ih n
  | made f n e h ih => exact step ih n
/-- a fact: a line, a sign, a kind -/
abbrev FT := Int × Nat × Nat
/-- where a fact goes on to -/
def nxF (ps ls : List D) (f : FT) : List FT := (nxOf ls f.1).flatMap fun j => (bhN ps ((atI ls f.1).getD .non) f.2.1 f.2.2).map fun p => (j, p.1, p.2)
structure FI (ps ls : List D) (fs : List Nat) (L W : List FT) : Prop where
  nd : L.Nodup
  fl : ∀ f ∈ L, Fact ps ls fs f.1 f.2.1 f.2.2
  fw : ∀ f ∈ W, Fact ps ls fs f.1 f.2.1 f.2.2
  on : ∀ f ∈ L, ∀ g ∈ nxF ps ls f, g ∈ L ∨ g ∈ W
  st : ∀ t, t < 8 → (0, t, fs.getD t 0) ∈ L ∨ (0, t, fs.getD t 0) ∈ W
/-- each fact has a number below 24 a line -/
def codeF (f : FT) : Int := 24 * f.1 + 3 * (f.2.1 : Int) + (if f.2.2 = 110 then 0 else if f.2.2 = 98 then 1 else 2)
theorem codeF_inj {f g : FT} (hf : f.2.1 < 8 ∧ f.2.2 ∈ [110, 98, 45]) (hg : g.2.1 < 8 ∧ g.2.2 ∈ [110, 98, 45]) (h : codeF f = codeF g) : f = g := by
  obtain ⟨i, t, c⟩ := f
  obtain ⟨j, u, d⟩ := g
  simp only [List.mem_cons, List.not_mem_nil, or_false] at hf hg
  unfold codeF at h
  simp only at h hf hg
  obtain ⟨t8, hc⟩ := hf
  obtain ⟨u8, hd⟩ := hg
  rcases hc with rfl | rfl | rfl <;> rcases hd with rfl | rfl | rfl <;> simp at h <;> first
    | (exfalso; omega)
    | (have e1 : i = j := by omega
       have e2 : t = u := by omega
       rw [e1, e2])
theorem nodup_on {α β : Type} {g : α → β} : ∀ {L : List α}, L.Nodup → (∀ a ∈ L, ∀ b ∈ L, g a = g b → a = b) → (L.map g).Nodup
  | [], _, _ => .nil
  | a :: L, nd, h => by
    rw [List.map_cons, List.nodup_cons]
    rw [List.nodup_cons] at nd
    refine ⟨fun m => ?_, nodup_on nd.2 fun x hx y hy => h x (List.mem_cons_of_mem _ hx) y (List.mem_cons_of_mem _ hy)⟩
    obtain ⟨b, mb, e⟩ := List.mem_map.mp m
    have := h b (List.mem_cons_of_mem _ mb) a List.mem_cons_self e
    subst this
    exact nd.1 mb
theorem FI.few {ps ls : List D} {fs : List Nat} {L W : List FT} (q : FI ps ls fs L W) (src : Src ps ls) (l8 : fs.length = 8) (hf : ∀ c ∈ fs, c ∈ [110, 98, 45]) (inn : ∀ {i t k}, Fact ps ls fs i t k → 0 ≤ i ∧ i < (ls.length : Int)) : L.length ≤ 24 * ls.length := by
  have := pigeon (24 * ls.length) (L.map codeF) (by
    exact nodup_on q.nd fun f mf g mg e => codeF_inj ((q.fl f mf).sign src l8 hf) ((q.fl g mg).sign src l8 hf) e) fun x hx => by
    obtain ⟨f, mf, rfl⟩ := List.mem_map.mp hx
    obtain ⟨a, b⟩ := inn (q.fl f mf)
    obtain ⟨c, d⟩ := (q.fl f mf).sign src l8 hf
    unfold codeF
    push_cast
    split <;> (try split) <;> omega
  rwa [List.length_map] at this
/-- a new one -/
theorem FI.new {ps ls : List D} {fs : List Nat} {L W : List FT} {f : FT} (q : FI ps ls fs L (W ++ [f])) (h : f ∉ L) (go : ∀ g ∈ nxF ps ls f, Fact ps ls fs g.1 g.2.1 g.2.2) : FI ps ls fs (L ++ [f]) (W ++ nxF ps ls f) := by
  have sub : ∀ g, g ∈ L ∨ g ∈ W ++ [f] → g ∈ L ++ [f] ∨ g ∈ W ++ nxF ps ls f := fun g hg => by
    rcases hg with m | m
    · exact .inl (List.mem_append_left _ m)
    · rcases List.mem_append.mp m with m | m
      · exact .inr (List.mem_append_left _ m)
      · rw [List.mem_singleton.mp m]; exact .inl (by simp)
  refine ⟨?_, fun g m => ?_, fun g m => ?_, fun a ha g hg => ?_, fun t ht => sub _ (q.st t ht)⟩
  · rw [List.nodup_append]
    exact ⟨q.nd, by simp, fun a ha b hb => by rw [List.mem_singleton.mp hb]; exact fun z => h (z ▸ ha)⟩
  · rcases List.mem_append.mp m with m | m
    · exact q.fl g m
    · rw [List.mem_singleton.mp m]; exact q.fw f (by simp)
  · rcases List.mem_append.mp m with m | m
    · exact q.fw g (List.mem_append_left _ m)
    · exact go g m
  · rcases List.mem_append.mp ha with ha | ha
    · exact sub g (q.on a ha g hg)
    · rw [List.mem_singleton.mp ha] at hg; exact .inr (List.mem_append_right _ hg)
/-- gone round: all facts are there -/
theorem FI.done {ps ls : List D} {fs : List Nat} {L : List FT} (q : FI ps ls fs L []) (src : Src ps ls) (ln : ∀ i, ∃ w r, (atI ls i).getD .non = .tup (.str w :: r) ∨ nxOf ls i = []) {i : Int} {t k : Nat} (f : Fact ps ls fs i t k) : (i, t, k) ∈ L := by
  have st : ∀ {f g : FT}, f ∈ L → g ∈ nxF ps ls f → g ∈ L := fun hf hg => (q.on _ hf _ hg).elim id fun z => nomatch z
  have onto : ∀ {i j : Int} {s c t k : Nat}, (i, s, c) ∈ L → j ∈ nxOf ls i → (t, k) ∈ bhN ps ((atI ls i).getD .non) s c → (j, t, k) ∈ L := fun {i j s c t k} m n b => st m (by
    unfold nxF
    exact List.mem_flatMap.mpr ⟨j, n, List.mem_map.mpr ⟨(t, k), b, rfl⟩⟩)
  have wr : ∀ {i j : Int}, j ∈ nxOf ls i → ∃ w r, (atI ls i).getD .non = .tup (.str w :: r) := fun {i j} n => by
    obtain ⟨w, r, e | e⟩ := ln i
    · exact ⟨w, r, e⟩
    · rw [e] at n; cases n
  have main : ∀ {i : Int} {t k : Nat}, Fact ps ls fs i t k → (i, t, k) ∈ L ∧ ∀ t', t' < 8 → ∃ k', (i, t', k') ∈ L := by
    intro i t k f
    induction f with
    | first h => exact ⟨(q.st _ h).elim id (fun z => nomatch z), fun t' ht => ⟨_, (q.st t' ht).elim id (fun z => nomatch z)⟩⟩
    | @copy i j s t k f n e h ih =>
      obtain ⟨w, r, el⟩ := wr n
      have all : ∀ t', t' < 8 → ∃ k', (j, t', k') ∈ L := fun t' ht => by
        cases e2 : srcL ps ((atI ls i).getD .non) t' with
        | inl s' =>
          obtain ⟨k', m⟩ := ih.2 s' ((src i t' ht).1 s' e2)
          exact ⟨k', onto m n (by rw [el] at e2 ⊢; exact bhN_copy e2)⟩
        | inr c =>
          obtain ⟨k', m⟩ := ih.2 t' ht
          exact ⟨c, onto m n (by rw [el] at e2 ⊢; exact bhN_made e2 rfl)⟩
      exact ⟨onto ih.1 n (by rw [el] at e ⊢; exact bhN_copy e), all⟩
    | @made i j s t k c f n e h ih =>
      obtain ⟨w, r, el⟩ := wr n
      have all : ∀ t', t' < 8 → ∃ k', (j, t', k') ∈ L := fun t' ht => by
        cases e2 : srcL ps ((atI ls i).getD .non) t' with
        | inl s' =>
          obtain ⟨k', m⟩ := ih.2 s' ((src i t' ht).1 s' e2)
          exact ⟨k', onto m n (by rw [el] at e2 ⊢; exact bhN_copy e2)⟩
        | inr c =>
          obtain ⟨k', m⟩ := ih.2 t' ht
          exact ⟨c, onto m n (by rw [el] at e2 ⊢; exact bhN_made e2 rfl)⟩
      obtain ⟨k', m⟩ := ih.2 t h
      exact ⟨onto m n (by rw [el] at e ⊢; exact bhN_made e rfl), all⟩
  exact (main f).1
end VL
set_option maxHeartbeats 4000000
namespace VL
open PySem PySem.Spec L2
open PyProof.Rows hiding St
/-- what is walked is drawn first -/
theorem mLc_draw {c : CT} {mi : VW} {mt : VT} {me : VE} {vs : List Nat} {R : List D → Store → (D → Store → Prop) → Prop} {ρ : Sl} {S : Store} {Q : D → Store → Prop} (h : mi ρ S fun ds kp S1 => mLcG c (fun _ _ Qi => Qi ds kp S1) mt me vs R ρ S Q) : mLcG c mi mt me vs R ρ S Q := h
section
variable {X : Cx}
/-- the ways of a statement are joined by what holds behind it -/
def mCut (t u : VS) : VS := fun E ρ S => ∃ J : Sl → Store → Prop, t (E.on J) ρ S ∧ ∀ ρ' S', J ρ' S' → u E ρ' S'
theorem mCut_of {t u : VS} {E : VEnds} {ρ : Sl} {S : Store} (J : Sl → Store → Prop) (h : t (E.on J) ρ S) (k : ∀ ρ' S', J ρ' S' → u E ρ' S') : mCut t u E ρ S := ⟨J, h, k⟩
theorem s_cut {st : Stmt} {rest : List Stmt} {t u : VS} (h1 : PS X st (LS X.K t)) (h2 : PSs X rest (LS X.K u)) : PSs X (st :: rest) (LS X.K (mCut t u)) :=
  PSs.imp (pss_cons h1 h2) fun D' σ H ⟨ρ, S, G, E, vw, re, ⟨J, hm, hj⟩, ok⟩ => ⟨ρ, S, G, _, vw, re, hm, ⟨fun ρ' S' σ' H' G' a r q => ⟨ρ', S', G', E, a.vw, r, hj ρ' S' q, ok.after a⟩, ok.rt, ok.bk, ok.ct⟩⟩
end
end VL
set_option maxHeartbeats 2000000
namespace VL
open PySem PySem.Spec L2
open PyProof.Rows hiding St
abbrev VXs := Str → List (Str × D) → Sl → Store → Prop
def PayR (K : PySem.W.Frag) (G : Hp) (fs : List (Str × D)) (dd : Option Addr) (H : Hp) : Prop := (fs = [] ∧ dd = none) ∨ (fs ≠ [] ∧ ∃ d vs, dd = some d ∧ H d = some (.xd vs) ∧ RpF K G vs fs)
def WOk (K : PySem.W.Frag) (mg : Str → Option Value) (G : Hp) (S : Store) (H : Hp) (Wv : VXs) (W : WX) : Prop :=
  ∀ n fs cls dd ρ S' σ H' G', Aft K G S H S' H' G' → REnv K G' σ ρ → mg n = some cls → PayR K G' fs dd H' → Wv n fs ρ S' → W cls dd σ H'
section
variable {K : PySem.W.Frag} {mg : Str → Option Value} {G G1 H H1 : Hp} {S S1 : Store} {Wv : VXs} {W : WX}
theorem WOk.after (o : WOk K mg G S H Wv W) (a : Aft K G S H S1 H1 G1) : WOk K mg G1 S1 H1 Wv W := fun n fs cls dd ρ S' σ H' G' b => o n fs cls dd ρ S' σ H' G' (a.trans b)
end
def VEnds.gone (E : VEnds) (i : Nat) : VEnds := { nx := fun ρ S => E.nx (ρ.set i none) S, rt := E.rt, bk := fun ρ S => E.bk (ρ.set i none) S, ct := fun ρ S => E.ct (ρ.set i none) S }
theorem gone_nx {E : VEnds} {i : Nat} : (E.gone i).nx = fun ρ S => E.nx (ρ.set i none) S := rfl
theorem gone_rt {E : VEnds} {i : Nat} : (E.gone i).rt = E.rt := rfl
theorem gone_bk {E : VEnds} {i : Nat} : (E.gone i).bk = fun ρ S => E.bk (ρ.set i none) S := rfl
theorem gone_ct {E : VEnds} {i : Nat} : (E.gone i).ct = fun ρ S => E.ct (ρ.set i none) S := rfl
section
variable {X : Cx} {a D : Addr} {oe : Obj} {pn : List (Addr × Obj)} {m : VE} {e : Expr} {y : Str} {p2 p3 pos : Pos} {b : Bool}
/-- names of classes, one behind another -/
inductive ClsR (X : Cx) : List Expr → List V → List Value → Prop
  | nil : ClsR X [] [] []
  | own {y : Str} {C : Addr} {p : Pos} {es : List Expr} {vs : List V} {us : List Value} (hg : Gl X y) (hm : X.mg y = some (.ref C)) (hd : (y == ("__debug__" : Str)) = false) (t : ClsR X es vs us) : ClsR X (.Name y p :: es) (.ref C :: vs) (.ref C :: us)
theorem ClsR.len {es : List Expr} {vs : List V} {us : List Value} (c : ClsR X es vs us) : vs.length = us.length := by
  induction c with
  | nil => rfl
  | own hg hm hd t ih => simp [ih]
end
end VL
set_option maxHeartbeats 2000000
namespace VL
open PySem PySem.Spec L2
open PyProof.Rows hiding St
end VL
set_option maxHeartbeats 2000000
namespace VL
open PySem PySem.Spec L2
open PyProof.Rows hiding St
end VL
set_option maxHeartbeats 2000000
namespace VL
open PySem PySem.Spec L2
open PyProof.Rows hiding St
mutual
/-- no dict, no address, texts of true signs -/
def layD : D → Bool
  | .non => true | .bl _ => true | .int _ => true | .str s => PyData.strOk s
  | .tup ds => layL ds | .lst ds => layL ds | .ro ds => layL ds | .dct _ => false | .ref _ => false
def layL : List D → Bool
  | [] => true
  | d :: ds => layD d && layL ds
end
mutual
theorem lay_ok : ∀ d : D, layD d = true → (py d).canLay0 = true ∧ (py d).depth ≤ dep d
  | .non, _ => ⟨rfl, Nat.zero_le _⟩
  | .bl b, _ => ⟨rfl, Nat.zero_le _⟩
  | .int i, _ => ⟨rfl, Nat.zero_le _⟩
  | .str s, h => ⟨by have h' : PyData.strOk s = true := by simpa only [layD] using h
                     exact h', Nat.zero_le _⟩
  | .tup ds, h => by
    obtain ⟨a, b⟩ := layL_ok ds (by simpa only [layD] using h)
    exact ⟨by simpa only [py, PyData.canLay0] using a, by simp only [py, PyData.depth, dep]; omega⟩
  | .lst ds, h => by
    obtain ⟨a, b⟩ := layL_ok ds (by simpa only [layD] using h)
    exact ⟨by simpa only [py, PyData.canLay0] using a, by simp only [py, PyData.depth, dep]; omega⟩
  | .ro ds, h => by
    obtain ⟨a, b⟩ := layL_ok ds (by simpa only [layD] using h)
    exact ⟨by simpa only [py, PyData.canLay0] using a, by simp only [py, PyData.depth, dep]; omega⟩
  | .dct _, h => by simp only [layD, Bool.false_eq_true] at h
  | .ref _, h => by simp only [layD, Bool.false_eq_true] at h
theorem layL_ok : ∀ ds : List D, layL ds = true → PyData.canLayAll0 (pyL ds) = true ∧ PyData.depthAll (pyL ds) ≤ depL ds
  | [], _ => ⟨rfl, Nat.zero_le _⟩
  | d :: ds, h => by
    simp only [layL, Bool.and_eq_true] at h
    obtain ⟨a, b⟩ := lay_ok d h.1
    obtain ⟨c, e⟩ := layL_ok ds h.2
    exact ⟨by simp only [pyL, PyData.canLayAll0, a, c, Bool.and_self], by simp only [pyL, PyData.depthAll, depL]; omega⟩
end
theorem shaped_lay {d : D} (h : layD d = true) (k : dep d ≤ 64) : SeqAt.shaped (py d) = true := by
  obtain ⟨a, b⟩ := lay_ok d h
  unfold SeqAt.shaped
  rw [a, Bool.true_and, decide_eq_true_eq]; omega
theorem rsv_lay {S : Store} {d : D} (h : layD d = true) : rsv S d = d := by
  cases d <;> first | rfl | simp only [layD, Bool.false_eq_true] at h
theorem okq_lay {S : Store} {d : D} (h : layD d = true) (k : dep d ≤ 64) : okq S d := okq_of (rsv_lay h) (shaped_lay h k)
theorem okq_lref {S : Store} {a : Addr} {ds : List D} (e : S a = some (.lst ds)) (h : layL ds = true) (k : depL ds ≤ 63) : okq S (.ref a) := by
  have e2 : rsv S (.ref a) = .lst ds := by simp only [rsv, e]
  unfold okq; rw [e2]; exact shaped_lay (by simpa only [layD] using h) (by simp only [dep]; omega)
end VL
set_option maxHeartbeats 2000000
namespace VL
open PySem PySem.Spec L2
open PyProof.Rows hiding St
/-- the numbers of a line are below B -/
def NumL (B : Int) (l : D) : Prop := ∀ w r, l = .tup (w :: r) → ∀ i, D.int i ∈ r → -B < i ∧ i < B
structure DefQ (B defs : Int) (d : D) : Prop where
  p : DefP defs d
  q : ∃ (t g : Str) (ks : List Int) (b : Int) (ls : List D), d = .tup [.str t, .str g, .tup (ks.map D.int), .int b, .tup ls] ∧ (∀ c ∈ t.cps.toList, c ∈ [110, 98, 45]) ∧ t.length = 4 ∧ (∀ c ∈ g.cps.toList, c ∈ [110, 98, 45]) ∧ g.length = 1 ∧ ks.Pairwise (· < ·) ∧ (∀ k ∈ ks, 1 ≤ k ∧ k ≤ 3) ∧ ks.length ≤ 3 ∧
    0 ≤ b ∧ b ≤ 4 ∧ 1 ≤ ls.length ∧ ls.length ≤ 24 ∧ ∀ (j : Nat) l, ls[j]? = some l → LineP (ks.map D.int) b ls.length defs (decide ((j : Int) = ls.length - 1)) l ∧ NumL B l
theorem defQ_made {B defs b : Int} {t g : Str} {ks : List Int} {ls : List D} (ht : ∀ c ∈ t.cps.toList, c ∈ [110, 98, 45]) (tl : t.length = 4) (hg : ∀ c ∈ g.cps.toList, c ∈ [110, 98, 45]) (gl : g.length = 1) (hks : ks.Pairwise (· < ·)) (hk : ∀ k ∈ ks, 1 ≤ k ∧ k ≤ 3) (kl : ks.length ≤ 3) (b0 : 0 ≤ b) (b1 : b ≤ 4)
    (l0 : 1 ≤ ls.length) (l1 : ls.length ≤ 24) (hl : ∀ (j : Nat) l, ls[j]? = some l → LineP (ks.map D.int) b ls.length defs (decide ((j : Int) = ls.length - 1)) l ∧ NumL B l) : DefQ B defs (.tup [.str t, .str g, .tup (ks.map D.int), .int b, .tup ls]) :=
  ⟨def_made ht tl hg gl hks hk kl b0 b1 l0 l1 (fun j l h => (hl j l h).1), t, g, ks, b, ls, rfl, ht, tl, hg, gl, hks, hk, kl, b0, b1, l0, l1, hl⟩
structure ProgQ (B : Int) (d : D) : Prop where
  p : ProgP d
  q : ∃ ds, d = .tup ds ∧ 1 ≤ ds.length ∧ ds.length ≤ 6 ∧ ∀ e ∈ ds, DefQ B ds.length e
theorem progQ_made {B : Int} {ds : List D} (h0 : 1 ≤ ds.length) (h1 : ds.length ≤ 6) (h : ∀ e ∈ ds, DefQ B ds.length e) : ProgQ B (.tup ds) := ⟨prog_made h0 h1 fun e he => (h e he).p, ds, rfl, h0, h1, h⟩
end VL
set_option maxHeartbeats 2000000
namespace VL
open PySem PySem.Spec L2
open PyProof.Rows hiding St
def Free (b : List Nat) : Prop := ∀ c ∈ b, c ≠ 32 ∧ c ≠ 10
def Seg (L : Nat) (t : List Nat) : Prop := ∀ p b s, t = p ++ b ++ s → Free b → b.length ≤ L
theorem Seg.mono {L M : Nat} {t : List Nat} (h : Seg L t) (hm : L ≤ M) : Seg M t := fun p b s e f => Nat.le_trans (h p b s e f) hm
theorem Seg.sub {L : Nat} {t p s b : List Nat} (h : Seg L t) (e : t = p ++ b ++ s) : Seg L b := fun p' b' s' e' f => h (p ++ p') b' (s' ++ s) (by rw [e, e']; simp) f
theorem Seg.short {L : Nat} {t : List Nat} (h : t.length ≤ L) : Seg L t := fun p b s e _ => by
  have := congrArg List.length e
  simp only [List.length_append] at this; omega
theorem Seg.app {L M : Nat} {a b : List Nat} (ha : Seg L a) (hb : Seg M b) : Seg (L + M) (a ++ b) := by
  intro p x s e f
  rw [List.append_assoc] at e
  rcases List.append_eq_append_iff.mp e with ⟨u, e1, e2⟩ | ⟨u, e1, e2⟩
  · have := hb u x s (by rw [e2, List.append_assoc]) f; omega
  · rcases List.append_eq_append_iff.mp e2 with ⟨v, e3, e4⟩ | ⟨v, e3, e4⟩
    · have h1 := ha p x v (by rw [e1, e3, List.append_assoc]) f; omega
    · have f1 : Free u := fun c hc => f c (by rw [e3]; exact List.mem_append_left _ hc)
      have f2 : Free v := fun c hc => f c (by rw [e3]; exact List.mem_append_right _ hc)
      have h1 := ha p u [] (by rw [e1, List.append_nil]) f1
      have h2 := hb [] v s (by rw [e4, List.nil_append]) f2
      rw [e3, List.length_append]; omega
theorem Seg.sep {L : Nat} {a b : List Nat} {c : Nat} (hc : c = 32 ∨ c = 10) (ha : Seg L a) (hb : Seg L b) : Seg L (a ++ c :: b) := by
  intro p x s e f
  rw [List.append_assoc] at e
  have bad : c ∉ x := fun hx => by have := f c hx; omega
  rcases List.append_eq_append_iff.mp e with ⟨u, e1, e2⟩ | ⟨u, e1, e2⟩
  · cases u with
    | nil =>
      cases x with
      | nil => exact Nat.zero_le _
      | cons y x => rw [List.nil_append, List.cons_append] at e2; injection e2 with e2 _; exact absurd (by rw [e2]; exact List.mem_cons_self) bad
    | cons y u =>
      rw [List.cons_append] at e2
      injection e2 with _ e2
      exact hb u x s (by rw [e2, List.append_assoc]) f
  · rcases List.append_eq_append_iff.mp e2 with ⟨v, e3, e4⟩ | ⟨v, e3, e4⟩
    · exact ha p x v (by rw [e1, e3, List.append_assoc]) f
    · cases v with
      | nil => rw [List.append_nil] at e3; subst e3; exact ha p x [] (by rw [e1, List.append_nil]) f
      | cons y v =>
        rw [List.cons_append] at e4
        injection e4 with e4 _
        exact absurd (by rw [e3, e4]; simp) bad
theorem split_tl (t : Str) (c : Nat) : TL.tl t = TL.joinL [c] ((Txt.split t ⟨#[c]⟩).map TL.tl) ∧ (∀ p ∈ Txt.split t ⟨#[c]⟩, c ∉ TL.tl p) := by
  refine ⟨?_, StrLaws.split_free t c⟩
  have e := TL.tl_join ⟨#[c]⟩ (Txt.split t ⟨#[c]⟩)
  rw [StrLaws.join_split] at e
  exact e
/-- what bounds a text -/
structure BndL (L n : Nat) (t : List Nat) : Prop where
  seg : Seg L t
  nls : t.count 10 ≤ n
  sps : t.count 32 ≤ n
  ok : ∀ c ∈ t, PyData.strOk ⟨#[c]⟩ = true
  len : t.length ≤ 300 * n
abbrev Bnd (L n : Nat) (t : Str) : Prop := BndL L n (TL.tl t)
theorem nl_mk : (Str.ofString "\n") = (⟨#[10]⟩ : Str) := rfl
theorem BndL.sub {L n : Nat} {t p s b : List Nat} (h : BndL L n t) (e : t = p ++ b ++ s) : BndL L n b := by
  have h1 := h.nls; have h2 := h.sps; have h3 := h.len
  rw [e] at h1 h2 h3
  simp only [List.count_append, List.length_append] at h1 h2 h3
  exact ⟨h.seg.sub e, by omega, by omega, fun c hc => h.ok c (by rw [e]; exact List.mem_append_left _ (List.mem_append_right _ hc)), by omega⟩
theorem BndL.mono {L M n m : Nat} {t : List Nat} (h : BndL L n t) (h1 : L ≤ M) (h2 : n ≤ m) : BndL M m t :=
  ⟨h.seg.mono h1, Nat.le_trans h.nls h2, Nat.le_trans h.sps h2, h.ok, Nat.le_trans h.len (Nat.mul_le_mul_left _ h2)⟩
/-- two pieces with a blank or a feed between -/
theorem BndL.sep {L n m : Nat} {a b : List Nat} {c : Nat} (hc : c = 32 ∨ c = 10) (ha : BndL L n a) (hb : BndL L m b) : BndL L (n + m + 1) (a ++ c :: b) := by
  have h1 := ha.nls; have h2 := ha.sps; have h3 := ha.len; have g1 := hb.nls; have g2 := hb.sps; have g3 := hb.len
  have k : ∀ z : Nat, List.count z (c :: b) ≤ List.count z b + 1 := fun z => by rw [List.count_cons]; split <;> omega
  have k1 := k 10; have k2 := k 32
  refine ⟨ha.seg.sep hc hb.seg, ?_, ?_, fun x hx => ?_, ?_⟩
  · simp only [List.count_append]; omega
  · simp only [List.count_append]; omega
  · simp only [List.mem_append, List.mem_cons] at hx
    rcases hx with hx | rfl | hx
    · exact ha.ok x hx
    · rcases hc with rfl | rfl <;> decide +kernel
    · exact hb.ok x hx
  · simp only [List.length_append, List.length_cons]; omega
/-- a piece is cut out of the text and up to a sign put in its place: the pieces left -/
theorem BndL.put {L n : Nat} {a y b x : List Nat} (h : BndL L n (a ++ y ++ b)) (hx : x.length ≤ 1) (ok : ∀ c ∈ x, PyData.strOk ⟨#[c]⟩ = true) : BndL (L + 1 + L) (n + 1) (a ++ x ++ b) := by
  have ha : BndL L n a := h.sub (p := []) (s := y ++ b) (by simp)
  have hb : BndL L n b := h.sub (p := a ++ y) (s := []) (by simp)
  have c1 := List.count_le_length (a := 10) (l := x)
  have c2 := List.count_le_length (a := 32) (l := x)
  have h1 := h.nls; have h2 := h.sps; have h3 := h.len
  simp only [List.count_append, List.length_append] at h1 h2 h3
  refine ⟨(ha.seg.app (Seg.short hx)).app hb.seg, ?_, ?_, fun c hc => ?_, ?_⟩
  · simp only [List.count_append]; omega
  · simp only [List.count_append]; omega
  · simp only [List.mem_append] at hc
    rcases hc with (hc | hc) | hc
    · exact ha.ok c hc
    · exact ok c hc
    · exact hb.ok c hc
  · simp only [List.length_append]; omega
theorem joinL_app {c : Nat} : ∀ {A B : List (List Nat)}, A ≠ [] → B ≠ [] → TL.joinL [c] (A ++ B) = TL.joinL [c] A ++ c :: TL.joinL [c] B
  | [x], b :: bs, _, _ => by simp [TL.joinL]
  | x :: y :: r, B, _, hB => by
    have ih := joinL_app (c := c) (A := y :: r) (B := B) (by simp) hB
    simp only [List.cons_append, TL.joinL] at ih ⊢
    rw [ih]; simp
  | [], _, h, _ => absurd rfl h
  | [_], [], _, h => absurd rfl h
theorem joinL_take {c : Nat} (ps : List (List Nat)) (i : Nat) : ∃ s, TL.joinL [c] ps = TL.joinL [c] (ps.take i) ++ s := by
  rcases Nat.lt_or_ge i ps.length with h | h
  · by_cases h0 : i = 0
    · subst h0; exact ⟨_, by simp [TL.joinL]; rfl⟩
    · have e := joinL_app (c := c) (A := ps.take i) (B := ps.drop i) (fun z => by have := congrArg List.length z; simp only [List.length_take, List.length_nil] at this; omega) (fun z => by have := congrArg List.length z; simp only [List.length_drop, List.length_nil] at this; omega)
      rw [List.take_append_drop] at e
      exact ⟨_, e⟩
  · exact ⟨[], by rw [List.take_of_length_le h, List.append_nil]⟩
theorem joinL_drop {c : Nat} (ps : List (List Nat)) (i : Nat) : ∃ s, TL.joinL [c] ps = s ++ TL.joinL [c] (ps.drop i) := by
  rcases Nat.lt_or_ge i ps.length with h | h
  · by_cases h0 : i = 0
    · subst h0; exact ⟨[], by simp⟩
    · have e := joinL_app (c := c) (A := ps.take i) (B := ps.drop i) (fun z => by have := congrArg List.length z; simp only [List.length_take, List.length_nil] at this; omega) (fun z => by have := congrArg List.length z; simp only [List.length_drop, List.length_nil] at this; omega)
      rw [List.take_append_drop] at e
      exact ⟨TL.joinL [c] (ps.take i) ++ [c], by rw [e]; simp⟩
  · exact ⟨TL.joinL [c] ps, by rw [List.drop_of_length_le h]; simp [TL.joinL]⟩
/-- rows of one text up to one, then rows of another one from one on -/
theorem Bnd.rows {L n m : Nat} {t u : Str} {i j : Nat} (ht : Bnd L n t) (hu : Bnd L m u) : Bnd L (n + m + 1) (Str.join (Str.ofString "\n") ((Txt.split t "\n").take i ++ (Txt.split u "\n").drop j)) := by
  have e1 := (split_tl t 10).1
  have e2 := (split_tl u 10).1
  rw [← nl_mk] at e1 e2
  obtain ⟨s1, k1⟩ := joinL_take (c := 10) ((Txt.split t "\n").map TL.tl) i
  obtain ⟨s2, k2⟩ := joinL_drop (c := 10) ((Txt.split u "\n").map TL.tl) j
  rw [← e1] at k1
  rw [← e2] at k2
  have h1 := BndL.sub (p := []) (s := s1) ht (by rw [List.nil_append]; exact k1)
  have h2 := BndL.sub (p := s2) (s := []) hu (by rw [List.append_nil]; exact k2)
  show BndL L (n + m + 1) (TL.tl _)
  rw [TL.tl_join, show TL.tl (Str.ofString "\n") = [10] from rfl, List.map_append, List.map_take, List.map_drop]
  generalize ((Txt.split t "\n").map TL.tl).take i = A at h1
  generalize ((Txt.split u "\n").map TL.tl).drop j = B at h2
  by_cases hA : A = []
  · subst hA; rw [List.nil_append]; exact h2.mono (Nat.le_refl _) (by omega)
  · by_cases hB : B = []
    · subst hB; rw [List.append_nil]; exact h1.mono (Nat.le_refl _) (by omega)
    · rw [joinL_app hA hB]; exact h1.sep (.inr rfl) h2
end VL
set_option maxHeartbeats 2000000
namespace VL
open PySem PySem.Spec L2
open PyProof.Rows hiding St
end VL
set_option maxHeartbeats 2000000
namespace VL
open PySem PySem.Spec L2
open PyProof.Rows hiding St
end VL
set_option maxHeartbeats 2000000
namespace VL
open PySem PySem.Spec L2
open PyProof.Rows hiding St
section
variable {X : Cx}
theorem RpK.at {K : PySem.W.Frag} {G : Hp} : ∀ {kvs : List (Key × V)} {ds : List (Key × D)} {i : Nat} {k : Key} {d : D}, RpK K G kvs ds → ds[i]? = some (k, d) → ∃ v, kvs[i]? = some (k, v) ∧ Rp K G v d
  | _, _, _, _, _, .nil, e => by simp at e
  | _, _, 0, _, _, .cons h _, e => by simp at e; obtain ⟨rfl, rfl⟩ := e; exact ⟨_, rfl, h⟩
  | _, _, i + 1, k, d, .cons _ t, e => by
    obtain ⟨u, h1, h2⟩ := RpK.at t (i := i) (k := k) (d := d) (by simpa using e)
    exact ⟨u, by simpa using h1, h2⟩
/-- x = {k: v for ..} -/
theorem sw_trueD {kx vx : Expr} {gs : List Comprehension} {scope : Scope} {pos py : Pos} {y : Str} {l : Nat} {env : Env} (hk : env.scope.kind = .function) (hy : env.scope.names.lookup y = some .local) (hl : (py.line == pos.line) = true)
    (ha : (scope.names.any fun (n, k) => n == y && (k == .local || k == .cell)) = false) : swapsWith (.DictComp kx vx gs scope pos) (some (.Name y py)) l env = pure true := by
  have ky : env.kindOf y = some .local := hy
  have hb : env.blockKind = .function := by unfold Env.blockKind; rw [hk]; rfl
  unfold swapsWith
  simp only [hb, ky, ha, Expr.pos, hl]
  rfl
end
end VL
set_option maxHeartbeats 2000000
namespace VL
open PySem PySem.Spec L2
open PyProof.Rows hiding St
def belowB (d : D) (m : Int) : Bool := match d with
  | .int i => decide (0 ≤ i) && decide (i < m)
  | _ => false
end VL
set_option maxHeartbeats 2000000
namespace VL
open PySem PySem.Spec L2
open PyProof.Rows hiding St
end VL
set_option maxHeartbeats 2000000
namespace VL
open PySem PySem.Spec L2
open PyProof.Rows hiding St
structure Seen (ls : List D) (L : List Int) : Prop where
  nd : L.Nodup
  first : (0 : Int) ∈ L
  way : ∀ i ∈ L, ∃ k, reachN ls 0 k i
  rg : ∀ i ∈ L, 0 ≤ i ∧ i < (ls.length : Int)
theorem Seen.len {ls : List D} {L : List Int} (s : Seen ls L) : L.length ≤ ls.length := pigeon _ _ s.nd s.rg
theorem nx_nodup (ls : List D) (i : Int) : (nxOf ls i).Nodup := by
  unfold nxOf
  split
  · rename_i w ps _
    cases e : nextN w ps i with
    | none => simp
    | some ns =>
      simp only [Option.getD_some]
      unfold nextN at e
      split at e
      · cases e; simp
      split at e
      · split at e
        · cases e; simp
        · cases e
      split at e
      · split at e
        · cases e
          unfold sort2
          split
          · simp
          · split <;> simp <;> omega
        · cases e
      · cases e; simp
  · simp
theorem Seen.more {ls : List D} (fl : Flows ls) {L : List Int} (s : Seen ls L) {a : Int} (ha : a ∈ L) : Seen ls (L ++ (nxOf ls a).filter fun t => !decide (t ∈ L)) where
  nd := by
    rw [List.nodup_append]
    refine ⟨s.nd, (nx_nodup ls a).filter _, fun x hx y hy z => ?_⟩
    subst z
    have := (List.mem_filter.mp hy).2
    simp at this
    exact this hx
  first := List.mem_append_left _ s.first
  way := fun i hi => by
    rcases List.mem_append.mp hi with hi | hi
    · exact s.way i hi
    · obtain ⟨k, hk⟩ := s.way a ha
      exact ⟨k + 1, a, hk, (List.mem_filter.mp hi).1⟩
  rg := fun i hi => by
    rcases List.mem_append.mp hi with hi | hi
    · exact s.rg i hi
    · exact nxOf_in fl (s.rg a ha) i (List.mem_filter.mp hi).1
theorem Seen.one {ls : List D} (h : 1 ≤ ls.length) : Seen ls [0] where
  nd := by simp
  first := by simp
  way := fun i hi => ⟨0, List.mem_singleton.mp hi⟩
  rg := fun i hi => by rw [List.mem_singleton.mp hi]; omega
theorem sub_len2 {a b : List Int} (h : a.Nodup) (s : ∀ x ∈ a, x ∈ b) : a.length ≤ b.length := by
  induction a generalizing b with
  | nil => simp
  | cons x a ih =>
    obtain ⟨h1, h2⟩ := List.nodup_cons.mp h
    have hx := s x (by simp)
    have := ih h2 (b := b.erase x) fun y hy => by
      have hne : y ≠ x := fun z => h1 (z ▸ hy)
      exact (List.mem_erase_of_ne hne).mpr (s y (List.mem_cons_of_mem _ hy))
    rw [List.length_erase_of_mem hx] at this
    have pos : 0 < b.length := List.length_pos_of_mem hx
    rw [List.length_cons]; omega
end VL
set_option maxHeartbeats 4000000
namespace VL
open PySem PySem.Spec L2
open PyProof.Rows hiding St
section
variable {P : Program} {w : World} {K : PySem.W.Frag} {mg : Str → Option Value} {base : Heap}
/-- what stands by name for those that lack -/
def KwD (K : PySem.W.Frag) (kV : Value) (dms : List (Str × D)) : Prop := ∃ kd : Addr, kV = .ref kd ∧ ∃ (us : List Value) (vs : List V), (∀ q ∈ (dms.map (·.1)).zip us, PySem.W.nsIn K kd q.1 = some (some q.2)) ∧ Vals vs us ∧ ∀ G, RpL K G vs (dms.map (·.2))
def HasD (K : PySem.W.Frag) (mg : Str → Option Value) (x : Str) (st : Stmt) (dms : List (Str × D)) : Prop := ∃ f fd, mg x = some (.ref f) ∧ Fun K x x st f fd ∧ KwD K fd.kwdefaults dms
theorem HasD.has {x : Str} {st : Stmt} {dms : List (Str × D)} (h : HasD K mg x st dms) : Has K mg x st := let ⟨f, fd, a, b, _⟩ := h; ⟨f, fd, a, b⟩
end
end VL
set_option maxHeartbeats 4000000
namespace VL
open PySem PySem.Spec L2
open PyProof.Rows hiding St
end VL
set_option maxHeartbeats 4000000
namespace VL
open PySem PySem.Spec L2
open PyProof.Rows hiding St
end VL
set_option maxHeartbeats 4000000
namespace VL
open PySem PySem.Spec L2
open PyProof.Rows hiding St
end VL
set_option maxHeartbeats 4000000
namespace VL
open PySem PySem.Spec L2
open PyProof.Rows hiding St
end VL
set_option maxHeartbeats 4000000
namespace VL
open PySem PySem.Spec L2
open PyProof.Rows hiding St
def WkB (N : Int → List Int) (laid : List Int) : Nat → Int → Int → Prop
  | 0, a, b => a = b
  | i + 1, a, b => ∃ c, WkB N laid i a c ∧ b ∈ N c ∧ b ∉ laid
def WkF (N : Int → List Int) (laid : List Int) : Nat → Int → Int → Prop
  | 0, a, b => a = b
  | i + 1, a, b => ∃ t, t ∈ N a ∧ t ∉ laid ∧ WkF N laid i t b
theorem WkF.snoc {N : Int → List Int} {laid : List Int} : ∀ {i : Nat} {a b c : Int}, WkF N laid i a b → c ∈ N b → c ∉ laid → WkF N laid (i + 1) a c
  | 0, a, b, c, h, h1, h2 => by rw [show a = b from h]; exact ⟨c, h1, h2, rfl⟩
  | i + 1, a, b, c, ⟨t, h1, h2, h3⟩, h4, h5 => ⟨t, h1, h2, h3.snoc h4 h5⟩
theorem WkB.cons {N : Int → List Int} {laid : List Int} : ∀ {i : Nat} {a b c : Int}, b ∈ N a → b ∉ laid → WkB N laid i b c → WkB N laid (i + 1) a c
  | 0, a, b, c, h1, h2, h => by rw [← show b = c from h]; exact ⟨a, rfl, h1, h2⟩
  | i + 1, a, b, c, h1, h2, ⟨d, h3, h4, h5⟩ => ⟨d, WkB.cons h1 h2 h3, h4, h5⟩
/-- the law's ends behind i turns -/
structure EndsL (K : List Int) (N : Int → List Int) (laid : List Int) (i : Nat) (E : List Int) : Prop where
  up : E.Pairwise (· < ·)
  sub : ∀ b ∈ E, b ∈ K
  mem : ∀ b, b ∈ E ↔ ∃ a ∈ K, WkB N laid i a b
  len : E.length ≤ K.length
theorem EndsL.next {K : List Int} {N : Int → List Int} {laid : List Int} {i : Nat} {E F : List Int} (h : EndsL K N laid i E) (hN : ∀ a ∈ K, ∀ b ∈ N a, b ∈ K) (up : F.Pairwise (· < ·)) (m : ∀ t, t ∈ F ↔ ∃ a ∈ E, t ∈ N a ∧ t ∉ laid) : EndsL K N laid (i + 1) F := by
  have sub : ∀ b ∈ F, b ∈ K := fun b hb => by
    obtain ⟨a, ha, h1, _⟩ := (m b).mp hb
    exact hN a (h.sub a ha) b h1
  refine ⟨up, sub, fun b => ?_, sub_len2 (up.imp fun h => Int.ne_of_lt h) sub⟩
  rw [m b]
  constructor
  · rintro ⟨c, hc, h1, h2⟩
    obtain ⟨a, ha, hw⟩ := (h.mem c).mp hc
    exact ⟨a, ha, c, hw, h1, h2⟩
  · rintro ⟨a, ha, c, hw, h1, h2⟩
    exact ⟨c, (h.mem c).mpr ⟨a, ha, hw⟩, h1, h2⟩
end VL
set_option maxHeartbeats 4000000
namespace PySem.SeqAt
open MeetsSeq
end PySem.SeqAt
namespace VL
open PySem PySem.Spec L2 PySem.SeqAt
open PyProof.Rows hiding St
end VL
set_option maxHeartbeats 4000000
namespace VL
open PySem PySem.Spec L2
open PyProof.Rows hiding St
theorem pickAt_5 {α : Type} {a b c d e f : α} {l : List α} {pi : List Nat} : pickAt (a :: b :: c :: d :: e :: f :: l) (5 :: pi) = f :: pickAt (a :: b :: c :: d :: e :: f :: l) pi := rfl
mutual
/-- ints up to n, rows up to L -/
def okN (n L : Nat) : D → Bool
  | .non => true | .bl _ => true | .int i => decide (i.natAbs ≤ n) | .str s => PyData.strOk s && decide (s.length ≤ L)
  | .tup ds => decide (ds.length ≤ L) && okM n L ds
  | .lst ds => decide (ds.length ≤ L) && okM n L ds
  | .dct kvs => kvs.isEmpty
  | .ro _ => false | .ref _ => false
def okM (n L : Nat) : List D → Bool
  | [] => true
  | d :: ds => okN n L d && okM n L ds
end
theorem okM_iff {n L : Nat} : ∀ {ds : List D}, okM n L ds = true ↔ ∀ d ∈ ds, okN n L d = true
  | [] => ⟨fun _ d h => (nomatch h), fun _ => rfl⟩
  | d :: ds => by rw [okM, Bool.and_eq_true, okM_iff (ds := ds), List.forall_mem_cons]
theorem okN_tup {n L : Nat} {ds : List D} : okN n L (.tup ds) = true ↔ ds.length ≤ L ∧ ∀ d ∈ ds, okN n L d = true := by rw [okN, Bool.and_eq_true, decide_eq_true_eq, okM_iff]
theorem okN_lst {n L : Nat} {ds : List D} : okN n L (.lst ds) = true ↔ ds.length ≤ L ∧ ∀ d ∈ ds, okN n L d = true := by rw [okN, Bool.and_eq_true, decide_eq_true_eq, okM_iff]
mutual
theorem okN_mono {n L n2 L2 : Nat} (hn : n ≤ n2) (hL : L ≤ L2) : ∀ d : D, okN n L d = true → okN n2 L2 d = true
  | .non, _ => rfl
  | .bl _, _ => rfl
  | .int i, h => decide_eq_true (Nat.le_trans (of_decide_eq_true h) hn)
  | .str s, h => by
    rw [okN, Bool.and_eq_true, decide_eq_true_eq] at h ⊢
    exact ⟨h.1, by omega⟩
  | .tup ds, h => by
    rw [okN, Bool.and_eq_true, decide_eq_true_eq] at h ⊢
    exact ⟨by omega, okM_mono hn hL ds h.2⟩
  | .lst ds, h => by
    rw [okN, Bool.and_eq_true, decide_eq_true_eq] at h ⊢
    exact ⟨by omega, okM_mono hn hL ds h.2⟩
  | .dct _, h => h
  | .ro _, h => by simp [okN] at h
  | .ref _, h => by simp [okN] at h
theorem okM_mono {n L n2 L2 : Nat} (hn : n ≤ n2) (hL : L ≤ L2) : ∀ ds : List D, okM n L ds = true → okM n2 L2 ds = true
  | [], _ => rfl
  | d :: ds, h => by
    rw [okM, Bool.and_eq_true] at h ⊢
    exact ⟨okN_mono hn hL d h.1, okM_mono hn hL ds h.2⟩
end
theorem cntL_app : ∀ (a b : List D), cntL (a ++ b) = cntL a + cntL b
  | [], b => by simp [cntL]
  | d :: a, b => by
    have ih := cntL_app a b
    rw [List.cons_append, cntL, cntL, ih]; omega
theorem cntL_rev : ∀ a : List D, cntL a.reverse = cntL a
  | [] => rfl
  | d :: a => by
    have ih := cntL_rev a
    rw [List.reverse_cons, cntL_app, ih]; simp only [cntL]; omega
theorem cntL_cut (a : List D) (i : Nat) (h : i < a.length) : cntL a = cntL (a.take i) + (cnt a[i] + 2) + cntL (a.drop (i + 1)) := by
  have e : a = a.take i ++ a[i] :: a.drop (i + 1) := by rw [← List.drop_eq_getElem_cons h, List.take_append_drop]
  conv => lhs; rw [e]
  rw [cntL_app, cntL]; omega
theorem cntL_take (a : List D) (i : Nat) : cntL (a.take i) ≤ cntL a := by
  conv => rhs; rw [← List.take_append_drop i a]
  rw [cntL_app]; omega
theorem cntL_drop (a : List D) (i : Nat) : cntL (a.drop i) ≤ cntL a := by
  conv => rhs; rw [← List.take_append_drop i a]
  rw [cntL_app]; omega
theorem depL_le {e : Nat} : ∀ {ds : List D}, depL ds ≤ e ↔ ∀ d ∈ ds, dep d ≤ e
  | [] => ⟨fun _ d h => (nomatch h), fun _ => Nat.zero_le _⟩
  | d :: ds => by rw [depL, Nat.max_le, depL_le (ds := ds), List.forall_mem_cons]
theorem depL_mem {ds : List D} {d : D} (h : d ∈ ds) : dep d ≤ depL ds := depL_le.mp (Nat.le_refl _) d h
/-- a thing bent: a little wider, a little deeper -/
structure Bent (n L c e : Nat) (d : D) : Prop where
  ok : okN n L d = true
  cn : cnt d ≤ c
  de : dep d ≤ e
theorem Bent.mono {n L c e n2 L2 c2 e2 : Nat} {d : D} (h : Bent n L c e d) (hn : n ≤ n2 := by omega) (hL : L ≤ L2 := by omega) (hc : c ≤ c2 := by omega) (he : e ≤ e2 := by omega) : Bent n2 L2 c2 e2 d :=
  ⟨okN_mono hn hL d h.ok, Nat.le_trans h.cn hc, Nat.le_trans h.de he⟩
/-- a row of things -/
structure BentL (n L c e : Nat) (ds : List D) : Prop where
  ok : ∀ d ∈ ds, okN n L d = true
  cn : cntL ds ≤ c
  de : ∀ d ∈ ds, dep d ≤ e
theorem BentL.tup {n L c e : Nat} {ds : List D} (h : BentL n L c e ds) (hl : ds.length ≤ L) : Bent n L (c + 3) (e + 1) (.tup ds) :=
  ⟨okN_tup.mpr ⟨hl, h.ok⟩, by rw [cnt]; have := h.cn; omega, by rw [dep]; have := depL_le.mpr h.de; omega⟩
theorem BentL.lst {n L c e : Nat} {ds : List D} (h : BentL n L c e ds) (hl : ds.length ≤ L) : Bent n L (c + 3) (e + 1) (.lst ds) :=
  ⟨okN_lst.mpr ⟨hl, h.ok⟩, by rw [cnt]; have := h.cn; omega, by rw [dep]; have := depL_le.mpr h.de; omega⟩
theorem BentL.nil {n L c e : Nat} : BentL n L c e [] := ⟨fun _ h => (nomatch h), Nat.zero_le _, fun _ h => (nomatch h)⟩
theorem BentL.app {n L c1 c2 e : Nat} {a b : List D} (h1 : BentL n L c1 e a) (h2 : BentL n L c2 e b) : BentL n L (c1 + c2) e (a ++ b) :=
  ⟨fun d hd => (List.mem_append.mp hd).elim (h1.ok d) (h2.ok d), by rw [cntL_app]; have := h1.cn; have := h2.cn; omega, fun d hd => (List.mem_append.mp hd).elim (h1.de d) (h2.de d)⟩
theorem BentL.cons {n L c1 c2 e : Nat} {a : D} {b : List D} (h1 : Bent n L c1 e a) (h2 : BentL n L c2 e b) : BentL n L (c1 + 2 + c2) e (a :: b) :=
  ⟨fun d hd => (List.mem_cons.mp hd).elim (fun z => z ▸ h1.ok) (h2.ok d), by rw [cntL]; have := h1.cn; have := h2.cn; omega, fun d hd => (List.mem_cons.mp hd).elim (fun z => z ▸ h1.de) (h2.de d)⟩
theorem BentL.take {n L c e : Nat} {a : List D} (h : BentL n L c e a) (i : Nat) : BentL n L c e (a.take i) :=
  ⟨fun d hd => h.ok d (List.mem_of_mem_take hd), Nat.le_trans (cntL_take _ _) h.cn, fun d hd => h.de d (List.mem_of_mem_take hd)⟩
theorem BentL.drop {n L c e : Nat} {a : List D} (h : BentL n L c e a) (i : Nat) : BentL n L c e (a.drop i) :=
  ⟨fun d hd => h.ok d (List.mem_of_mem_drop hd), Nat.le_trans (cntL_drop _ _) h.cn, fun d hd => h.de d (List.mem_of_mem_drop hd)⟩
theorem BentL.rev {n L c e : Nat} {a : List D} (h : BentL n L c e a) : BentL n L c e a.reverse :=
  ⟨fun d hd => h.ok d (List.mem_reverse.mp hd), by rw [cntL_rev]; exact h.cn, fun d hd => h.de d (List.mem_reverse.mp hd)⟩
theorem BentL.mono {n L c e n2 L2 c2 e2 : Nat} {ds : List D} (h : BentL n L c e ds) (hn : n ≤ n2 := by omega) (hL : L ≤ L2 := by omega) (hc : c ≤ c2 := by omega) (he : e ≤ e2 := by omega) : BentL n2 L2 c2 e2 ds :=
  ⟨fun d hd => okN_mono hn hL d (h.ok d hd), Nat.le_trans h.cn hc, fun d hd => Nat.le_trans (h.de d hd) he⟩
/-- one put in another's place -/
theorem BentL.put {n L c e c1 : Nat} {a : List D} {d : D} (h : BentL n L c e a) (i : Nat) (hi : i < a.length) (h1 : Bent n L (cnt a[i] + c1) e d) : BentL n L (c + c1) e (a.take i ++ d :: a.drop (i + 1)) := by
  refine ⟨fun x hx => ?_, ?_, fun x hx => ?_⟩
  · rcases List.mem_append.mp hx with hx | hx
    · exact h.ok x (List.mem_of_mem_take hx)
    · rcases List.mem_cons.mp hx with rfl | hx
      · exact h1.ok
      · exact h.ok x (List.mem_of_mem_drop hx)
  · rw [cntL_app, cntL]
    have := cntL_cut a i hi
    have := h.cn
    have := h1.cn
    omega
  · rcases List.mem_append.mp hx with hx | hx
    · exact h.de x (List.mem_of_mem_take hx)
    · rcases List.mem_cons.mp hx with rfl | hx
      · exact h1.de
      · exact h.de x (List.mem_of_mem_drop hx)
theorem Bent.row {n L c e : Nat} {ds : List D} (h : Bent n L c e (.tup ds)) : BentL n L (c - 3) (e - 1) ds ∧ ds.length ≤ L ∧ 3 ≤ c ∧ 1 ≤ e := by
  obtain ⟨h1, h2, h3⟩ := h
  obtain ⟨l, o⟩ := okN_tup.mp h1
  rw [cnt] at h2
  rw [dep] at h3
  exact ⟨⟨o, by omega, fun d hd => by have := depL_mem hd; omega⟩, l, by omega, by omega⟩
theorem BentL.mem {n L c e : Nat} {ds : List D} (h : BentL n L c e ds) {d : D} (hd : d ∈ ds) : Bent n L c e d := by
  refine ⟨h.ok d hd, ?_, h.de d hd⟩
  obtain ⟨i, hi, rfl⟩ := List.mem_iff_getElem.mp hd
  have := cntL_cut ds i hi
  have := h.cn
  omega
theorem Bent.self {n L : Nat} {d : D} (h : okN n L d = true) : Bent n L (cnt d) (dep d) d := ⟨h, Nat.le_refl _, Nat.le_refl _⟩
/-- the ends behind i turns, in any order, each with a way -/
structure EndsN (K : List Int) (N : Int → List Int) (laid : List Int) (i : Nat) (F : List (Int × List Int)) : Prop where
  nd : (F.map (·.1)).Nodup
  mem : ∀ b, b ∈ F.map (·.1) ↔ ∃ a ∈ K, WkB N laid i a b
  way : ∀ p ∈ F, p.2.length = i + 1 ∧ ∀ x ∈ p.2, x ∈ K
theorem wkb_sub {K : List Int} {N : Int → List Int} {laid : List Int} (hN : ∀ a ∈ K, ∀ b ∈ N a, b ∈ K) : ∀ (i : Nat) {a b : Int}, a ∈ K → WkB N laid i a b → b ∈ K
  | 0, a, b, ha, h => by rw [← show a = b from h]; exact ha
  | i + 1, a, b, ha, ⟨c, h1, h2, _⟩ => hN c (wkb_sub hN i ha h1) b h2
theorem EndsN.sub {K : List Int} {N : Int → List Int} {laid : List Int} {i : Nat} {F : List (Int × List Int)} (h : EndsN K N laid i F) (hN : ∀ a ∈ K, ∀ b ∈ N a, b ∈ K) : ∀ b ∈ F.map (·.1), b ∈ K := fun b hb => by
  obtain ⟨a, ha, hw⟩ := (h.mem b).mp hb
  exact wkb_sub hN i ha hw
/-- the next ends, so far: of the first j ends, and of the next one's first q lines -/
structure SoF (K : List Int) (N : Int → List Int) (laid : List Int) (i : Nat) (E R : List Int) (at' : Int) (G : List (Int × List Int)) : Prop where
  nd : (G.map (·.1)).Nodup
  mem : ∀ t, t ∈ G.map (·.1) ↔ (∃ a ∈ E, t ∈ N a ∧ t ∉ laid) ∨ (t ∈ R ∧ t ∉ laid)
  way : ∀ p ∈ G, p.2.length = i + 2 ∧ ∀ x ∈ p.2, x ∈ K
theorem SoF.put {K : List Int} {N : Int → List Int} {laid : List Int} {i : Nat} {E R : List Int} {a t : Int} {G : List (Int × List Int)} {w : List Int} (h : SoF K N laid i E R a G) (c : t ∉ laid) (c2 : t ∉ G.map (·.1)) (hw : w.length = i + 2 ∧ ∀ x ∈ w, x ∈ K) : SoF K N laid i E (R ++ [t]) a (G ++ [(t, w)]) :=
  ⟨by rw [List.map_append, List.nodup_append]; exact ⟨h.nd, by simp, fun x hx y hy => by rw [show y = t by simpa using hy]; exact fun z => c2 (by rw [← z]; exact hx)⟩, fun u => by
    rw [List.map_append, List.mem_append, h.mem u, List.mem_append, List.mem_singleton]
    have e : u ∈ [(t, w)].map (·.1) ↔ u = t := by simp
    rw [e]
    constructor
    · rintro ((z | ⟨z, y⟩) | rfl)
      · exact .inl z
      · exact .inr ⟨.inl z, y⟩
      · exact .inr ⟨.inr rfl, c⟩
    · rintro (z | ⟨z | rfl, y⟩)
      · exact .inl (.inl z)
      · exact .inl (.inr ⟨z, y⟩)
      · exact .inr rfl, fun p hp => by
    rcases List.mem_append.mp hp with hp | hp
    · exact h.way p hp
    · rw [List.mem_singleton.mp hp]; exact hw⟩
theorem SoF.next {K : List Int} {N : Int → List Int} {laid : List Int} {i : Nat} {E : List Int} {a b : Int} {G : List (Int × List Int)} (h : SoF K N laid i E (N a) a G) : SoF K N laid i (E ++ [a]) [] b G :=
  ⟨h.nd, (by
    intro t
    rw [h.mem t]
    constructor
    · rintro (⟨x, hx, z⟩ | z)
      · exact .inl ⟨x, List.mem_append_left _ hx, z⟩
      · exact .inl ⟨a, by simp, z⟩
    · rintro (⟨x, hx, z⟩ | ⟨z, _⟩)
      · rcases List.mem_append.mp hx with hx | hx
        · exact .inl ⟨x, hx, z⟩
        · rw [List.mem_singleton.mp hx] at z; exact .inr z
      · cases z), h.way⟩
theorem SoF.len {K : List Int} {N : Int → List Int} {laid : List Int} {i : Nat} {E R : List Int} {a : Int} {G : List (Int × List Int)} (h : SoF K N laid i E R a G) (hE : ∀ a ∈ E, ∀ b ∈ N a, b ∈ K) (hR : ∀ b ∈ R, b ∈ K) : G.length ≤ K.length := by
  have := sub_len2 (a := G.map (·.1)) (b := K) h.nd fun t ht => by
    rcases (h.mem t).mp ht with ⟨a, ha, h1, _⟩ | ⟨h1, _⟩
    · exact hE a ha t h1
    · exact hR t h1
  rwa [List.length_map] at this
theorem EndsN.next {K : List Int} {N : Int → List Int} {laid : List Int} {i : Nat} {F G : List (Int × List Int)} {a : Int} (h : EndsN K N laid i F) (g : SoF K N laid i (F.map (·.1)) [] a G) : EndsN K N laid (i + 1) G := by
  refine ⟨g.nd, fun b => ?_, g.way⟩
  rw [g.mem b]
  constructor
  · rintro (⟨c, hc, h1, h2⟩ | ⟨z, _⟩)
    · obtain ⟨a, ha, hw⟩ := (h.mem c).mp hc
      exact ⟨a, ha, c, hw, h1, h2⟩
    · cases z
  · rintro ⟨a, ha, c, hw, h1, h2⟩
    exact .inl ⟨c, (h.mem c).mpr ⟨a, ha, hw⟩, h1, h2⟩
end VL
set_option maxHeartbeats 4000000
namespace VL
open PySem PySem.Spec L2
open PyProof.Rows hiding St
end VL
set_option maxHeartbeats 4000000
namespace VL
open PySem PySem.Spec L2
open PyProof.Rows hiding St
end VL
set_option maxHeartbeats 4000000
namespace VL
open PySem PySem.Spec L2
open PyProof.Rows hiding St
end VL
set_option maxHeartbeats 4000000
namespace VL
open PySem PySem.Spec L2
open PyProof.Rows hiding St
end VL
set_option maxHeartbeats 4000000
namespace VL
open PySem PySem.Spec L2
open PyProof.Rows hiding St
end VL
set_option maxHeartbeats 4000000
namespace VL
open PySem PySem.Spec L2
open PyProof.Rows hiding St
theorem mFor_draw {c : CT} {mi : VW} {mb : VS} {E : VEnds} {ρ : Sl} {S : Store} (h : mi ρ S fun ds kp S1 => mFor c (fun _ _ Qi => Qi ds kp S1) mb E ρ S) : mFor c mi mb E ρ S := h
end VL
set_option maxHeartbeats 2000000
namespace VL
open PySem PySem.Spec L2
open PyProof.Rows hiding St
def clsA (mg : Str → Option Value) (c : Str) : Addr := match mg c with
  | some (.ref C) => C
  | _ => 0
/-- a method of it -/
structure HasM (K : PySem.W.Frag) (mg : Str → Option Value) (c m qual : Str) (st : Stmt) : Prop where
  ex : ∃ C f fd, mg c = some (.ref C) ∧ Cls K C ∧ Meth K C m f ∧ Fun K m qual st f fd
/-- its __init__ -/
structure HasI (K : PySem.W.Frag) (mg : Str → Option Value) (c qual : Str) (st : Stmt) : Prop where
  ex : ∃ C f fd, mg c = some (.ref C) ∧ Mk K C f ∧ Fun K "__init__" qual st f fd
def fldD : List (Str × D) → Str → Option D
  | [], _ => none
  | (g, d) :: fs, f => if g = f then some d else fldD fs f
def putFD (f : Str) (d : D) : List (Str × D) → List (Str × D)
  | [] => [(f, d)]
  | (g, x) :: fs => if g = f then (g, d) :: fs else (g, x) :: putFD f d fs
section
variable {K : PySem.W.Frag} {G : Hp}
theorem RpF.lookup : ∀ {vs : List (Str × V)} {ds : List (Str × D)} {f : Str} {d : D}, RpF K G vs ds → fldD ds f = some d → ∃ v, vs.lookup f = some v ∧ Rp K G v d
  | _, _, _, _, .nil, h => by cases h
  | _, _, f, d, .cons (k := k) h t, e => by
    unfold fldD at e
    by_cases hk : k = f
    · rw [if_pos hk] at e; cases e
      exact ⟨_, by rw [List.lookup_cons, show (f == k) = true by rw [hk]; exact beq_self_eq_true f], h⟩
    · rw [if_neg hk] at e
      obtain ⟨v, h1, h2⟩ := RpF.lookup t e
      exact ⟨v, by rw [List.lookup_cons, show (f == k) = false by rw [beq_eq_false_iff_ne]; exact fun z => hk z.symm]; exact h1, h2⟩
theorem RpF.put {v : V} {d : D} {f : Str} (r : Rp K G v d) : ∀ {vs : List (Str × V)} {ds : List (Str × D)}, RpF K G vs ds → RpF K G (putF f v vs) (putFD f d ds)
  | _, _, .nil => .cons r .nil
  | _, _, .cons (k := k) h t => by
    unfold putF putFD
    by_cases hk : k = f
    · rw [if_pos hk, if_pos hk]; exact .cons r t
    · rw [if_neg hk, if_neg hk]; exact .cons h (RpF.put r t)
theorem RpF.length : ∀ {vs : List (Str × V)} {ds : List (Str × D)}, RpF K G vs ds → vs.length = ds.length
  | _, _, .nil => rfl
  | _, _, .cons _ t => by simp [t.length]
end
theorem Fun.uniq {K : PySem.W.Frag} {x q1 q2 : Str} {st1 st2 : Stmt} {f : Addr} {fd1 fd2 : FuncData} (F1 : Fun K x q1 st1 f fd1) (F2 : Fun K x q2 st2 f fd2) : fd2 = fd1 := by
  obtain ⟨_, _, _, _, _, _, _, _, _, _, lk1, _⟩ := F1.ex
  obtain ⟨_, _, _, _, _, _, _, _, _, _, lk2, _⟩ := F2.ex
  rw [lk1] at lk2
  injection lk2 with e
  injection e with _ _ e _
  injection e with e
  exact e.symm
theorem Meth.uniq {K : PySem.W.Frag} {C f g : Addr} {m : Str} (a : Meth K C m f) (b : Meth K C m g) : g = f := by
  have h := a.at_.symm.trans b.at_
  injection h with h
  injection h with h
  injection h with h
  exact h.symm
end VL
set_option maxHeartbeats 2000000
namespace VL
open PySem PySem.Spec L2
open PyProof.Rows hiding St
section
variable {X : Cx}
def mFrz (m : VE) : VE := fun ρ S Q => m ρ S fun d S1 => match d with
  | .ref a => match S1 a with
    | some (.lst ds) => ∀ S2, S2 a = none → (∀ b, b ≠ a → S2 b = S1 b) → Q (.lst ds) S2
    | _ => False
  | _ => False
theorem mFrz_e {m : VE} {ρ : Sl} {S : Store} {Q : D → Store → Prop} : mFrz m ρ S Q = m ρ S fun d S1 => match d with
  | .ref a => match S1 a with
    | some (.lst ds) => ∀ S2, S2 a = none → (∀ b, b ≠ a → S2 b = S1 b) → Q (.lst ds) S2
    | _ => False
  | _ => False := rfl
theorem v_frz {e : Expr} {m : VE} (h : PE X e (LE X.K m)) : PE X e (LE X.K (mFrz m)) := by
  refine PE.imp h fun σ H Q' ⟨ρ, S, G, Q, vw, re, hm, k⟩ => ?_
  refine ⟨ρ, S, G, _, vw, re, hm, fun d S1 v1 H1 G1 a1 r1 h1 => ?_⟩
  split at h1
  · rename_i a
    split at h1
    · rename_i ds e1
      cases r1
      obtain ⟨_, u, hu, ku⟩ := a1.vw.st _ _ e1
      cases ku with
      | lst l =>
        have h2 := h1 (sdel S1 a) (by unfold sdel; rw [if_pos rfl]) fun b hb => by unfold sdel; rw [if_neg hb]
        have a2 := a1.vw.freezes (S1 := sdel S1 a) e1 hu (by unfold sdel; rw [if_pos rfl]) fun b x hx => by
          unfold sdel at hx
          split at hx
          · cases hx
          · exact hx
        exact k _ _ _ _ _ (a1.trans a2) (.lst upd_same (l.mono a2.gg)) h2
    · exact h1.elim
  · exact h1.elim
def rsd (S : Store) (d : D) : D := match d with
  | .lst ds => .lst (ds.map (rsv S))
  | d => rsv S d
variable {c m qual : Str} {k : Nat} {ps ks : List Str} {sp : VSp} {st : Stmt} {pi : List Nat} {o : Expr} {kws : List Keyword} {mo : VE} {mk : VA} {apos pos : Pos}
end
end VL
set_option maxHeartbeats 2000000
namespace VL
open PySem PySem.Spec L2
open PyProof.Rows hiding St
def fl_Boxes (x0 x1 : D) : List (Str × D) := [("numbers_at", x0), ("words_at", x1)]
def fl_Frame (x0 x1 x2 x3 : D) : List (Str × D) := [("d", x0), ("at", x1), ("bins", x2), ("kept", x3)]
def fl_Run (x0 x1 x2 x3 x4 x5 x6 : D) : List (Str × D) := [("program", x0), ("words", x1), ("open_frames", x2), ("boxes_held", x3), ("told_so_far", x4), ("many_steps", x5), ("fallen", x6)]
end VL
set_option maxHeartbeats 4000000
namespace VL
open PySem PySem.Spec L2
open PyProof.Rows hiding St
def relT (K : PySem.W.Frag) (w : World) (d : Addr) : Hp → List (NK × D) → HO → Prop := fun G acc o => ∃ xs, o = .ext (dtPhi w d xs) ∧ EntR K G xs acc
theorem relT_mono {K : PySem.W.Frag} {w : World} {d : Addr} {G G' : Hp} {a : List (NK × D)} {o : HO} (g : Same G G') (h : relT K w d G a o) : relT K w d G' a o := let ⟨xs, e, r⟩ := h; ⟨xs, e, r.mono g⟩
def bDictT (mk mv : VE) : VB (List (NK × D)) := fun ρ S acc Q => acc.length < sizeLine ∧ mk ρ S fun y S1 => match keyT y with
  | some k => mv ρ S1 fun z S2 => Q (putT acc k z) S2
  | none => False
theorem bDictT_e {mk mv : VE} {ρ : Sl} {S : Store} {acc : List (NK × D)} {Q : List (NK × D) → Store → Prop} : bDictT mk mv ρ S acc Q = (acc.length < sizeLine ∧ mk ρ S fun y S1 => match keyT y with
  | some k => mv ρ S1 fun z S2 => Q (putT acc k z) S2
  | none => False) := rfl
section
variable {X : Cx}
theorem acc_dtn : PAcc X newDict (fun D => .ext (dtPhi X.w D [])) := ⟨fun pins s σ H Q I h => by
  refine wpAny_newObj_type (h s.heap.objs.size _ (I.hok.fresh (Nat.le_refl _)) (Nat.le_refl _) (by rw [Heap.size_push]; exact Nat.le_succ _) (fun b u e => Heap.get?_push_of_some _ e) (I.laid (t' := s.toks) (fun b o e => Heap.get?_push_of_some _ e) (Nat.le_refl _) (phi_ok ?_)))
  exact ⟨beq_eq_false_iff_ne.mpr (Ne.symm (Nat.ne_of_lt I.big)), Nat.zero_le _, .nil, _, #[], 0, Heap.get?_push_size _ rfl, ⟨rfl, rfl, rfl⟩, rfl, rfl⟩⟩
theorem b_dictT {kx vx : Expr} {gs : List Comprehension} {sc : Scope} {p : Pos} {mk mv : VE} {d : Addr} (hx : ∀ u s, ¬ X.xe u s) (hu : X.A.units + 65 < cLine) (hk : PE X kx (LE X.K mk)) (he : PE X vx (LE X.K mv)) :
    PIn X (fun m => emitOf (.DictComp kx vx gs sc p) (.ref d) X.env >>= fun _ => m) [] (LB X.K (relT X.K X.w d) d (bDictT mk mv)) := by
  refine ⟨fun pins s σ H Q' I ⟨G0, S0, H0, ρ, S, G, acc, o, Q, hd0, a0, re, hH, ⟨xs, eo, er⟩, hS, hG, hm, k⟩ more Qf Ef hmore => ?_⟩
  subst eo
  unfold emitOf
  simp only [bDictT] at hm
  refine wpAny_bind (wpAny_bind (thnX hx (hk.run pins s σ H (fun v H1 => ∃ y S1 G1, Aft X.K G S H S1 H1 G1 ∧ Rp X.K G1 v y ∧ (match keyT y with
    | some k => mv ρ S1 fun z S2 => Q (putT acc k z) S2
    | none => False)) I ⟨ρ, S, G, _, a0.vw, re, hm.2, fun y S1 v H1 G1 a1 r1 h1 => ⟨y, S1, G1, a1, r1, h1⟩⟩) fun kv s1 ⟨x, H1, I1, rx, y, S1, G1, a1, r1, h1⟩ => ?_))
  split at h1
  · rename_i ky ek
    obtain ⟨a, rfl, hky, rk⟩ := keyT_ok r1 ek
    obtain rfl : kv = Value.ref a := rx
    refine wpAny_bind (wpAny_holding (thnX hx (he.run pins s1 σ H1 (fun v H2 => ∃ z S2 G2, Aft X.K G1 S1 H1 S2 H2 G2 ∧ Rp X.K G2 v z ∧ Q (putT acc ky z) S2) I1 ⟨ρ, S1, G1, _, a1.vw, re.mono a1.gg, h1, fun z S2 v H2 G2 a2 r2 h2 => ⟨z, S2, G2, a2, r2, h2⟩⟩) fun vv s2 ⟨v2, H2, I2, rv, z, S2, G2, a2, r2, h2⟩ => ?_))
    obtain ⟨e1, s1', g1⟩ := a1.fr d _ hS hH
    obtain ⟨e2, s2', g2⟩ := a2.fr d _ s1' e1
    have gd : G2 d = none := by rw [g2, g1]; exact hG
    have er2 := er.mono (a1.gg.trans a2.gg)
    obtain ⟨hs, hl, dd⟩ := (show TD H2 X.w d xs from .inl e2).of I2 a2.vw.gh er2
    have rk2 := rk.mono a2.gg
    have key : (PySem.nestedKind X.prog X.w).is s2.heap ky a := ⟨nested_of I2 a2.vw.gh _ hky.2 rk2 rfl, hky.1⟩
    refine wpAny_bind (wpAny_standAt (wpAny_holding (wpAny_dictSet_heap (hsz := hl) (show X.A.units + 8 < cLine by omega) key dd fun h' dd' sb => ?_)))
    have hl' : (storedH xs ky a vv).length ≤ sizeLine := Nat.le_trans storedH_len (by rw [er.len]; omega)
    have I3 := d_write (t' := s2.toks + (PySem.nestedKind X.prog X.w).draws ky) I2 (by rw [e2]; exact True.intro) sb (by obtain ⟨o, _, _, e, _⟩ := dd'; exact ⟨o, e⟩) (phi_ok (phi_of hs hl' dd'))
    refine hmore _ _ I3 (k _ S2 _ G2 _ (a1.gg.trans a2.gg) (((a0.trans a1).trans a2).junk hd0 s2' gd) upd_same ⟨_, rfl, er2.put hky rk2 ⟨v2, rv, r2⟩⟩ s2' gd h2)
  · exact h1.elim
/-- what is made of the filled thing, told by where it stands -/
def RecAD {A : Type} (K : PySem.W.Frag) (rel : Addr → Hp → A → HO → Prop) (R : A → Store → (D → Store → Prop) → Prop) : Prop := ∀ (G : Hp) (S : Store) (H : Hp) (a : Addr) (o : HO) (acc : A) (Q : D → Store → Prop), View K G S H → H a = some o → S a = none → G a = none → rel a G acc o → R acc S Q →
  ∃ S' G' d, Q d S' ∧ View K G' S' H ∧ Same G G' ∧ Rp K G' (.ref a) d ∧ ∀ b, b ≠ a → S' b = S b ∧ G' b = G b
theorem le_compD {A : Type} {K : PySem.W.Frag} {rel : Addr → Hp → A → HO → Prop} {c : CT} {mi : VW} {mt : VT} {mb : VB A} {vs : List Nat} {a0 : A} {R : A → Store → (D → Store → Prop) → Prop} {o : Addr → HO} (hm : ∀ {d : Addr} {G G' : Hp} {a : A} {o : HO}, Same G G' → rel d G a o → rel d G' a o) (h0 : ∀ G d, rel d G a0 (o d)) (hR : RecAD K rel R) (hw : c.within vs) (σ : L2.St) (H : Hp) (Q' : VK)
    (q : LE K (mComp c mi mt mb vs a0 R) σ H Q') : tComp (LI K mi) (gCT K c) (LT K mt) (fun d => LB K (rel d) d mb) o vs σ H Q' := by
  obtain ⟨ρ, S, G, Q, vw, re, hm', k⟩ := q
  refine ⟨ρ, S, G, _, vw, re, hm', fun ds kp S1 H1 G1 J a1 wk t L hL => ?_⟩
  have n0 := a1.vw.none hL
  refine turns_ask hm hw hL ((Aft.refl a1.vw).junk hL n0.2 n0.1) wk (re.mono a1.gg) upd_same (h0 _ _) n0.2 n0.1 t fun acc' S' H' G' o' g' a' x1 x2 x3 x4 q => ?_
  obtain ⟨S2, G2, d, qd, v', gg, rd, ot⟩ := hR G' S' H' L o' acc' Q a'.vw x1 x3 x4 x2 q
  refine k d S2 (.ref L) H' G2 ⟨fun b ob hb eb => ?_, (a1.gg.trans g').trans gg, v'⟩ rd qd
  obtain ⟨y1, y2, y3⟩ := a1.fr b ob hb eb
  have hbL : b ≠ L := ne_of_none y1 hL
  obtain ⟨e1, e2, e3⟩ := a'.fr b ob y2 y1
  exact ⟨e1, by rw [(ot b hbL).1]; exact e2, by rw [(ot b hbL).2]; rw [e3]; exact y3⟩
def rT (w : World) : List (NK × D) → Store → (D → Store → Prop) → Prop := fun acc S Q => ∀ a, S a = none → Q (.ref a) (supd S a (.dtn w a acc))
theorem rT_e {w : World} {acc : List (NK × D)} {S : Store} {Q : D → Store → Prop} : rT w acc S Q = ∀ a, S a = none → Q (.ref a) (supd S a (.dtn w a acc)) := rfl
theorem recAD_T {K : PySem.W.Frag} {w : World} : RecAD K (relT K w) (rT w) := fun G S H a o acc Q vw ha hs hg ⟨xs, eo, er⟩ q => by
  subst eo
  exact ⟨supd S a (.dtn w a acc), G, .ref a, q a hs, ⟨vw.gh, fun b o e => by
    by_cases hb : b = a
    · subst hb; rw [supd_same] at e; cases e; exact ⟨hg, _, ha, .dtn er⟩
    · rw [supd_ne hb] at e; exact vw.st b o e⟩, Same.refl G, .ref a, fun b hb => ⟨supd_ne hb, rfl⟩⟩
variable {kx vx tg iter : Expr} {ifs : List Expr} {scope : Scope} {own : List (Str × Nat)} {pos : Pos} {c : CT} {mi : VW} {mt : VT} {mk mv : VE}
/-- x = {k: v for ..} -/
theorem s_setDcT {w : World} {i : Nat} {y : Str} {py spos : Pos} (hxw : X.w = w) (hw : c.within (own.map (·.2))) (hu : X.A.units + 65 < cLine) (hc : X.calm = true) (hN : X.N.Nodup) (hy : X.N[i]? = some y) (hyl : X.env.scope.names.lookup y = some .local)
    (hsw : swapsWith (.DictComp kx vx [⟨tg, iter, ifs, 0⟩] scope pos) (some (.Name y py)) spos.line X.env = pure true) (ok : BlkOk X.N X.env.scope scope own) (hi : PI X tg iter (LI X.K mi))
    (hg : ∀ (s : Shared) (H : Hp) (C : Addr) (cl : List (Str × Addr)) (fp : List Addr), PG (X.blk s H scope (compEnvC scope cl C X.env) fp) tg (gCT X.K c)) (ht : ∀ (s : Shared) (H : Hp) (C : Addr) (cl : List (Str × Addr)) (fp : List Addr), PTs (X.blk s H scope (compEnvC scope cl C X.env) fp) ifs (LT X.K mt))
    (hk : ∀ (s : Shared) (H : Hp) (C : Addr) (cl : List (Str × Addr)) (fp : List Addr), PE (X.blk s H scope (compEnvC scope cl C X.env) fp) kx (LE X.K mk)) (he : ∀ (s : Shared) (H : Hp) (C : Addr) (cl : List (Str × Addr)) (fp : List Addr), PE (X.blk s H scope (compEnvC scope cl C X.env) fp) vx (LE X.K mv)) (hs : ∀ x, foldedSetIterable iter X.env x = pure x := by intro _; rfl) :
    PS X (.Assign [.Name y py] (.DictComp kx vx [⟨tg, iter, ifs, 0⟩] scope pos) spos) (LS X.K (mSet i (mComp c mi mt (bDictT mk mv) (own.map (·.2)) [] (rT w)))) := by
  subst hxw
  refine PS.imp (t := tAsg (tComp (LI X.K mi) (gCT X.K c) (LT X.K mt) (fun d => LB X.K (relT X.K X.w d) d (bDictT mk mv)) (fun D => HO.ext (dtPhi X.w D [])) (own.map Prod.snd)) (gName i)) ⟨fun pins s σ H D I h => ?_⟩
    fun D' σ H ⟨ρ, S, G, E, vw, re, hm, ok⟩ => le_compD (rel := relT X.K X.w) (o := fun D => .ext (dtPhi X.w D [])) relT_mono (fun G d => ⟨[], rfl, .nil⟩) recAD_T hw σ H _ ⟨ρ, S, G, _, vw, re, hm, fun d S' v H' G' a r q => ok.nx _ S' _ H' G' a ((re.mono a.gg).set r) q⟩
  rw [exec_Assign_Name_used _ _ _ _ hsw]
  refine wpAny_bind (wpAny_standAt (wpAny_bind ?_))
  show wpAny _ X.A (do let _ ← comprehension (.DictComp kx vx [⟨tg, iter, ifs, 0⟩] scope pos) scope X.env (firstIterPos [⟨tg, iter, ifs, 0⟩] pos) newDict false (eval iter X.env) (some (assign (.Name y py) X.env))) _ _ s
  refine wpAny_bind (thn (comp_core (Qf := fun _ s' => SP X pins D .next s') (vs1 := []) (inner := fun d env m => emitOf (.DictComp kx vx [⟨tg, iter, ifs, 0⟩] scope pos) (.ref d) env >>= fun _ => m) rfl rfl acc_dtn (fun it d env => turn_leaf rfl rfl rfl) hc hN I hi ok (by simp) hg ht (fun d s H C cl fp => b_dictT (X := X.blk s H scope (compEnvC scope cl C X.env) fp) (fun _ _ z => z) hu (hk s H C cl fp) (he s H C cl fp)) hs h fun L C s' m H' I' q hn f => ?_) fun _ s' hq => wpAny_pure (wpAny_pure hq))
  show wpAny _ _ (assign (.Name y py) X.env (.ref L)) _ _ _
  refine wpAny_assign_Name (store_ok2 (v := V.ref L) I' hN hy (.inl hyl) rfl (fun s2 I2 ⟨a, sb, ha⟩ => ?_) (.inr hyl))
  obtain ⟨f0, f1, f2, f3, f4, f5⟩ := f
  have haC : C ≠ a := by
    rcases ha with z | z
    · rw [z]; exact f1
    · exact fun e => f4 y a z e.symm
  refine ⟨m, hn.sameBut sb haC, fun h3 sb3 => ?_⟩
  exact ⟨_, _, I2.turned (t' := s2.toks) (fun b o hb e => (sb3.2 b hb).trans e) f0 f1 f3 f4 f5, q⟩
end
def Itkh (w : World) (d : Addr) (o : Obj) (xs : List (NK × Addr × Value)) : It :=
  ⟨fun i H => H d = some (.frz o (.ext (dtPhi w d xs))) ∧ i < xs.length, fun i H x H' => H' = H ∧ ∃ y, xs[i]? = some y ∧ x = .ref y.2.1, fun i H => H d = some (.frz o (.ext (dtPhi w d xs))) ∧ xs.length ≤ i⟩
section
variable {P : Program} {w : World} {K : PySem.W.Frag} {tg : Expr} {d : Addr} {o : Obj} {es : Array DictEntry} {ep : Nat} {xs : List (NK × Addr × Value)}
theorem frzH {X : Cx} {pins : List (Addr × Obj)} {σ : L2.St} {H : Hp} {s : Shared} (I : Inv X pins σ H s) (h : H d = some (.frz o (.ext (dtPhi w d xs)))) :
    (d == sysModules) = false ∧ s.heap.get? d = some o ∧ o.ExactDict ∧ ∃ es ep, o.data = .dict es ep ∧ es.toList = xs.map fun x => (⟨x.1.hash w, .ref x.2.1, x.2.2⟩ : DictEntry) := by
  obtain ⟨hd, ⟨a, b, c, o2, es, ep, e1, e2, e3, e4⟩, _⟩ := I.hok d _ h
  rw [hd] at e1
  cases e1
  exact ⟨a, hd, e2, es, ep, e3, e4⟩
theorem es_at {es : Array DictEntry} {i : Nat} (h : es.toList = xs.map fun x => (⟨x.1.hash w, .ref x.2.1, x.2.2⟩ : DictEntry)) (hi : i < xs.length) : es.size = xs.length ∧ ∃ e, es[i]? = some e ∧ e.key = .ref (xs[i]).2.1 := by
  have l : es.size = xs.length := by rw [← Array.length_toList, h, List.length_map]
  refine ⟨l, _, by rw [← Array.getElem?_toList, h, List.getElem?_map, List.getElem?_eq_getElem hi]; rfl, rfl⟩
theorem turn_keysH (it : Addr) (hod : o.data = .dict es ep) : Turn P w K tg (Itkh w d o xs) [it] it (fun i h => h.IsKeyIter it d i xs.length ep) where
  mem := by simp
  obj := fun i h st b hb => by
    have e : b = it := by simpa using hb
    subst e
    obtain ⟨oi, e, c, dd⟩ := st
    exact ⟨oi, e, fun v z => by rw [dd] at z; cases z⟩
  keep := fun i h h' st k => st.at fun oi e => k it (by simp) oi e
  item := by
    intro X hP hw hK hc i pins s σ H E I hf st hg
    subst hP hK
    obtain ⟨hd, hi⟩ := hg
    obtain ⟨f0, f1, f2, f3, f4, f5⟩ := hf it (by simp)
    obtain ⟨hs, hgd, hx, es', ep', hdt, hes⟩ := frzH I hd
    obtain ⟨rfl, rfl⟩ := dict_ep hod hdt
    obtain ⟨hsz, en, hen, hkey⟩ := es_at hes hi
    refine next_key_item st hgd hdt hsz hen fun h' st' sb => ?_
    have I1 : Inv X pins σ H { s with heap := h' } := I.turned (t' := s.toks) (fun b ob hb e => (sb.2 b hb).trans e) f0 f1 f3 f4 f5
    obtain ⟨oi, e, c, dd⟩ := id st'
    exact ⟨en.key, rfl, go_of (s := { s with heap := h' }) e c dd (by decide) ⟨.ref (xs[i]).2.1, H, I1, hkey, ⟨rfl, _, List.getElem?_eq_getElem hi, rfl⟩, st', fun b hb => (hf b hb).1⟩⟩
  done := by
    intro X hP hw hK hc i pins s σ H E I hf st hg
    subst hP hK
    obtain ⟨hd, hi⟩ := hg
    obtain ⟨f0, f1, f2, f3, f4, f5⟩ := hf it (by simp)
    obtain ⟨hs, hgd, hx, es', ep', hdt, hes⟩ := frzH I hd
    obtain ⟨rfl, rfl⟩ := dict_ep hod hdt
    have hsz : es'.size = xs.length := by rw [← Array.length_toList, hes, List.length_map]
    exact next_key_end (I.ok.hd hc) st hgd hdt hsz hi fun h' eb => ⟨rfl, I.turned (t' := s.toks) (fun b ob hb e => eb b ob hb e) f0 f1 f3 f4 f5⟩
  self := fun A i s Q E st h => wpAny_pyIter_keyiter st h
end
section
variable {X : Cx} {tg it : Expr} {m : VE}
def iKeysH (w : World) (td : TE) : TI := fun σ H R => td σ H fun x H1 => ∃ d o xs, x = .ref d ∧ H1 d = some (.frz o (.ext (dtPhi w d xs))) ∧ R (Itkh w d o xs) H1
theorem pi_keysH {w : World} {td : TE} (hw : X.w = w) (he : PE X it td) : PI X tg it (iKeysH w td) := by
  subst hw
  refine ⟨fun pins s σ H R I h => ?_⟩
  refine thn (he.run pins s σ H _ I h) fun u s1 ⟨x, H1, I1, rx, d, o, xs, ex, hd, q⟩ => ?_
  subst ex
  obtain rfl : u = Value.ref d := rx
  obtain ⟨hs, hgd, hx, es, ep, hdt, hes⟩ := frzH I1 hd
  have hsz : es.size = xs.length := by rw [← Array.length_toList, hes, List.length_map]
  refine iter_keys hs hgd hx hdt (pi_one (tk := s1.toks) I1 _ (turn_keysH _ hdt) ⟨_, Heap.get?_push_size _ rfl, rfl, ?_⟩ q)
  rw [hsz] <;> rfl
theorem EntR.at {K : PySem.W.Frag} {G : Hp} : ∀ {xs : List (NK × Addr × Value)} {kvs : List (NK × D)} {i : Nat} {y : NK × Addr × Value}, EntR K G xs kvs → xs[i]? = some y → ∃ p, kvs[i]? = some p ∧ Rp K G (.ref y.2.1) (dOfN p.1)
  | _, _, _, _, .nil, h => by simp at h
  | _, _, 0, _, .cons _ rk _ _, h => by simp at h; subst h; exact ⟨_, rfl, rk⟩
  | _, _, i + 1, y, .cons _ _ _ t, h => by
    obtain ⟨p, h1, h2⟩ := t.at (i := i) (y := y) (by simpa using h)
    exact ⟨p, by simpa using h1, h2⟩
theorem walks_keysH {K : PySem.W.Frag} {G1 : Hp} {w : World} {d : Addr} {o : Obj} {xs : List (NK × Addr × Value)} {kvs : List (NK × D)} (h : G1 d = some (.frz o (.ext (dtPhi w d xs)))) (r : EntR K G1 xs kvs) : Walks K G1 (fun _ => True) (Itkh w d o xs) (kvs.map fun kv => dOfN kv.1) where
  stop := fun H G S g v k => ⟨v.gh _ _ (g _ _ h), by rw [List.length_map, r.len]; exact Nat.le_refl _⟩
  goes := fun i H G S hi g v k => ⟨v.gh _ _ (g _ _ h), by rw [List.length_map] at hi; rw [r.len]; exact hi⟩
  yld := fun i e H x H' G S hd g v k y => by
    obtain ⟨rfl, y, h1, rfl⟩ := y
    obtain ⟨p, e2, rp⟩ := r.at h1
    rw [List.getElem?_map, e2] at hd
    cases hd
    exact ⟨G, Aft.refl v, rp.mono g⟩
def mKeysT (w : World) (m : VE) : VW := fun ρ S Q => m ρ S fun d S1 => match d with
  | .ref p => (match S1 p with
    | some (.dtn w' q kvs) => (w' = w ∧ q = p) ∧ ∀ S2, S2 p = none → (∀ b, b ≠ p → S2 b = S1 b) → Q (kvs.map fun kv => dOfN kv.1) (fun _ => True) S2
    | _ => False)
  | _ => False
theorem mKeysT_e {w : World} {m : VE} {ρ : Sl} {S : Store} {Q : List D → (Store → Prop) → Store → Prop} : mKeysT w m ρ S Q = m ρ S fun d S1 => match d with
  | .ref p => (match S1 p with
    | some (.dtn w' q kvs) => (w' = w ∧ q = p) ∧ ∀ S2, S2 p = none → (∀ b, b ≠ p → S2 b = S1 b) → Q (kvs.map fun kv => dOfN kv.1) (fun _ => True) S2
    | _ => False)
  | _ => False := rfl
theorem i_keysT {w : World} (hw : X.w = w) (h : PE X it (LE X.K m)) : PI X tg it (LI X.K (mKeysT w m)) := by
  refine PI.imp (pi_keysH hw (pe_tlk h)) fun σ H R ⟨ρ, S, G, Q, vw, re, hm, k⟩ => ?_
  refine ⟨ρ, S, G, _, vw, re, hm, fun d S1 v1 H1 G1 a1 r1 h1 => ?_⟩
  split at h1
  · rename_i p
    split at h1
    · rename_i w' q kvs e1
      obtain ⟨⟨rfl, rfl⟩, h2⟩ := h1
      cases r1
      obtain ⟨_, u, hu, ku⟩ := a1.vw.st _ _ e1
      cases ku with
      | @dtn _ _ xs _ er =>
        refine ⟨q, _, rfl, hu, trivial, fun od => ?_⟩
        have hs1 : ∀ b x, sdel S1 q b = some x → S1 b = some x := fun b x hx => by
          unfold sdel at hx
          split at hx
          · cases hx
          · exact hx
        have hq : sdel S1 q q = none := by unfold sdel; rw [if_pos rfl]
        have a2 := a1.vw.locks (u' := .frz od (.ext (dtPhi w' q xs))) e1 hq hs1
        exact ⟨q, od, xs, rfl, upd_same, k _ _ _ _ _ _ (a1.trans a2) (walks_keysH upd_same (er.mono a2.gg)) (h2 _ hq fun b hb => by unfold sdel; rw [if_neg hb])⟩
    · exact h1.elim
  · exact h1.elim
def mLenT0 (w : World) : CV := fun ds S Q => match ds with
  | [d] => match rdT w d S with
    | some kvs => okT w d S ∧ Q (.int kvs.length) S
    | none => False
  | _ => False
theorem mLenT0_e {w : World} {d : D} {S : Store} {Q : D → Store → Prop} : mLenT0 w [d] S Q = match rdT w d S with
  | some kvs => okT w d S ∧ Q (.int kvs.length) S
  | none => False := rfl
theorem cr_lenT {w : World} (hw : X.w = w) : CallR X (.builtin "len") (fun xs H Q => ∃ (p : Addr) (ys : List (NK × Addr × Value)), xs = [V.ref p] ∧ TD H w p ys ∧ Q (.int ys.length) H) := by
  subst hw
  intro pins s σ H xs us Q I r h
  obtain ⟨a, ys, rfl, e, q⟩ := h
  obtain ⟨u, rfl, rx⟩ := vals1 r
  cases rx
  obtain ⟨z1, z2, z3, o, es, ep, h1, h2, h3, h4⟩ := e.phi I
  have hsz : es.size = ys.length := by rw [← Array.length_toList, h4, List.length_map]
  have sz := sizeLine_eq
  have hT : s.TypeIs (.ref a) "dict" := ⟨o, h1, h2.1⟩
  refine Calls.call_function_entry kind_len plain_len entry_len (args_len1 _) ?_
  unfold Builtin.len
  refine wpAny_bind (m := oneArg "len" _) (wpAny_pure ?_)
  refine wpAny_bind (m := callSpecial? (.ref a) (Str.ofString "__len__")) (wpAny_callSpecial?_slot (name := Str.ofString "__len__") hT F.slot_dict_len (call_len_raw z1 ⟨o, h1, h2, h3⟩ ?_))
  rw [hsz]
  refine wpAny_bind (wpAny_holding (wpAny_pure ?_))
  refine wpAny_bind (wpAny_letGo ?_)
  show wpAny _ _ (if ((ys.length : Nat) : Int) < 0 then _ else _) _ _ _
  rw [if_neg (by omega)]
  show wpAny _ _ (if ((ys.length : Nat) : Int) ≥ 2 ^ 63 then _ else _) _ _ _
  rw [if_neg (by omega)]
  exact wpAny_bind (wpAny_mkInt (wpAny_pure ⟨_, rfl, .int ys.length, H, (I.tok _).tok _, ⟨_, rfl⟩, q⟩))
theorem cv_lenT {X : Cx} {w : World} (hw : X.w = w) : CallV X (.builtin "len") (mLenT0 w) := by
  refine ⟨_, cr_lenT hw, ?_⟩
  intro ds vs G S H Q Q' vw rl h k
  unfold mLenT0 at h
  split at h
  · rename_i d
    cases rl with
    | cons r t =>
      cases t
      split at h
      · rename_i kvs e
        obtain ⟨p, xs, rfl, td, er⟩ := rdT_ok vw r e h.1
        exact ⟨p, xs, rfl, td, by rw [er.len]; exact k _ S _ H G (Aft.refl vw) (.int _) h.2⟩
      · exact h.elim
  · exact h.elim
def rngR (n : Nat) : List D := (List.range n).map fun (i : Nat) => D.int ((n : Int) - 1 - i)
theorem walks_rngR {K : PySem.W.Frag} {G1 : Hp} {n : Nat} {lo : Int} (h : lo = (n : Int) - 1) : Walks K G1 (fun _ => True) (Itc lo (-1) n) (rngR n) where
  stop := fun H G S g v k => by show n ≤ (rngR n).length; simp [rngR]
  goes := fun i H G S hi g v k => by show i < n; simpa [rngR] using hi
  yld := fun i d H x H' G S hd g v k y => by
    obtain ⟨e1, e2⟩ := y
    subst e1 e2
    have hi : i < n := by have := getE hd; simpa [rngR] using this
    simp [rngR, hi] at hd
    subst hd
    refine ⟨G, Aft.refl v, ?_⟩
    rw [show lo + (i : Int) * (-1) = (n : Int) - 1 - i by omega]
    exact .int _
def mRngR (m : VE) : VW := fun ρ S Q => m ρ S fun d S1 => match d with
  | .int j => (-(2 ^ 62) ≤ j ∧ j < 2 ^ 62) ∧ Q (rngR j.toNat) (fun _ => True) S1
  | _ => False
theorem mRngR_e {m : VE} {ρ : Sl} {S : Store} {Q : List D → (Store → Prop) → Store → Prop} : mRngR m ρ S Q = m ρ S fun d S1 => match d with
  | .int j => (-(2 ^ 62) ≤ j ∧ j < 2 ^ 62) ∧ Q (rngR j.toNat) (fun _ => True) S1
  | _ => False := rfl
theorem i_rngR {e : Expr} {p1 p2 p3 pos : Pos} (hg : Gl X "reversed") (hm : X.mg "reversed" = none) (hg2 : Gl X "range") (hm2 : X.mg "range" = none) (he : PE X e (LE X.K m)) (h1 : starEach [e] X.env = (false, eval e X.env) :: starEach [] X.env := by rfl)
    (h2 : starEach [.Call (.Name "range" p2) [e] [] p3] X.env = (false, eval (.Call (.Name "range" p2) [e] [] p3) X.env) :: starEach [] X.env := by rfl) :
    PI X tg (.Call (.Name "reversed" p1) [.Call (.Name "range" p2) [e] [] p3] [] pos) (LI X.K (mRngR m)) := by
  refine PI.imp (pi_revR hg hm (prg_1 hg2 hm2 he h1) h2) fun σ H R ⟨ρ, S, G, Q, vw, re, hq, k⟩ => ?_
  refine ⟨ρ, S, G, _, vw, re, hq, fun d S1 v1 H1 G1 a1 r1 h1 => ?_⟩
  split at h1
  · rename_i j
    cases r1
    refine ⟨j, rfl, by decide, by decide, h1.1.1, h1.1.2, ?_⟩
    have e : ((j - 0).toNat) = j.toNat := by rw [Int.sub_zero]
    rw [e]
    exact k _ _ _ _ _ _ a1 (walks_rngR (by omega)) h1.2
  · exact h1.elim
end
end VL
set_option maxHeartbeats 2000000
namespace VL
open PySem PySem.Spec L2
open PyProof.Rows hiding St
abbrev Pl := Int × Int
def linesI (ps : List D) (d : Int) : List D := match atI ps d with
  | some (.tup [_, _, _, _, .tup ls]) => ls
  | _ => []
def giveI (ps : List D) (d : Int) : Str := match atI ps d with
  | some (.tup [_, .str g, _, _, _]) => g
  | _ => Str.empty
def lnI (ps : List D) (q : Pl) : D := (atI (linesI ps q.1) q.2).getD .non
def plD (q : Pl) : D := .tup [.int q.1, .int q.2]
def plK (q : Pl) : NK := .tup [.num q.1, .num q.2]
theorem plK_inj {a b : Pl} (h : plK a = plK b) : a = b := by
  cases a; cases b
  simp only [plK, PySem.NestedKey.tup.injEq, List.cons.injEq, PySem.NestedKey.num.injEq, and_true] at h
  obtain ⟨rfl, rfl⟩ := h; rfl
theorem keyT_pl (q : Pl) : keyT (plD q) = some (plK q) := rfl
def places (ps : List D) : List Pl := (List.range ps.length).flatMap fun (d : Nat) => (List.range (linesI ps d).length).map fun (a : Nat) => ((d : Int), (a : Int))
theorem mem_places {ps : List D} {q : Pl} : q ∈ places ps ↔ 0 ≤ q.1 ∧ q.1 < ps.length ∧ 0 ≤ q.2 ∧ q.2 < (linesI ps q.1).length := by
  unfold places
  simp only [List.mem_flatMap, List.mem_range, List.mem_map]
  constructor
  · rintro ⟨d, hd, a, ha, rfl⟩
    exact ⟨by simp, by simp; omega, by simp, by simp; omega⟩
  · rintro ⟨h1, h2, h3, h4⟩
    obtain ⟨d, a⟩ := q
    simp only at h1 h2 h3 h4
    refine ⟨d.toNat, by omega, a.toNat, ?_, ?_⟩
    · rw [Int.toNat_of_nonneg h1]; omega
    · simp only [Prod.mk.injEq]; omega
theorem places_nd (ps : List D) : (places ps).Nodup := by
  unfold places
  unfold List.Nodup
  rw [List.pairwise_flatMap]
  refine ⟨fun d _ => ?_, ?_⟩
  · rw [List.pairwise_map]
    exact List.nodup_range.imp fun {a b} h e => h (by simp only [Prod.mk.injEq, true_and] at e; omega)
  · refine List.nodup_range.imp fun {a b} h x h1 y h2 e => ?_
    subst e
    obtain ⟨i, _, rfl⟩ := List.mem_map.mp h1
    obtain ⟨j, _, e⟩ := List.mem_map.mp h2
    simp only [Prod.mk.injEq] at e
    omega
def peg0 : D := .tup [.str "peg", .int 0]
def isPeg (h : D) : Bool := match h with
  | .tup [.str s, _] => decide (s = "peg")
  | _ => false
def readsP (g : Str) (l : D) : List D := match l with
  | .tup (.str w :: r) => if w = "back" ∧ g ≠ "-" then [peg0] else sortH (partsW w r "read")
  | _ => []
def goP (ps : List D) (q : Pl) (h : D) : List Pl := match lnI ps q with
  | .tup (.str w :: r) => (if inP h (writesW w r) = true then ([] : List Pl) else ((nextN w r q.2).getD []).map fun j => (q.1, j)) ++
      (if w = "call" ∧ isPeg h = true then (match r with
        | .int k :: _ => [((k, 0) : Pl)]
        | _ => []) else [])
  | _ => []
def readsI (ps : List D) (q : Pl) : List D := readsP (giveI ps q.1) (lnI ps q)
inductive Live (ps : List D) (h : D) : Pl → Prop
  | here {q : Pl} (e : h ∈ readsI ps q) : Live ps h q
  | on {q q2 : Pl} (e : q2 ∈ goP ps q h) (t : Live ps h q2) : Live ps h q
open Classical in
noncomputable def liveL (ps : List D) (q : Pl) : List D := homes8.filter fun h => decide (Live ps h q)
theorem lines_at {ps : List D} {d : Int} {t k b : D} {g : Str} {ls : List D} (h : atI ps d = some (.tup [t, .str g, k, b, .tup ls])) : linesI ps d = ls ∧ giveI ps d = g := by
  unfold linesI giveI; rw [h]; exact ⟨rfl, rfl⟩
/-- a place's line, its def and where it leads -/
theorem Prog.place {ps : List D} (h : Prog (.tup ps)) {q : Pl} (hq : q ∈ places ps) : ∃ t g ks b ls w r ns, atI ps q.1 = some (.tup [.str t, .str g, .tup ks, .int b, .tup ls]) ∧ linesI ps q.1 = ls ∧ giveI ps q.1 = g ∧ atI ls q.2 = some (.tup (.str w :: r)) ∧ lnI ps q = .tup (.str w :: r) ∧
    LineL (.tup (.str w :: r)) ∧ nextN w r q.2 = some ns ∧ (∀ j ∈ ns, 0 ≤ j ∧ j < (ls.length : Int)) ∧ ls.length ≤ 24 := by
  obtain ⟨h1, h2, h3, h4⟩ := mem_places.mp hq
  obtain ⟨t, g, ks, b, ls, e, l1, l24, hl, fl⟩ := h.at h1 h2
  obtain ⟨e1, e2⟩ := lines_at e
  rw [e1] at h4
  obtain ⟨w, r, ns, ea, en, hn⟩ := fl q.2 h3 h4
  refine ⟨t, g, ks, b, ls, w, r, ns, e, e1, e2, ea, ?_, hl _ (atI_mem ea), en, hn, l24⟩
  unfold lnI; rw [e1, ea]; rfl
theorem Prog.len6 {ps : List D} (h : Prog (.tup ps)) : 1 ≤ ps.length ∧ ps.length ≤ 6 := by
  obtain ⟨ds, e, h1, h6, _⟩ := h.l.ex
  cases e
  exact ⟨h1, h6⟩
theorem Prog.call_to {ps : List D} (h : Prog (.tup ps)) {q : Pl} (hq : q ∈ places ps) {r : List D} (e : lnI ps q = .tup (.str "call" :: r)) : ∃ k : Int, r = [.int k] ∧ 0 ≤ k ∧ k < ps.length := by
  obtain ⟨t, g, ks, b, ls, w, r', ns, ed, e1, e2, ea, el, ll, en, hn, l24⟩ := h.place hq
  rw [el] at e
  simp only [D.tup.injEq, List.cons.injEq, D.str.injEq] at e
  obtain ⟨rfl, rfl⟩ := e
  obtain ⟨w, es, r2, e3, he, hf, _⟩ := ll.ex
  simp only [D.tup.injEq, List.cons.injEq, D.str.injEq] at e3
  obtain ⟨rfl, rfl⟩ := e3
  have ec : (lineTab.lookup (Str.ofString "call")) = some [(116, Str.ofString "called")] := by decide +kernel
  rw [ec] at he
  cases he
  have l1 := fits_len' hf
  obtain ⟨x, rfl⟩ : ∃ x, r' = [x] := by
    match r', l1 with
    | [x], _ => exact ⟨x, rfl⟩
  simp only [fitsAll, Bool.and_true] at hf
  obtain ⟨k, rfl, k0⟩ := isFrom_ex (show isFrom x = true from hf)
  exact ⟨k, rfl, k0, called_in h (atI_mem ed) rfl (atI_mem ea)⟩
theorem go_in {ps : List D} (h : Prog (.tup ps)) {q : Pl} (hq : q ∈ places ps) (hm : D) : ∀ q2 ∈ goP ps q hm, q2 ∈ places ps := by
  intro q2 m
  obtain ⟨t, g, ks, b, ls, w, r, ns, ed, e1, e2, ea, el, ll, en, hn, l24⟩ := h.place hq
  obtain ⟨h1, h2, h3, h4⟩ := mem_places.mp hq
  unfold goP at m
  rw [el] at m
  simp only at m
  rcases List.mem_append.mp m with m | m
  · split at m
    · cases m
    · rw [en] at m
      obtain ⟨j, hj, rfl⟩ := List.mem_map.mp m
      have := hn j hj
      exact mem_places.mpr ⟨h1, h2, this.1, by rw [e1]; exact this.2⟩
  · split at m
    · rename_i c
      obtain ⟨ec, _⟩ := c
      rw [ec] at el
      obtain ⟨k, er, k0, k1⟩ := h.call_to hq el
      rw [er] at m
      have m2 : q2 = (k, 0) := by simpa using m
      subst m2
      obtain ⟨t', g', ks', b', ls', e', l1, _⟩ := h.at k0 k1
      exact mem_places.mpr ⟨k0, k1, Int.le_refl _, by rw [(lines_at e').1]; simp only; omega⟩
    · cases m
theorem reads_homes {ps : List D} (h : Prog (.tup ps)) {q : Pl} (hq : q ∈ places ps) : (∀ e ∈ readsI ps q, isHome e = true) ∧ (readsI ps q).length ≤ 8 := by
  obtain ⟨t, g, ks, b, ls, w, r, ns, ed, e1, e2, ea, el, ll, en, hn, l24⟩ := h.place hq
  unfold readsI readsP
  rw [el, e2]
  simp only
  split
  · exact ⟨by decide +kernel, by decide⟩
  · exact ⟨sortH_homes, sortH_len⟩
theorem places_len {ps : List D} (h : Prog (.tup ps)) : (places ps).length ≤ 144 := by
  unfold places
  rw [List.length_flatMap]
  have : ∀ x ∈ (List.range ps.length).map fun (d : Nat) => ((List.range (linesI ps d).length).map fun (a : Nat) => ((d : Int), (a : Int))).length, x ≤ 24 := by
    intro x hx
    obtain ⟨d, hd, rfl⟩ := List.mem_map.mp hx
    have hd := List.mem_range.mp hd
    obtain ⟨t', g', ks', b', ls', e', l1, l24, _⟩ := h.at (d := (d : Int)) (by omega) (by omega)
    rw [List.length_map, List.length_range, (lines_at e').1]
    exact l24
  have g : ∀ (l : List Nat), (∀ x ∈ l, x ≤ 24) → l.sum ≤ 24 * l.length := by
    intro l
    induction l with
    | nil => intro _; simp
    | cons a l ih => intro hl; have := ih fun x hx => hl x (by simp [hx]); have := hl a (by simp); simp only [List.sum_cons, List.length_cons]; omega
  have := g _ this
  rw [List.length_map, List.length_range] at this
  have := h.len6.2
  omega
theorem nextN_two {w : Str} {r : List D} {a : Int} {ns : List Int} (h : nextN w r a = some ns) : ns.length ≤ 2 := by
  unfold nextN at h
  by_cases e1 : w = "back"
  · rw [if_pos e1] at h; cases h; simp
  rw [if_neg e1] at h
  by_cases e2 : w = "go"
  · rw [if_pos e2] at h
    split at h
    · cases h; simp
    · cases h
  rw [if_neg e2] at h
  by_cases e3 : w = "if" ∨ w = "ifnone" ∨ w = "same"
  · rw [if_pos e3] at h
    split at h
    · cases h
      unfold sort2
      split <;> (try split) <;> simp
    · cases h
  · rw [if_neg e3] at h; cases h; simp
theorem home_ex {d : D} (h : isHome d = true) : ∃ (s : Str) (k : Int), d = .tup [.str s, .int k] := by
  obtain ⟨b, k, e, _⟩ := isHome_ex h
  exact ⟨_, k, e⟩
theorem goP_eq {ps : List D} {q : Pl} {w : Str} {r : List D} {ns : List Int} (el : lnI ps q = .tup (.str w :: r)) (en : nextN w r q.2 = some ns) (h : D) :
    goP ps q h = (if inP h (writesW w r) = true then [] else ns.map fun j => ((q.1, j) : Pl)) ++ (if w = "call" ∧ isPeg h = true then (match r with
      | .int k :: _ => [((k, 0) : Pl)]
      | _ => []) else []) := by
  unfold goP
  rw [el]
  simp only
  rw [en]
  rfl
def prA (A : Pl → Addr) (qs : List Pl) : List (NK × D) := qs.map fun q => (plK q, .ref (A q))
theorem prA_val {A : Pl → Addr} : ∀ {qs : List Pl} {q : Pl}, q ∈ qs → valT (prA A qs) (plK q) = some (.ref (A q))
  | [], _, h => nomatch h
  | x :: qs, q, h => by
    unfold prA valT
    rw [List.map_cons, List.find?_cons]
    by_cases e : plK x = plK q
    · have := plK_inj e
      subst this
      simp
    · rw [decide_eq_false e]
      rcases List.mem_cons.mp h with rfl | h
      · exact absurd rfl e
      · exact prA_val h
theorem prA_no {A : Pl → Addr} : ∀ {qs : List Pl} {q : Pl}, q ∉ qs → valT (prA A qs) (plK q) = none
  | [], _, _ => rfl
  | x :: qs, q, h => by
    unfold prA valT
    rw [List.map_cons, List.find?_cons]
    by_cases e : plK x = plK q
    · have := plK_inj e
      subst this
      exact absurd List.mem_cons_self h
    · rw [decide_eq_false e]
      exact prA_no fun m => h (List.mem_cons_of_mem _ m)
/-- at each place of a list a list of its own, unlike ones apart, all new since S -/
structure Rows (S S' : Store) (A : Pl → Addr) (qs : List Pl) (L : Pl → List D) : Prop where
  at_ : ∀ q ∈ qs, S' (A q) = some (.lst (L q))
  new : ∀ q ∈ qs, S (A q) = none
  inj : ∀ q ∈ qs, ∀ q2 ∈ qs, A q = A q2 → q = q2
theorem prA_put {A : Pl → Addr} {qs : List Pl} {q : Pl} {b : Addr} (h : q ∉ qs) : putT (prA A qs) (plK q) (.ref b) = prA (fun x => if x = q then b else A x) (qs ++ [q]) := by
  unfold putT
  rw [prA_no h]
  simp only [Option.isSome_none, Bool.false_eq_true, if_false]
  unfold prA
  rw [List.map_append]
  refine congr (congrArg _ (List.map_congr_left fun x hx => ?_)) ?_
  · show _ = (plK x, D.ref (if x = q then b else A x))
    rw [if_neg (show ¬ x = q from fun e => h (by rw [← e]; exact hx))]
  · simp
theorem none_of_keep {S S' : Store} {b : Addr} (k : ∀ c o, S c = some o → S' c = some o) (h : S' b = none) : S b = none := by
  cases q : S b with
  | none => rfl
  | some o => rw [k b o q] at h; cases h
theorem keep_supd {S S' : Store} {b : Addr} {o : SO} (k : ∀ c u, S c = some u → S' c = some u) (h : S b = none) : ∀ c u, S c = some u → supd S' b o c = some u := fun c u e => by
  rw [supd_ne (fun z => by subst z; rw [h] at e; cases e)]; exact k c u e
theorem Rows.add {S S2 : Store} {A : Pl → Addr} {qs : List Pl} {L : Pl → List D} (R : Rows S S2 A qs L) {q : Pl} {b : Addr} (hq : q ∉ qs) (hb : S2 b = none) (h0 : S b = none) : Rows S (supd S2 b (.lst (L q))) (fun x => if x = q then b else A x) (qs ++ [q]) L := by
  have ne : ∀ x ∈ qs, A x ≠ b := fun x hx e => by have := R.at_ x hx; rw [e, hb] at this; cases this
  have nq : ∀ x ∈ qs, x ≠ q := fun x hx e => hq (by rw [← e]; exact hx)
  refine ⟨fun x hx => ?_, fun x hx => ?_, fun x hx y hy => ?_⟩
  · rcases List.mem_append.mp hx with hx | hx
    · rw [if_neg (nq x hx), supd_ne (ne x hx)]; exact R.at_ x hx
    · rw [List.mem_singleton.mp hx, if_pos rfl, supd_same]
  · rcases List.mem_append.mp hx with hx | hx
    · rw [if_neg (nq x hx)]; exact R.new x hx
    · rw [List.mem_singleton.mp hx, if_pos rfl]; exact h0
  · rcases List.mem_append.mp hx with hx | hx <;> rcases List.mem_append.mp hy with hy | hy
    · rw [if_neg (nq x hx), if_neg (nq y hy)]; exact R.inj x hx y hy
    · rw [List.mem_singleton.mp hy, if_neg (nq x hx), if_pos rfl]; exact fun e => absurd e (ne x hx)
    · rw [List.mem_singleton.mp hx, if_neg (nq y hy), if_pos rfl]; exact fun e => absurd e.symm (ne y hy)
    · rw [List.mem_singleton.mp hx, List.mem_singleton.mp hy]; exact fun _ => rfl
theorem Rows.upd {S S2 : Store} {A : Pl → Addr} {qs : List Pl} {L : Pl → List D} (R : Rows S S2 A qs L) {q : Pl} (hq : q ∈ qs) (l : List D) : Rows S (supd S2 (A q) (.lst l)) A qs (fun x => if x = q then l else L x) := by
  refine ⟨fun x hx => ?_, R.new, R.inj⟩
  show _ = some (SO.lst (if x = q then l else L x))
  by_cases e : x = q
  · subst e; rw [if_pos rfl, supd_same]
  · rw [if_neg e, supd_ne (fun z => e (R.inj x hx q hq z))]; exact R.at_ x hx
theorem Rows.keep {S S2 S3 : Store} {A : Pl → Addr} {qs : List Pl} {L : Pl → List D} (R : Rows S S2 A qs L) (k : ∀ c o, S2 c = some o → S3 c = some o) : Rows S S3 A qs L := ⟨fun x hx => k _ _ (R.at_ x hx), R.new, R.inj⟩
theorem Rows.congr {S S2 : Store} {A : Pl → Addr} {qs : List Pl} {L L2 : Pl → List D} (R : Rows S S2 A qs L) (h : ∀ q ∈ qs, L q = L2 q) : Rows S S2 A qs L2 := ⟨fun x hx => by rw [← h x hx]; exact R.at_ x hx, R.new, R.inj⟩
theorem goP_len {ps : List D} (pr : Prog (.tup ps)) {q : Pl} (hq : q ∈ places ps) (h : D) : (goP ps q h).length ≤ 3 := by
  obtain ⟨t, g, ks, b, ls, w, r, ns, ed, e1, e2, ea, el, ll, en, hn, l24⟩ := pr.place hq
  rw [goP_eq el en, List.length_append]
  have := nextN_two en
  have h1 : (if inP h (writesW w r) = true then [] else ns.map fun j => ((q.1, j) : Pl)).length ≤ 2 := by split <;> simp; omega
  have h2 : (if w = "call" ∧ isPeg h = true then (match r with
      | .int k :: _ => [((k, 0) : Pl)]
      | _ => []) else []).length ≤ 1 := by
    split
    · split <;> simp
    · simp
  omega
def trK (R : List Pl) : List (NK × D) := R.map fun q => (plK q, .bl true)
theorem trK_val {R : List Pl} {q : Pl} : (valT (trK R) (plK q)).isSome = decide (q ∈ R) := by
  induction R with
  | nil => rfl
  | cons x R ih =>
    unfold trK valT
    rw [List.map_cons, List.find?_cons]
    by_cases e : plK x = plK q
    · rw [decide_eq_true e]
      have := plK_inj e
      subst this
      simp
    · rw [decide_eq_false e]
      have n : ¬ q = x := fun z => e (by rw [z])
      have e2 : decide (q ∈ x :: R) = decide (q ∈ R) := by simp [n]
      rw [e2]
      exact ih
theorem trK_put {R : List Pl} {q : Pl} (h : q ∉ R) : putT (trK R) (plK q) (.bl true) = trK (R ++ [q]) := by
  unfold putT
  rw [trK_val, decide_eq_false h]
  simp [trK]
theorem layL_of' : ∀ {ds : List D}, (∀ d ∈ ds, layD d = true) → layL ds = true
  | [], _ => rfl
  | d :: ds, h => by
    simp only [layL, Bool.and_eq_true]
    exact ⟨h d (by simp), layL_of' fun e he => h e (by simp [he])⟩
theorem pl_lay (W : List Pl) : layL (W.map plD) = true := layL_of' fun d hd => by obtain ⟨q, _, rfl⟩ := List.mem_map.mp hd; rfl
theorem pl_dep : ∀ W : List Pl, depL (W.map plD) ≤ 2
  | [] => Nat.zero_le _
  | q :: W => by
    have := pl_dep W
    simp only [List.map_cons, depL, plD, dep]
    omega
theorem pl_okq {S : Store} {a : Addr} {W : List Pl} (e : S a = some (.lst (W.map plD))) : okq S (.ref a) := okq_lref e (pl_lay W) (by have := pl_dep W; omega)
theorem nil_okq (S : Store) : okq S (.lst []) := okq_of rfl (by decide +kernel)
theorem pl_eqq {S : Store} {a : Addr} {W : List Pl} (e : S a = some (.lst (W.map plD))) : eqq S (.ref a) (.lst []) = decide (W = []) := by
  unfold eqq
  rw [show rsv S (.ref a) = .lst (W.map plD) by simp only [rsv, e]]
  cases W with
  | nil => rfl
  | cons q W => rfl
theorem pl_last {W : List Pl} {q : Pl} : ((W ++ [q]).map plD).getLast? = some (plD q) ∧ ((W ++ [q]).map plD).dropLast = W.map plD := by
  rw [List.map_append]
  simp
theorem sub_lenG {α : Type} [DecidableEq α] : ∀ {a b : List α}, a.Nodup → (∀ x ∈ a, x ∈ b) → a.length ≤ b.length
  | [], _, _, _ => Nat.zero_le _
  | x :: a, b, nd, s => by
    have hx := s x (by simp)
    have ih := sub_lenG (a := a) (b := b.erase x) (List.nodup_cons.mp nd).2 fun y hy => by
      have ne : y ≠ x := fun e => (List.nodup_cons.mp nd).1 (e ▸ hy)
      exact (List.mem_erase_of_ne ne).mpr (s y (by simp [hy]))
    rw [List.length_erase_of_mem hx] at ih
    have : 0 < b.length := List.length_pos_of_mem hx
    simp only [List.length_cons]
    omega
/-- what the search keeps: found R, of these waiting W -/
structure LvI (ps : List D) (h : D) (R W : List Pl) : Prop where
  nr : R.Nodup
  nw : W.Nodup
  inr : ∀ q ∈ R, q ∈ places ps ∧ Live ps h q
  inw : ∀ q ∈ W, q ∈ R
  rd : ∀ q ∈ places ps, h ∈ readsI ps q → q ∈ R
theorem LvI.len {ps : List D} {h : D} {R W : List Pl} (L : LvI ps h R W) (pl : (places ps).length ≤ 144) : R.length ≤ 144 ∧ W.length ≤ R.length :=
  ⟨Nat.le_trans (sub_lenG L.nr fun q hq => (L.inr q hq).1) pl, sub_lenG L.nw L.inw⟩
theorem LvI.add {ps : List D} {h : D} {R W : List Pl} (L : LvI ps h R W) {q : Pl} (hq : q ∈ places ps) (lv : Live ps h q) (n : q ∉ R) : LvI ps h (R ++ [q]) (W ++ [q]) := by
  refine ⟨?_, ?_, fun x hx => ?_, fun x hx => ?_, fun x hx hr => List.mem_append_left _ (L.rd x hx hr)⟩
  · rw [List.nodup_append]
    exact ⟨L.nr, by simp, fun a ha b hb => by rw [List.mem_singleton.mp hb]; exact fun e => n (e ▸ ha)⟩
  · rw [List.nodup_append]
    exact ⟨L.nw, by simp, fun a ha b hb => by rw [List.mem_singleton.mp hb]; exact fun e => n (e ▸ L.inw a ha)⟩
  · rcases List.mem_append.mp hx with hx | hx
    · exact L.inr x hx
    · rw [List.mem_singleton.mp hx]; exact ⟨hq, lv⟩
  · rcases List.mem_append.mp hx with hx | hx
    · exact List.mem_append_left _ (L.inw x hx)
    · rw [List.mem_singleton.mp hx]; simp
/-- what is closed is all -/
theorem live_closed {ps : List D} {h : D} {R : List Pl} (rd : ∀ q ∈ places ps, h ∈ readsI ps q → q ∈ R) (cl : ∀ q ∈ R, ∀ x ∈ places ps, q ∈ goP ps x h → x ∈ R) (pr : Prog (.tup ps)) : ∀ {q : Pl}, Live ps h q → q ∈ places ps → q ∈ R := by
  intro q l
  induction l with
  | here e => exact fun hq => rd _ hq e
  | @on q q2 e t ih => exact fun hq => cl q2 (ih (go_in pr hq h q2 e)) q hq e
end VL
set_option maxHeartbeats 2000000
namespace VL
open PySem PySem.Spec L2
open PyProof.Rows hiding St
theorem letN_r : ∀ e ∈ lineTab, ∀ q ∈ e.2, decide (letN q = 114) = decide (q.2 = "read") := by decide +kernel
theorem letN_w : ∀ e ∈ lineTab, ∀ q ∈ e.2, decide (letN q = 119) = decide (q.2 = "written") := by decide +kernel
def fLet (c : Nat) (d : D) : List D := match d with
  | .tup [.str q, x] => if q = ⟨#[c]⟩ then [x] else []
  | _ => []
theorem let_flat {c : Nat} {p : Str} : ∀ {es : List (Nat × Str)} {r : List D}, (∀ q ∈ es, decide (letN q = c) = decide (q.2 = p)) → (zipD (sgnD ⟨(es.map letN).toArray⟩) r).flatMap (fLet c) = pickL p es r
  | [], _, _ => by simp [zipD, sgnD, pickL]
  | _ :: _, [], _ => by simp [zipD, sgnD, pickL]
  | e :: es, d :: r, h => by
    have ih := let_flat (c := c) (p := p) (es := es) (r := r) fun q hq => h q (List.mem_cons_of_mem _ hq)
    have h0 : (letN e = c) = (e.2 = p) := propext (decide_eq_decide.mp (h e List.mem_cons_self))
    simp only [zipD, sgnD, List.map_cons, List.zip_cons_cons, List.flatMap_cons] at ih ⊢
    rw [ih]
    have : ((⟨#[letN e]⟩ : Str) = ⟨#[c]⟩) = (letN e = c) := by simp
    simp only [fLet, pickL, this, h0]
    split <;> rfl
theorem lets_mem {es : List (Nat × Str)} {r : List D} {d : D} (h : d ∈ zipD (sgnD ⟨(es.map letN).toArray⟩) r) : ∃ c x, d = .tup [.str ⟨#[c]⟩, x] := by
  unfold zipD at h
  obtain ⟨⟨a, b⟩, m, rfl⟩ := List.mem_map.mp h
  have ha := (List.of_mem_zip m).1
  unfold sgnD at ha
  obtain ⟨c, _, rfl⟩ := List.mem_map.mp ha
  exact ⟨c, b, rfl⟩
theorem lets_zip {es : List (Nat × Str)} {r : List D} (h : es.length ≤ 3) : (zipD (sgnD ⟨(es.map letN).toArray⟩) r).length ≤ 3 := by
  rw [zip_len, sgn_len]
  simp only [Str.length, List.size_toArray, List.length_map]
  omega
/-- what a line asks for, what lies behind it -/
def asksW (g : Str) (w : Str) (r : List D) : List D := if w = "back" then (if g = "-" then [] else [peg0]) else partsW w r "read"
theorem asks_reads {g w : Str} {r : List D} {h : D} (hh : isHome h = true) (hr : ∀ e ∈ partsW w r "read", isHome e = true) (hb : w = "back" → partsW w r "read" = []) : h ∈ readsP g (.tup (.str w :: r)) ↔ h ∈ asksW g w r := by
  unfold readsP asksW
  simp only
  have so : ∀ ds : List D, (∀ e ∈ ds, isHome e = true) → (h ∈ sortH ds ↔ h ∈ ds) := fun ds hd => by
    unfold sortH
    rw [List.mem_filter, inP_homes hh hd]
    exact ⟨fun x => x.2, fun x => ⟨home8 hh, x⟩⟩
  by_cases e1 : w = "back"
  · rw [if_pos e1]
    by_cases e2 : g = "-"
    · rw [if_pos e2, if_neg (fun z => z.2 e2), so _ hr, hb e1]
    · rw [if_neg e2, if_pos ⟨e1, e2⟩]
  · rw [if_neg e1, if_neg (fun z => e1 z.1), so _ hr]
def behI (w : Str) (r : List D) (i : Int) : List Int := if w = "back" then [] else if w = "go" then (match r with
  | .int k :: _ => [k]
  | _ => []) else (i + 1) :: (if w = "if" ∨ w = "ifnone" ∨ w = "same" then (match r.getLast? with
    | some (.int k) => [k]
    | _ => []) else [])
theorem sort2_iff {i j n : Int} : n ∈ sort2 i j ↔ n = i ∨ n = j := by
  refine ⟨sort2_mem, fun h => ?_⟩
  unfold sort2
  split
  · rename_i e; rcases h with h | h <;> simp [h, e]
  · split
    · rcases h with h | h <;> simp [h]
    · rcases h with h | h <;> simp [h]
theorem beh_next {w : Str} {r : List D} {i : Int} {ns : List Int} (h : nextN w r i = some ns) (n : Int) : n ∈ behI w r i ↔ n ∈ ns := by
  unfold nextN at h
  unfold behI
  by_cases e1 : w = "back"
  · rw [if_pos e1] at h ⊢; cases h; simp
  rw [if_neg e1] at h ⊢
  by_cases e2 : w = "go"
  · rw [if_pos e2] at h ⊢
    split at h
    · cases h; simp
    · cases h
  rw [if_neg e2] at h ⊢
  by_cases e3 : w = "if" ∨ w = "ifnone" ∨ w = "same"
  · rw [if_pos e3] at h ⊢
    split at h
    · rename_i k el
      cases h
      first
        | (rw [el, sort2_iff]; simp; done)
        | (rw [sort2_iff]; simp; done)
    · cases h
  · rw [if_neg e3] at h ⊢; cases h; simp
theorem beh_len {w : Str} {r : List D} {i : Int} : (behI w r i).length ≤ 2 := by
  unfold behI
  split
  · simp
  · split
    · split <;> simp
    · simp only [List.length_cons]
      split
      · split <;> simp
      · simp
/-- what is found: places and homes -/
abbrev Hm := Str × Int
def hmD (h : Hm) : D := .tup [.str h.1, .int h.2]
def homesM : List Hm := [("bin", 0), ("bin", 1), ("bin", 2), ("bin", 3), ("peg", 0), ("peg", 1), ("peg", 2), ("peg", 3)]
theorem homes_M : homes8 = homesM.map hmD := rfl
theorem homesM_home {h : Hm} (hm : h ∈ homesM) : isHome (hmD h) = true := homes_all _ (by rw [homes_M]; exact List.mem_map_of_mem hm)
def liK (x : Pl × Hm) : NK := .tup [.num x.1.1, .num x.1.2, .tup [.text x.2.1, .num x.2.2]]
theorem liK_inj {a b : Pl × Hm} (h : liK a = liK b) : a = b := by
  obtain ⟨⟨a1, a2⟩, a3, a4⟩ := a
  obtain ⟨⟨b1, b2⟩, b3, b4⟩ := b
  simp only [liK, PySem.NestedKey.tup.injEq, List.cons.injEq, PySem.NestedKey.num.injEq, PySem.NestedKey.text.injEq, and_true] at h
  obtain ⟨rfl, rfl, rfl, rfl⟩ := h; rfl
theorem keyT_iih {e i k : Int} {s : Str} : keyT (.tup [.int e, .int i, .tup [.str s, .int k]]) = some (liK ((e, i), (s, k))) := rfl
def trG (F : List (Pl × Hm)) : List (NK × D) := F.map fun x => (liK x, .bl true)
theorem trG_val {F : List (Pl × Hm)} {x : Pl × Hm} : (valT (trG F) (liK x)).isSome = decide (x ∈ F) := by
  induction F with
  | nil => rfl
  | cons y F ih =>
    unfold trG valT
    rw [List.map_cons, List.find?_cons]
    by_cases e : liK y = liK x
    · rw [decide_eq_true e]
      have := liK_inj e
      subst this
      simp
    · rw [decide_eq_false e]
      have n : ¬ x = y := fun z => e (by rw [z])
      have e2 : decide (x ∈ y :: F) = decide (x ∈ F) := by simp [n]
      rw [e2]
      exact ih
theorem trG_put {F : List (Pl × Hm)} {x : Pl × Hm} : putT (trG F) (liK x) (.bl true) = trG (if x ∈ F then F else F ++ [x]) := by
  unfold putT
  rw [trG_val]
  by_cases h : x ∈ F
  · rw [decide_eq_true h, if_pos rfl, if_pos h]
    unfold trG
    rw [List.map_map]
    refine List.map_congr_left fun y hy => ?_
    show (if liK y = liK x then (liK y, D.bl true) else (liK y, D.bl true)) = _
    split <;> rfl
  · rw [decide_eq_false h, if_neg (by decide), if_neg h]
    simp [trG]
theorem trG_len {F : List (Pl × Hm)} : (trG F).length = F.length := List.length_map _
def callP (r : List D) : List Pl := match r with
  | .int k :: _ => [((k, 0) : Pl)]
  | _ => []
theorem goP_eq2 {ps : List D} {q : Pl} {w : Str} {r : List D} {ns : List Int} (el : lnI ps q = .tup (.str w :: r)) (en : nextN w r q.2 = some ns) (h : D) :
    goP ps q h = (if inP h (writesW w r) = true then [] else ns.map fun j => ((q.1, j) : Pl)) ++ (if w = "call" ∧ isPeg h = true then callP r else []) := goP_eq el en h
def isLv (ps : List D) (F : List (Pl × Hm)) (x : Pl × Hm) : Prop := hmD x.2 ∈ readsI ps x.1 ∨ ∃ q ∈ goP ps x.1 (hmD x.2), (q, x.2) ∈ F
theorem isLv.mono {ps : List D} {F F2 : List (Pl × Hm)} {x : Pl × Hm} (h : isLv ps F x) (s : ∀ y ∈ F, y ∈ F2) : isLv ps F2 x := by
  rcases h with h | ⟨q, h1, h2⟩
  · exact .inl h
  · exact .inr ⟨q, h1, s _ h2⟩
structure LvG (ps : List D) (F : List (Pl × Hm)) : Prop where
  nd : F.Nodup
  ok : ∀ x ∈ F, x.1 ∈ places ps ∧ x.2 ∈ homesM ∧ Live ps (hmD x.2) x.1
theorem LvG.len {ps : List D} {F : List (Pl × Hm)} (h : LvG ps F) (pl : (places ps).length ≤ 144) : F.length ≤ 1152 := by
  have := sub_lenG (a := F) (b := (places ps).flatMap fun q => homesM.map fun m => (q, m)) h.nd fun x hx => by
    obtain ⟨a, b, _⟩ := h.ok x hx
    exact List.mem_flatMap.mpr ⟨x.1, a, List.mem_map.mpr ⟨x.2, b, rfl⟩⟩
  refine Nat.le_trans this ?_
  rw [List.length_flatMap]
  have g : ∀ (l : List Pl), (l.map fun q => (homesM.map fun m => (q, m)).length).sum = 8 * l.length := by
    intro l
    induction l with
    | nil => rfl
    | cons a l ih => rw [List.map_cons, List.sum_cons, ih, List.length_map, List.length_cons]; show 8 + _ = _; omega
  rw [g]; omega
theorem LvG.put {ps : List D} {F : List (Pl × Hm)} (h : LvG ps F) {x : Pl × Hm} (h1 : x.1 ∈ places ps) (h2 : x.2 ∈ homesM) (lv : isLv ps F x) : LvG ps (if x ∈ F then F else F ++ [x]) := by
  have l : Live ps (hmD x.2) x.1 := by
    rcases lv with lv | ⟨q, g, m⟩
    · exact .here lv
    · exact .on g (h.ok _ m).2.2
  by_cases n : x ∈ F
  · rw [if_pos n]; exact h
  · rw [if_neg n]
    refine ⟨?_, fun y hy => ?_⟩
    · rw [List.nodup_append]
      exact ⟨h.nd, by simp, fun a ha b hb => by rw [List.mem_singleton.mp hb]; exact fun e => n (e ▸ ha)⟩
    · rcases List.mem_append.mp hy with hy | hy
      · exact h.ok y hy
      · rw [List.mem_singleton.mp hy]; exact ⟨h1, h2, l⟩
theorem put_sub {F : List (Pl × Hm)} {x : Pl × Hm} : (∀ y ∈ F, y ∈ (if x ∈ F then F else F ++ [x])) ∧ x ∈ (if x ∈ F then F else F ++ [x]) := by
  by_cases n : x ∈ F
  · rw [if_pos n]; exact ⟨fun _ h => h, n⟩
  · rw [if_neg n]; exact ⟨fun y h => by simp [h], by simp⟩
theorem put_len {F : List (Pl × Hm)} {x : Pl × Hm} : F.length ≤ (if x ∈ F then F else F ++ [x]).length := by split <;> simp
/-- what no round changes is all that is live -/
def ClG (ps : List D) (F : List (Pl × Hm)) : Prop := ∀ x : Pl × Hm, x.1 ∈ places ps → x.2 ∈ homesM → isLv ps F x → x ∈ F
theorem clG_all {ps : List D} {F : List (Pl × Hm)} (g : LvG ps F) (c : ClG ps F) (pr : Prog (.tup ps)) (x : Pl × Hm) : x ∈ F ↔ x.1 ∈ places ps ∧ x.2 ∈ homesM ∧ Live ps (hmD x.2) x.1 := by
  have key : ∀ (m : Hm), m ∈ homesM → ∀ q, Live ps (hmD m) q → q ∈ places ps → (q, m) ∈ F := by
    intro m h2 q h3
    induction h3 with
    | here e => exact fun hq => c (_, m) hq h2 (.inl e)
    | @on q q2 e t ih => exact fun hq => c (_, m) hq h2 (.inr ⟨q2, e, ih (go_in pr hq _ q2 e)⟩)
  exact ⟨g.ok x, fun h => key x.2 h.2.1 x.1 h.2.2 h.1⟩
theorem same_len {F F2 : List (Pl × Hm)} (nd : F.Nodup) (n2 : F2.Nodup) (s : ∀ x ∈ F, x ∈ F2) (l : F2.length ≤ F.length) : ∀ x ∈ F2, x ∈ F := by
  intro x hx
  apply Classical.byContradiction
  intro n
  have := sub_lenG (a := x :: F) (b := F2) (List.nodup_cons.mpr ⟨n, nd⟩) fun y hy => by
    rcases List.mem_cons.mp hy with rfl | hy
    · exact hx
    · exact s y hy
  simp only [List.length_cons] at this
  omega
open Classical in
theorem due_live {ps : List D} {F : List (Pl × Hm)} (h : ∀ x, x ∈ F ↔ x.1 ∈ places ps ∧ x.2 ∈ homesM ∧ Live ps (hmD x.2) x.1) {q : Pl} (hq : q ∈ places ps) : (homesM.filter fun m => decide ((q, m) ∈ F)).map hmD = liveL ps q := by
  unfold liveL
  rw [homes_M, List.filter_map]
  refine congrArg _ (List.filter_congr fun m hm => ?_)
  simp only [Function.comp]
  refine decide_eq_decide.mpr ?_
  rw [h]
  exact ⟨fun x => x.2.2, fun x => ⟨hq, hm, x⟩⟩
theorem liveL_ex {ps : List D} {q : Pl} : ∃ ms : List Hm, liveL ps q = ms.map hmD ∧ (∀ m ∈ ms, m ∈ homesM) ∧ ms.length ≤ 8 := by
  classical
  refine ⟨homesM.filter fun m => decide (Live ps (hmD m) q), ?_, fun m hm => (List.mem_filter.mp hm).1, List.length_filter_le _ _⟩
  unfold liveL
  rw [homes_M, List.filter_map]
  refine congrArg _ (List.filter_congr fun m hm => ?_)
  simp only [Function.comp]
open Classical in
/-- homes found among the first ones -/
noncomputable def liveT (ps : List D) (q : Pl) (i : Nat) : List D := (homes8.take i).filter fun h => decide (Live ps h q)
theorem liveT_succ {ps : List D} {q : Pl} {i : Nat} {h : D} (e : homes8[i]? = some h) : (Live ps h q → liveT ps q (i + 1) = liveT ps q i ++ [h]) ∧ (¬ Live ps h q → liveT ps q (i + 1) = liveT ps q i) := by
  have e2 : homes8.take (i + 1) = homes8.take i ++ [h] := by rw [List.take_succ, e]; rfl
  unfold liveT
  rw [e2, List.filter_append]
  exact ⟨fun l => by simp [l], fun l => by simp [l]⟩
theorem liveT_len {ps : List D} {q : Pl} {i : Nat} : (liveT ps q i).length ≤ 8 := by
  unfold liveT
  refine Nat.le_trans (List.length_filter_le _ _) ?_
  rw [List.length_take]
  exact Nat.min_le_right _ _
end VL
set_option maxHeartbeats 2000000
namespace VL
open PySem PySem.Spec L2
open PyProof.Rows hiding St
def fPeg (h : D) : List D := match h with
  | .tup [.str s, .int k] => if s = "peg" then [.int k] else []
  | _ => []
noncomputable def needsL (ps : List D) (d : Int) : List D := (liveL ps (d, 0)).flatMap fPeg
theorem pegs_ints (ms : List Hm) : (ms.map hmD).flatMap fPeg = ((ms.filter fun m => decide (m.1 = Str.ofString "peg")).map (·.2)).map D.int := by
  induction ms with
  | nil => rfl
  | cons m ms ih =>
    rw [List.map_cons, List.flatMap_cons, ih, List.filter_cons]
    simp only [fPeg, hmD]
    by_cases e : m.1 = "peg"
    · simp [e]
    · simp [e]
theorem needsL_ints (ps : List D) (d : Int) : ∃ ks : List Int, needsL ps d = ks.map D.int ∧ ks.length ≤ 8 ∧ ∀ k ∈ ks, 0 ≤ k ∧ k ≤ 3 := by
  obtain ⟨ms, e, hm, hl⟩ := liveL_ex (ps := ps) (q := (d, 0))
  unfold needsL
  rw [e, pegs_ints]
  refine ⟨_, rfl, ?_, fun k hk => ?_⟩
  · rw [List.length_map]; exact Nat.le_trans (List.length_filter_le _ _) hl
  · obtain ⟨m, h1, rfl⟩ := List.mem_map.mp hk
    have h2 := hm m (List.mem_filter.mp h1).1
    have : ∀ m ∈ homesM, 0 ≤ m.2 ∧ m.2 ≤ 3 := by decide +kernel
    exact this m h2
theorem ints_lay2 : ∀ ks : List Int, layL (ks.map D.int) = true ∧ depL (ks.map D.int) = 0
  | [] => ⟨rfl, rfl⟩
  | k :: ks => by
    obtain ⟨a, b⟩ := ints_lay2 ks
    simp only [List.map_cons, layL, layD, depL, dep, a, b, Bool.and_self, true_and]
    omega
/-- rows of few small numbers -/
theorem rows_ints : ∀ {rs : List (List D)}, (∀ r ∈ rs, ∃ ks : List Int, r = ks.map D.int ∧ ks.length ≤ 8 ∧ ∀ k ∈ ks, 0 ≤ k ∧ k ≤ 3) → (layL (rs.map D.lst) = true ∧ depL (rs.map D.lst) ≤ 1) ∧ smlL (rs.map D.lst) = true ∧ cntL (rs.map D.lst) ≤ 2000 * rs.length
  | [], _ => ⟨⟨rfl, Nat.zero_le _⟩, rfl, Nat.zero_le _⟩
  | r :: rs, h => by
    obtain ⟨⟨a, b⟩, c, d⟩ := rows_ints fun e he => h e (List.mem_cons_of_mem _ he)
    obtain ⟨ks, rfl, hl, hk⟩ := h r List.mem_cons_self
    obtain ⟨e, f⟩ := ints_lay2 ks
    obtain ⟨x, y, z⟩ := small_ints (ns := ks) fun i hi => by have := hk i hi; omega
    simp only [List.map_cons, layL, depL, layD, dep, smlL, sml, cntL, cnt, a, c, e, f, x, Bool.and_self, true_and, List.length_cons]
    omega
theorem rows_iok {S : Store} {rs : List (List D)} (h : ∀ r ∈ rs, ∃ ks : List Int, r = ks.map D.int ∧ ks.length ≤ 8 ∧ ∀ k ∈ ks, 0 ≤ k ∧ k ≤ 3) (hl : rs.length ≤ 100) : okq S (.lst (rs.map D.lst)) ∧ fitW (.lst (rs.map D.lst)) := by
  obtain ⟨⟨a, b⟩, c, d⟩ := rows_ints h
  exact ⟨okq_lay (by simpa only [layD] using a) (by simp only [dep]; omega), fitW_of (by simpa only [sml] using c) (by simp only [cnt]; omega) (by simp only [dep]; omega)⟩
structure RefL (S : Store) (B : Nat → Addr) (n : Nat) (L : Nat → List D) : Prop where
  at_ : ∀ j < n, S (B j) = some (.lst (L j))
  inj : ∀ j < n, ∀ j2 < n, B j = B j2 → j = j2
def refs (B : Nat → Addr) (n : Nat) : List D := (List.range n).map fun j => D.ref (B j)
def upB (B : Nat → Addr) (i : Nat) (p : Addr) : Nat → Addr := fun j => if j = i then p else B j
theorem refs_len {B : Nat → Addr} {n : Nat} : (refs B n).length = n := by simp [refs]
theorem refs_get {B : Nat → Addr} {n i : Nat} {d : D} (h : (refs B n)[i]? = some d) : i < n ∧ d = .ref (B i) := by
  have l := getE h
  rw [refs_len] at l
  unfold refs at h
  rw [List.getElem?_map, List.getElem?_range l] at h
  exact ⟨l, (Option.some.inj h).symm⟩
theorem refs_mem {B : Nat → Addr} {n : Nat} {d : D} (h : d ∈ refs B n) : ∃ j, j < n ∧ d = .ref (B j) := by
  obtain ⟨j, hj, rfl⟩ := List.mem_map.mp h
  exact ⟨j, List.mem_range.mp hj, rfl⟩
theorem refs_up {B : Nat → Addr} {i : Nat} {p : Addr} : refs B i ++ [.ref p] = refs (upB B i p) (i + 1) := by
  unfold refs
  rw [List.range_succ, List.map_append]
  refine congr (congrArg _ (List.map_congr_left fun j hj => ?_)) ?_
  · have := List.mem_range.mp hj
    show _ = D.ref (if j = i then p else B j)
    rw [if_neg (by omega)]
  · show _ = [D.ref (if i = i then p else B i)]
    rw [if_pos rfl]
theorem RefL.nil {S : Store} {B : Nat → Addr} {L : Nat → List D} : RefL S B 0 L := ⟨fun j hj => absurd hj (Nat.not_lt_zero j), fun j hj => absurd hj (Nat.not_lt_zero j)⟩
theorem RefL.up {S S2 : Store} {B : Nat → Addr} {i : Nat} {L : Nat → List D} {p : Addr} (h : RefL S B i L) (hp : S p = none) (k : ∀ c o, S c = some o → S2 c = some o) (e : S2 p = some (.lst (L i))) : RefL S2 (upB B i p) (i + 1) L := by
  have ne : ∀ j < i, B j ≠ p := fun j hj z => by have := h.at_ j hj; rw [z, hp] at this; cases this
  refine ⟨fun j hj => ?_, fun j hj j2 hj2 => ?_⟩
  · show S2 (if j = i then p else B j) = _
    by_cases z : j = i
    · rw [if_pos z, z]; exact e
    · rw [if_neg z]; exact k _ _ (h.at_ j (by omega))
  · show (if j = i then p else B j) = (if j2 = i then p else B j2) → _
    by_cases z : j = i <;> by_cases z2 : j2 = i
    · intro _; omega
    · rw [if_pos z, if_neg z2]; exact fun e => absurd e.symm (ne j2 (by omega))
    · rw [if_neg z, if_pos z2]; exact fun e => absurd e (ne j (by omega))
    · rw [if_neg z, if_neg z2]; exact h.inj j (by omega) j2 (by omega)
theorem RefL.keep {S S2 : Store} {B : Nat → Addr} {n : Nat} {L : Nat → List D} (h : RefL S B n L) (k : ∀ c o, S c = some o → S2 c = some o) : RefL S2 B n L := ⟨fun j hj => k _ _ (h.at_ j hj), h.inj⟩
theorem RefL.upd {S : Store} {B : Nat → Addr} {n : Nat} {L : Nat → List D} (h : RefL S B n L) {i : Nat} (hi : i < n) (l : List D) : RefL (supd S (B i) (.lst l)) B n (fun j => if j = i then l else L j) := by
  refine ⟨fun j hj => ?_, h.inj⟩
  show _ = some (SO.lst (if j = i then l else L j))
  by_cases e : j = i
  · subst e; rw [if_pos rfl, supd_same]
  · rw [if_neg e, supd_ne (fun z => e (h.inj j hj i hi z))]; exact h.at_ j hj
theorem RefL.rsd {S : Store} {B : Nat → Addr} {n : Nat} {L : Nat → List D} (h : RefL S B n L) : rsd S (.lst (refs B n)) = .lst (((List.range n).map L).map D.lst) := by
  unfold VL.rsd refs
  simp only
  rw [List.map_map, List.map_map]
  refine congrArg _ (List.map_congr_left fun j hj => ?_)
  show rsv S (.ref (B j)) = _
  simp only [rsv, h.at_ j (List.mem_range.mp hj)]
  rfl
theorem RefL.ty {S : Store} {B : Nat → Addr} {n : Nat} {L : Nat → List D} (h : RefL S B n L) {j : Nat} (hj : j < n) : tyn (.ref (B j)) S = "list" := by simp [tyn, h.at_ j hj]
theorem rsd_rows {S : Store} {rs : List (List D)} : rsd S (.lst (rs.map D.lst)) = .lst (rs.map D.lst) := by
  unfold VL.rsd
  simp only
  rw [List.map_map]
  exact congrArg _ (List.map_congr_left fun j hj => rfl)
def mReprR : CV := fun ds S Q => match ds with
  | [d] => fitW (rsd S d) ∧ Q (.str (pyd (rsd S d)).shown) S
  | _ => False
theorem mReprR_e {d : D} {S : Store} {Q : D → Store → Prop} : mReprR [d] S Q = (fitW (rsd S d) ∧ Q (.str (pyd (rsd S d)).shown) S) := rfl
theorem rpl_rsv {K : PySem.W.Frag} {G H : Hp} {S : Store} (vw : View K G S H) : ∀ (ds : List D) {vs : List V}, wholeL (ds.map (rsv S)) = true → RpL K G vs ds → RpL K H vs (ds.map (rsv S))
  | [], _, _, .nil => .nil
  | d :: ds, _, c, .cons h t => by
    simp only [List.map_cons, wholeL, Bool.and_eq_true] at c ⊢
    obtain ⟨G', g, r⟩ := rsv_rp vw c.1 h
    exact .cons (r.mono g) (rpl_rsv vw ds c.2 t)
theorem rsd_rp {K : PySem.W.Frag} {G H : Hp} {S : Store} {d : D} {v : V} (vw : View K G S H) (hw : whole (rsd S d) = true) (r : Rp K G v d) : ∃ G', Same G' H ∧ Rp K G' v (rsd S d) := by
  cases d with
  | lst ds =>
    cases r with
    | lst h l => exact ⟨H, Same.refl H, .lst (vw.gh _ _ h) (rpl_rsv vw ds (by simpa [rsd, whole] using hw) l)⟩
  | _ =>
    simp only [rsd] at hw ⊢
    exact rsv_rp vw hw r
section
variable {X : Cx}
theorem cv_reprR (hgd : X.A.guards = some []) (hu : X.A.units + 64 < cLine) : CallV X (.builtin "repr") mReprR := by
  refine ⟨fun vs H Q => ∃ d v G, vs = [v] ∧ Same G H ∧ Rp X.K G v d ∧ whole d = true ∧ (pyd d).showable = true ∧ (pyd d).depth ≤ 50 ∧ (pyd d).shown.length ≤ sizeLine ∧ Q (.str (pyd d).shown) H, ?_, ?_⟩
  · intro pins s σ H xs us Q I r h
    obtain ⟨d, v, G, rfl, g, rp, hw, h1, h3, h4, q⟩ := h
    obtain ⟨u, rfl, ru⟩ := vals1 r
    have top : ∀ a, v = .ref a → wpAny (model X.prog X.w) X.A (call (.builtin "repr") [u]) (EP X pins σ Q) X.xe s := fun a e => by
      subst e
      cases ru
      obtain ⟨T, idr, Sb⟩ := shown_by I g d hw h1 h4 rp
      exact call_repr_slot (by omega) (Sb.typeIs s fun _ _ e => e) Sb.slotRepr (Sb.call X.A.in1 X.xe s _ hgd (by show X.A.units + 1 + _ < cLine; omega) (fun _ _ e => e) fun h' u tk kk => ⟨_, _, rfl, .str _, H, I.kept kk, ⟨_, rfl⟩, q⟩)
    cases rp with
    | non => cases ru; exact PySem.P.repr_of_none ⟨.str _, H, I.tok _, ⟨_, rfl⟩, by simpa only [pyd, PyData.shown] using q⟩
    | bl b => cases ru; simp only [pyd, PyData.shown] at q; exact PySem.P.repr_of_bool ⟨.str _, H, I.tok _, ⟨_, rfl⟩, q⟩
    | int i => obtain ⟨t, rfl⟩ := ru; simp only [pyd, PyData.shown] at q; exact PySem.P.repr_of_int (by simpa [pyd, PyData.showable] using h1) ⟨.str _, H, I.tok _, ⟨_, rfl⟩, q⟩
    | str x => obtain ⟨t, rfl⟩ := ru; simp only [pyd, PyData.shown] at q h4; exact PySem.P.repr_of_str ⟨.str _, H, I.tok _, ⟨_, rfl⟩, q⟩ h4
    | ref a => simp [whole] at hw
    | tup h l => exact top _ rfl
    | lst h l => exact top _ rfl
    | ro h l => exact top _ rfl
    | dct h l => exact top _ rfl
  · intro ds vs G S H Q Q' vw rl h k
    unfold mReprR at h
    split at h
    · cases rl with
      | cons r t =>
        cases t
        obtain ⟨⟨h0, h1, h2, h3⟩, q⟩ := h
        obtain ⟨G', g', r'⟩ := rsd_rp vw h0 r
        exact ⟨_, _, G', rfl, g', r', h0, h1, h2, h3, k _ S _ H G (Aft.refl vw) (.str _) q⟩
    · exact h.elim
end
end VL
set_option maxHeartbeats 4000000
namespace VL
open PySem PySem.Spec L2
open PyProof.Rows hiding St
end VL
set_option maxHeartbeats 4000000
namespace VL
open PySem PySem.Spec L2
open PyProof.Rows hiding St
/-- a method of a class, and what stands by name -/
structure HasMD (K : PySem.W.Frag) (mg : Str → Option Value) (c m qual : Str) (st : Stmt) (dms : List (Str × D)) : Prop where
  ex : ∃ C f fd, mg c = some (.ref C) ∧ Cls K C ∧ Meth K C m f ∧ Fun K m qual st f fd ∧ KwD K fd.kwdefaults dms
structure HasID (K : PySem.W.Frag) (mg : Str → Option Value) (c qual : Str) (st : Stmt) (dms : List (Str × D)) : Prop where
  ex : ∃ C f fd, mg c = some (.ref C) ∧ Mk K C f ∧ Fun K "__init__" qual st f fd ∧ KwD K fd.kwdefaults dms
theorem HasMD.has {K : PySem.W.Frag} {mg : Str → Option Value} {c m qual : Str} {st : Stmt} {dms : List (Str × D)} (h : HasMD K mg c m qual st dms) : HasM K mg c m qual st := let ⟨C, f, fd, a, b, d, e, _⟩ := h.ex; ⟨C, f, fd, a, b, d, e⟩
theorem HasID.has {K : PySem.W.Frag} {mg : Str → Option Value} {c qual : Str} {st : Stmt} {dms : List (Str × D)} (h : HasID K mg c qual st dms) : HasI K mg c qual st := let ⟨C, f, fd, a, b, d, _⟩ := h.ex; ⟨C, f, fd, a, b, d⟩
theorem Mk.uniq {K : PySem.W.Frag} {C f g : Addr} (a : Mk K C f) (b : Mk K C g) : g = f := by
  have h := a.init.symm.trans b.init
  injection h with h
  injection h with h
  injection h with h
  exact h.symm
theorem KwD.none {K : PySem.W.Frag} {kV : Value} {dms : List (Str × D)} (h : KwD K kV dms) : KwD K kV [] := let ⟨kd, e, _⟩ := h; ⟨kd, e, [], [], fun z hz => by simp at hz, .nil, fun G => .nil⟩
theorem HasMD.none {K : PySem.W.Frag} {mg : Str → Option Value} {c m qual : Str} {st : Stmt} {dms : List (Str × D)} (h : HasMD K mg c m qual st dms) : HasMD K mg c m qual st [] := let ⟨C, f, fd, a, b, d, e, k⟩ := h.ex; ⟨C, f, fd, a, b, d, e, k.none⟩
theorem HasID.none {K : PySem.W.Frag} {mg : Str → Option Value} {c qual : Str} {st : Stmt} {dms : List (Str × D)} (h : HasID K mg c qual st dms) : HasID K mg c qual st [] := let ⟨C, f, fd, a, b, d, k⟩ := h.ex; ⟨C, f, fd, a, b, d, k.none⟩
end VL
set_option maxHeartbeats 2000000
namespace VL
open PySem PySem.Spec L2
open PyProof.Rows hiding St
structure FrS where
  d : Int
  at_ : Int
  bins : List Int
  kept : List (Int × Int)
  deriving Inhabited
structure BxS where
  ns : List Int
  ws : List Int
  deriving Inhabited
structure RnS where
  words : List Int
  frames : List FrS
  boxes : List BxS
  told : List Int
  steps : Int
  fallen : Str
def keptD (l : List (Int × Int)) : List (Key × D) := l.map fun p => ((Sum.inl p.1 : Key), D.int p.2)
/-- a dict from 1 on -/
def rowN (n : Nat) (g : Nat → D) : List (Key × D) := (List.range n).map fun (j : Nat) => ((Sum.inl ((j : Int) + 1) : Key), g j)
inductive Role where
  | self | words | frames | boxes | nums | wrds | told | frm (i : Nat) | bin (i : Nat) | bxn (j : Nat) | bxw (j : Nat)
  deriving DecidableEq
def RnS.has (x : RnS) : Role → Prop
  | .frm i => i < x.frames.length | .bin i => i < x.frames.length | .bxn j => j < x.boxes.length | .bxw j => j < x.boxes.length
  | _ => True
def intsD (l : List Int) : List D := l.map D.int
def RnS.cell (mg : Str → Option Value) (ps : List D) (x : RnS) (A : Role → Addr) : Role → SO
  | .self => .ins (clsA mg "Run") (fl_Run (.tup ps) (.ref (A .words)) (.ref (A .frames)) (.ref (A .boxes)) (.ref (A .told)) (.int x.steps) (.str x.fallen))
  | .words => .lst (intsD x.words)
  | .frames => .lst ((List.range x.frames.length).map fun i => D.ref (A (.frm i)))
  | .boxes => .ins (clsA mg "Boxes") (fl_Boxes (.ref (A .nums)) (.ref (A .wrds)))
  | .nums => .dct (rowN x.boxes.length fun j => .ref (A (.bxn j)))
  | .wrds => .dct (rowN x.boxes.length fun j => .ref (A (.bxw j)))
  | .told => .lst (intsD x.told)
  | .frm i => .ins (clsA mg "Frame") (fl_Frame (.int (x.frames.getD i default).d) (.int (x.frames.getD i default).at_) (.ref (A (.bin i))) (.dct (keptD (x.frames.getD i default).kept)))
  | .bin i => .lst (intsD (x.frames.getD i default).bins)
  | .bxn j => .lst (intsD (x.boxes.getD j default).ns)
  | .bxw j => .lst (intsD (x.boxes.getD j default).ws)
structure RunAt (mg : Str → Option Value) (S : Store) (ps : List D) (x : RnS) (A : Role → Addr) : Prop where
  at_ : ∀ ρ, x.has ρ → S (A ρ) = some (x.cell mg ps A ρ)
  inj : ∀ ρ1 ρ2, x.has ρ1 → x.has ρ2 → A ρ1 = A ρ2 → ρ1 = ρ2
def Own (x : RnS) (A : Role → Addr) (b : Addr) : Prop := ∃ ρ, x.has ρ ∧ A ρ = b
/-- what is not the run's own stays, and what it takes is new -/
structure Frm (S : Store) (x : RnS) (A : Role → Addr) (S' : Store) (x' : RnS) (A' : Role → Addr) : Prop where
  keep : ∀ b o, S b = some o → ¬ Own x A b → S' b = some o
  own : ∀ b, Own x' A' b → Own x A b ∨ S b = none
  self : A' .self = A .self
section
variable {mg : Str → Option Value} {S S' S2 : Store} {ps : List D} {x x' x2 : RnS} {A A' A2 : Role → Addr}
theorem Frm.refl : Frm S x A S x A := ⟨fun _ _ h _ => h, fun _ h => .inl h, rfl⟩
theorem Frm.trans (f : Frm S x A S' x' A') (g : Frm S' x' A' S2 x2 A2) : Frm S x A S2 x2 A2 := by
  refine ⟨fun b o e n => g.keep b o (f.keep b o e n) fun h => ?_, fun b h => ?_, g.self.trans f.self⟩
  · rcases f.own b h with h | h
    · exact n h
    · rw [e] at h; cases h
  · rcases g.own b h with h | h
    · exact f.own b h
    · by_cases n : Own x A b
      · exact .inl n
      · right
        cases e : S b with
        | none => rfl
        | some o => rw [f.keep b o e n] at h; cases h
theorem RunAt.tl (R : RunAt mg S ps x A) : S (A .told) = some (.lst (intsD x.told)) := R.at_ .told trivial
def refsF (A : Role → Addr) (n : Nat) : List D := (List.range n).map fun i => D.ref (A (.frm i))
theorem RunAt.fr (R : RunAt mg S ps x A) : S (A .frames) = some (.lst (refsF A x.frames.length)) := R.at_ .frames trivial
theorem RunAt.frm (R : RunAt mg S ps x A) {i : Nat} {f : FrS} (h : x.frames[i]? = some f) : S (A (.frm i)) = some (.ins (clsA mg "Frame") (fl_Frame (.int f.d) (.int f.at_) (.ref (A (.bin i))) (.dct (keptD f.kept)))) ∧ S (A (.bin i)) = some (.lst (intsD f.bins)) := by
  have hi := getE h
  have e : x.frames.getD i default = f := by rw [List.getD_eq_getElem?_getD, h]; rfl
  have h1 := R.at_ (.frm i) hi
  have h2 := R.at_ (.bin i) hi
  simp only [RnS.cell, e] at h1 h2
  exact ⟨h1, h2⟩
end
end VL
namespace Lw
open PySem L2 VL
open PyProof.Rows hiding St
set_option maxHeartbeats 4000000
def top (i : Nat) : Stmt := PySem.Challenge.pw_livepoints_k43_needs_through_rings.main.body.getD i (.Pass ⟨0, 0, 0, 0⟩)
local macro_rules | `(tactic| walk_at "VX") => `(tactic| simp -implicitDefEqProofs only [mReprR_e, ↓rT_e, ↓bDictT_e, ↓mKeysT_e, ↓mRngR_e, mLenT0_e, ↓mFrz_e, pickAt_5, gone_nx, gone_rt, gone_bk, gone_ct, cx_w, ↓gSetT_e, ↓mDictT0_e, mTIn_e, mTGet_e, rdT_supd, okT_supd, keyT_ii, keyT_iis, keyT_ih, ↓mRev_e, mInt_i, mInt_b, ↓mPar_e, ↓mDctC_e, ↓mDvmW_e, ↓mExt_e, ↓mPop_e, rdL_lst, ↓mCallK_e, pickAt_nil, pickAt_0, pickAt_1, pickAt_2, pickAt_3, pickAt_4, List.append_eq, ↓mInD_l, ↓mSortS_e, ↓bSet_e, ↓mMulA_i, ↓mMulA_t, ↓mMulA_l, ↓mComp_e, ↓bNest_e, ↓bList_e, ↓mEnu_e, ↓mDGet1_e, ↓mJoin_e, rdW_tup, rdW_lst, rdW_str, mEqT0_e, ↓mKSub_e, ↓mKIn_e, ↓mSlc_e, ↓mNoP_e, ↓mPart_e, ↓mZip_e, ↓mStar_e, ↓mMix_e, ↓gsNil_e, ↓gsCons_e, ↓gNm_e, tyn_supd, ↓mDictS_e, ↓mVals_n, ↓mVals_c, keyD_int, keyD_str, ↓mDSub_e, ↓mSgn_e, ↓mSort2_e, rdD_dct, ↓rFrz_e, ↓rMut_e, mCT_1, mCT_m, setAll_c, setAll_n, wipeD_n, wipeD_c, ↓mVar_e, ↓mC_e, ↓mOp_e, ↓mNum_e, ↓mInt0_e, ↓mAdd_e, ↓mMul_e, ↓mEq_e, ↓mNe_e, ↓mEqS_e, ↓mIx_e, ↓mNil_e, ↓mCons_e, ↓mTup_e, ↓mLst_e, ↓mLstM_e, ↓mTest_e, ↓mNot_e, ↓mAnd_e, ↓mOr_e, ↓mAndV_e, ↓mOrV_e, ↓mNotV_e, ↓mChain_e, ↓mCB_e, ↓mLen_e, ↓mInt1_e, ↓mInt2_e, ↓mBls_e, ↓mTupOf_e, ↓mIsi_e, ↓mCall_e, ↓mNx_e, ↓mSeq_e, ↓mDrop_e, ↓mRet_e, ↓mIf_e, ↓mAsg_e, ↓mSet_e, ↓mUnp_e, ↓gSetIx_e, ↓mSq_e, ↓mRng1_e, ↓mYes_e, ↓mApp_e, ↓mIn_e, ↓mNeg_e, ↓on_nx, ↓on_rt, ↓on_bk, ↓on_ct, ↓lo_nx, ↓lo_rt, ↓lo_bk, ↓lo_ct, ↓reduceIte, Nat.reduceMul, sizeT, Nat.reduceLeDiff, mergeD, List.foldl_cons, List.foldl_nil, putD, keysD, keyD, List.any_nil, gv, startD, List.map_cons, List.map_nil, List.length_cons, List.length_nil, List.cons_append, List.nil_append, List.replicate_succ, List.replicate_zero, Nat.reduceAdd, Nat.reduceSub, List.set_cons_zero, List.set_cons_succ, if_true, if_false, Bool.false_eq_true, atI_0, atI_1, atI_2, atI_3, atI_4, and_true, true_and, ne_eq, not_true_eq_false, not_false_eq_true, isT, String.reduceEq, decide_true, decide_false, Bool.or_false, Bool.false_or, Bool.true_or, Bool.or_true, Bool.and_false, Bool.false_and, Bool.and_true, Bool.true_and, Bool.not_true, Bool.not_false, tyn_non, tyn_bl, tyn_int, tyn_str, tyn_tup, tyn_lst, tyn_ro, tyn_dct, noRef_non, noRef_bl, noRef_int, noRef_str, noRef_tup, noRef_lst, noRef_dct, isS_non, isS_bl, isS_int, isS_str, isS_tup, isS_lst, isS_ro, isS_dct, noRef_ro, ixN20, ixN21, rdS_supd, rdL_supd, rdR_supd, supd_same, supd_supd, cast0, cast1, cast2, cast3, cast4, cast5, rdL_lst, rdL_tup, rdL_int, rdR_lst, rdR_ro, rdS_tup, rdS_lst, rdS_ro, okq_non, okq_bl, okq_int, okq_str, eqq_int, eqq_bl, eqq_str, Int.reduceEq, Int.reduceLT, Int.reduceLE, Int.reduceAdd, Int.reduceSub, Int.reduceMul, Int.reduceNeg, Int.reducePow, Int.reduceToNat, Int.reduceMod])
local macro_rules | `(tactic| simp?! only [$ls,*]) => `(tactic| simp -implicitDefEqProofs only [mReprR_e, ↓rT_e, ↓bDictT_e, ↓mKeysT_e, ↓mRngR_e, mLenT0_e, ↓mFrz_e, pickAt_5, gone_nx, gone_rt, gone_bk, gone_ct, cx_w, ↓gSetT_e, ↓mDictT0_e, mTIn_e, mTGet_e, rdT_supd, okT_supd, keyT_ii, keyT_iis, keyT_ih, ↓mRev_e, mInt_i, mInt_b, ↓mPar_e, ↓mDctC_e, ↓mDvmW_e, ↓mExt_e, ↓mPop_e, rdL_lst, ↓mCallK_e, pickAt_nil, pickAt_0, pickAt_1, pickAt_2, pickAt_3, pickAt_4, List.append_eq, ↓mInD_l, ↓mSortS_e, ↓bSet_e, ↓mMulA_i, ↓mMulA_t, ↓mMulA_l, ↓mComp_e, ↓bNest_e, ↓bList_e, ↓mEnu_e, ↓mDGet1_e, ↓mJoin_e, rdW_tup, rdW_lst, rdW_str, mEqT0_e, ↓mKSub_e, ↓mKIn_e, ↓mSlc_e, ↓mNoP_e, ↓mPart_e, ↓mZip_e, ↓mStar_e, ↓mMix_e, ↓gsNil_e, ↓gsCons_e, ↓gNm_e, tyn_supd, ↓mDictS_e, ↓mVals_n, ↓mVals_c, keyD_int, keyD_str, ↓mDSub_e, ↓mSgn_e, ↓mSort2_e, rdD_dct, ↓rFrz_e, ↓rMut_e, mCT_1, mCT_m, setAll_c, setAll_n, wipeD_n, wipeD_c, ↓mVar_e, ↓mC_e, ↓mOp_e, ↓mNum_e, ↓mInt0_e, ↓mAdd_e, ↓mMul_e, ↓mEq_e, ↓mNe_e, ↓mEqS_e, ↓mIx_e, ↓mNil_e, ↓mCons_e, ↓mTup_e, ↓mLst_e, ↓mLstM_e, ↓mTest_e, ↓mNot_e, ↓mAnd_e, ↓mOr_e, ↓mAndV_e, ↓mOrV_e, ↓mNotV_e, ↓mChain_e, ↓mCB_e, ↓mLen_e, ↓mInt1_e, ↓mInt2_e, ↓mBls_e, ↓mTupOf_e, ↓mIsi_e, ↓mCall_e, ↓mNx_e, ↓mSeq_e, ↓mDrop_e, ↓mRet_e, ↓mIf_e, ↓mAsg_e, ↓mSet_e, ↓mUnp_e, ↓gSetIx_e, ↓mSq_e, ↓mRng1_e, ↓mYes_e, ↓mApp_e, ↓mIn_e, ↓mNeg_e, ↓on_nx, ↓on_rt, ↓on_bk, ↓on_ct, ↓lo_nx, ↓lo_rt, ↓lo_bk, ↓lo_ct, ↓reduceIte, Nat.reduceMul, sizeT, Nat.reduceLeDiff, mergeD, List.foldl_cons, List.foldl_nil, putD, keysD, keyD, List.any_nil, gv, startD, List.map_cons, List.map_nil, List.length_cons, List.length_nil, List.cons_append, List.nil_append, List.replicate_succ, List.replicate_zero, Nat.reduceAdd, Nat.reduceSub, List.set_cons_zero, List.set_cons_succ, if_true, if_false, Bool.false_eq_true, atI_0, atI_1, atI_2, atI_3, atI_4, and_true, true_and, ne_eq, not_true_eq_false, not_false_eq_true, isT, String.reduceEq, decide_true, decide_false, Bool.or_false, Bool.false_or, Bool.true_or, Bool.or_true, Bool.and_false, Bool.false_and, Bool.and_true, Bool.true_and, Bool.not_true, Bool.not_false, tyn_non, tyn_bl, tyn_int, tyn_str, tyn_tup, tyn_lst, tyn_ro, tyn_dct, noRef_non, noRef_bl, noRef_int, noRef_str, noRef_tup, noRef_lst, noRef_dct, isS_non, isS_bl, isS_int, isS_str, isS_tup, isS_lst, isS_ro, isS_dct, noRef_ro, ixN20, ixN21, rdS_supd, rdL_supd, rdR_supd, supd_same, supd_supd, cast0, cast1, cast2, cast3, cast4, cast5, rdL_lst, rdL_tup, rdL_int, rdR_lst, rdR_ro, rdS_tup, rdS_lst, rdS_ro, okq_non, okq_bl, okq_int, okq_str, eqq_int, eqq_bl, eqq_str, Int.reduceEq, Int.reduceLT, Int.reduceLE, Int.reduceAdd, Int.reduceSub, Int.reduceMul, Int.reduceNeg, Int.reducePow, Int.reduceToNat, Int.reduceMod, $ls,*])
local macro_rules | `(tactic| simp_all?! only [$ls,*]) => `(tactic| simp only [List.all_cons, List.all_nil, smb, sml, smlL, smlK, smlKey, VL.cnt, cntL, cntK, cntKey, dep, depL, depK, Nat.reduceAdd, Nat.reduceLeDiff, decide_true, Bool.and_true, Bool.true_and, $ls,*])
local macro_rules | `(tactic| walk_at "SM") => `(tactic| simp only [List.all_cons, List.all_nil, smb, sml, smlL, smlK, smlKey, VL.cnt, cntL, cntK, cntKey, dep, depL, depK, Nat.reduceAdd, Nat.reduceLeDiff, decide_true, Bool.and_true, Bool.true_and])
/-- what the top has left -/
structure Tx (K : PySem.W.Frag) (w : World) (mg : Str → Option Value) : Prop where
  f_law_pot : Has K mg "_law_pot" (top 57)
  f_law_draw : Has K mg "_law_draw" (top 58)
  f_law_homes : Has K mg "_law_homes" (top 64)
  f_law_words : Has K mg "_law_words" (top 61)
  f_law_number : Has K mg "_law_number" (top 59)
  f_law_part : Has K mg "_law_part" (top 62)
  f_law_parts : Has K mg "_law_parts" (top 60)
  f_law_line : Has K mg "_law_line" (top 63)
  f_law_def : Has K mg "_law_def" (top 65)
  f_law_code : Has K mg "_law_code" (top 66)
  f_law_all_homes : Has K mg "_law_all_homes" (top 70)
  f_law_asks : Has K mg "_law_asks" (top 68)
  f_law_makes : Has K mg "_law_makes" (top 69)
  f_law_behind : Has K mg "_law_behind" (top 67)
  f_law_is_live : Has K mg "_law_is_live" (top 71)
  f_law_round : Has K mg "_law_round" (top 72)
  f_law_live : Has K mg "_law_live" (top 73)
  f_parts_of : Has K mg "parts_of" (top 24)
  f_are_signs : Has K mg "are_signs" (top 32)
  f_is_whole : Has K mg "is_whole" (top 7)
  f_is_within : Has K mg "is_within" (top 8)
  f_are_keeps : Has K mg "are_keeps" (top 33)
  f_is_home : Has K mg "is_home" (top 9)
  f_is_part : Has K mg "is_part" (top 22)
  f_is_line : Has K mg "is_line" (top 23)
  f_are_lines : Has K mg "are_lines" (top 34)
  f_next_lines : Has K mg "next_lines" (top 27)
  f_stays_within : Has K mg "stays_within" (top 35)
  f_writes : Has K mg "writes" (top 26)
  f_has_own_homes : Has K mg "has_own_homes" (top 36)
  f_is_def : Has K mg "is_def" (top 37)
  f_is_program : Has K mg "is_program" (top 38)
  f_want_program : Has K mg "want_program" (top 41)
  f_is_below : Has K mg "is_below" (top 40)
  f_want_def : Has K mg "want_def" (top 42)
  f_all_homes : Has K mg "all_homes" (top 47)
  f_lines_of : Has K mg "lines_of" (top 43)
  f_all_places : Has K mg "all_places" (top 48)
  f_line_at : Has K mg "line_at" (top 49)
  f_goes_on_to : Has K mg "goes_on_to" (top 51)
  f_comes_from : Has K mg "comes_from" (top 52)
  f_reads : Has K mg "reads" (top 25)
  f_reads_at : Has K mg "reads_at" (top 50)
  f_live_places : Has K mg "live_places" (top 53)
  f_all_live : Has K mg "all_live" (top 54)
  f_needs : Has K mg "needs" (top 55)
  f_law_due : Has K mg "_law_due" (top 74)
  f_law_right : Has K mg "_law_right" (top 75)
  f_law : Has K mg "law" (top 76)
  b_abs : mg "abs" = none
  b_all : mg "all" = none
  b_any : mg "any" = none
  b_bool : mg "bool" = none
  b_divmod : mg "divmod" = none
  b_enumerate : mg "enumerate" = none
  b_int : mg "int" = none
  b_isinstance : mg "isinstance" = none
  b_len : mg "len" = none
  b_list : mg "list" = none
  b_max : mg "max" = none
  b_range : mg "range" = none
  b_repr : mg "repr" = none
  b_reversed : mg "reversed" = none
  b_sorted : mg "sorted" = none
  b_str : mg "str" = none
  b_tuple : mg "tuple" = none
  b_zip : mg "zip" = none
  c_BINS : ∃ t, mg "BINS" = some (.int 4 t)
  c_CALLED : ∃ t, mg "CALLED" = some (.str "called" t)
  c_CHOOSING : ∃ a, mg "CHOOSING" = some (.ref a) ∧ ∀ G, Rp K G (.ref a) (.tup [(.str "if"), (.str "ifnone"), (.str "same")])
  c_FEW : ∃ t, mg "FEW" = some (.str "few" t)
  c_FIELD : ∃ t, mg "FIELD" = some (.str "field" t)
  c_GIVEN : ∃ a, mg "GIVEN" = some (.ref a) ∧ ∀ G, Rp K G (.ref a) (.tup [(.str "peg"), (.int (0))])
  c_GOAL : ∃ t, mg "GOAL" = some (.str "goal" t)
  c_LAST_FIELD : ∃ t, mg "LAST_FIELD" = some (.int 2 t)
  c_MOST_DEFS : ∃ t, mg "MOST_DEFS" = some (.int 6 t)
  c_MOST_LINES : ∃ t, mg "MOST_LINES" = some (.int 24 t)
  c_MOST_OF_A_BOX : ∃ t, mg "MOST_OF_A_BOX" = some (.int 3 t)
  c_NUMBER : ∃ t, mg "NUMBER" = some (.str "number" t)
  c_PARTS : KD K w mg "PARTS" [("put", (.tup [(.str "written"), (.str "number")])), ("none", (.tup [(.str "written")])), ("copy", (.tup [(.str "written"), (.str "read")])), ("add", (.tup [(.str "written"), (.str "read"), (.str "read")])), ("less", (.tup [(.str "written"), (.str "read"), (.str "read")])), ("new", (.tup [(.str "written"), (.str "few"), (.str "few")])), ("getn", (.tup [(.str "written"), (.str "read"), (.str "field")])), ("setn", (.tup [(.str "read"), (.str "field"), (.str "read")])), ("getb", (.tup [(.str "written"), (.str "read"), (.str "field")])), ("setb", (.tup [(.str "read"), (.str "field"), (.str "read")])), ("tell", (.tup [(.str "read")])), ("go", (.tup [(.str "goal")])), ("if", (.tup [(.str "read"), (.str "goal")])), ("ifnone", (.tup [(.str "read"), (.str "goal")])), ("same", (.tup [(.str "read"), (.str "read"), (.str "goal")])), ("call", (.tup [(.str "called")])), ("back", (.tup [])), ("rest", (.tup []))]
  c_PEGS : ∃ t, mg "PEGS" = some (.int 4 t)
  c_READ : ∃ t, mg "READ" = some (.str "read" t)
  c_SIGNS : ∃ t, mg "SIGNS" = some (.str "nb-" t)
  c_WHATEVER : ∃ t, mg "WHATEVER" = some (.str "-" t)
  c_WRITTEN : ∃ t, mg "WRITTEN" = some (.str "written" t)
section
variable {P : Program} {w : World} {K : PySem.W.Frag} {mg : Str → Option Value} {base : Heap}
abbrev s_law_pot : Stmt := top 57
abbrev n_law_pot : List Str := ["_law_script", "_law_k", "_law_cell"]
theorem sc_law_pot : FnScope n_law_pot ["_law_script", "_law_k"] (defScope s_law_pot) := ⟨rfl, rfl, rfl, by decide +kernel, rfl, by decide +kernel, by decide +kernel⟩
def sp_law_pot : VSp := fun ds S Q => match ds with
  | [.ro ds, .int k] => (∃ ns : List Int, ds = ns.map D.int) ∧ 0 ≤ k ∧ k < 64 ∧ ∀ (p : Addr) (S' : Store), S p = none → Pot S' p → But p S S' → Q (.ref p) S'
  | _ => False
theorem ok_law_pot (T : Tx K w mg) : DefV P w K mg base 1 "_law_pot" ["_law_script", "_law_k"] sp_law_pot := by
  refine DefV.mk' T.f_law_pot sc_law_pot (fun _ _ _ _ _ _ us hl => match us, hl with | [_, _], _ => rfl) (fun f cdv A outer s H E hgd hr hcd => ⟨_, (s_cons (s_set 2 sc_law_pot.nd rfl (by first | exact Or.inl rfl | exact Or.inr rfl) (v_op ov_add (v_op ov_mulL (v_var 1) v_int) v_int))
      (s_cons (s_if (t_cmp ov_lt (v_var 1) (v_callB cv_len rfl T.b_len (by decide +kernel) (a_cons (v_var 0) a_nil))) (s_one (s_set 2 sc_law_pot.nd rfl (by first | exact Or.inl rfl | exact Or.inr rfl) (v_sub (v_var 0) (v_var 1)))) s_nil)
      (s_one (s_ret (v_lstM (a_cons (v_callB (cv_max2 rfl) rfl T.b_max (by decide +kernel) (a_cons v_int (a_cons (v_op ov_sub (v_callB cv_abs rfl T.b_abs (by decide +kernel) (a_cons (v_var 2) a_nil)) (v_op ov_pow v_int v_int)) a_nil))) (a_cons (v_op ov_add (v_op ov_mod (v_callB cv_abs rfl T.b_abs (by decide +kernel) (a_cons (v_var 2) a_nil)) v_int) v_int) a_nil))))))), ?_⟩)
  intro ds S Q hl h
  unfold sp_law_pot at h
  split at h
  · rename_i ds k
    obtain ⟨⟨ns, rfl⟩, h0, h1, kk⟩ := h
    walk_at "VX"
    have main : ∀ i : Int, CPow 10 18 ∧ ∀ a, S a = none → VL.Fin Q (D.ref a) (supd S a (SO.lst [D.int (if (if i < 0 then -i else i) - 1000000000000000000 > 0 then (if i < 0 then -i else i) - 1000000000000000000 else 0), D.int ((if i < 0 then -i else i) % 2147483629 + 1)])) := by
      intro i
      refine ⟨cpow10 (by decide) (by decide), fun a ha => fin_same (kk a _ ha (Pot.mk' (by split <;> omega) ?_ ?_) But.supd)⟩
      · have := Int.emod_nonneg (if i < 0 then -i else i) (show (2147483629 : Int) ≠ 0 by decide); omega
      · have := Int.emod_lt_of_pos (if i < 0 then -i else i) (show (0 : Int) < 2147483629 by decide)
        omega
    refine ⟨cmul_r (by omega) (by omega), ?_⟩
    by_cases hk : k < (ns.length : Int)
    · obtain ⟨n, en⟩ := atI_ints h0 hk
      rw [if_pos (by simpa using hk), en]
      exact ⟨(main n).1, (main n).2⟩
    · rw [if_neg (by simpa using hk)]
      have := main (k * 7919 + 3)
      exact ⟨this.1, this.2⟩
  · exact h.elim
abbrev s_law_draw : Stmt := top 58
abbrev n_law_draw : List Str := ["_law_pot_here", "_law_many", "_law_digit"]
theorem sc_law_draw : FnScope n_law_draw ["_law_pot_here", "_law_many"] (defScope s_law_draw) := ⟨rfl, rfl, rfl, by decide +kernel, rfl, by decide +kernel, by decide +kernel⟩
def sp_law_draw : VSp := fun ds S Q => match ds with
  | [.ref p, .int m] => Pot S p ∧ 0 < m ∧ m.natAbs.log2 < 9000 ∧ ∀ (r : Int) (S' : Store), 0 ≤ r → r < m → Pot S' p → But p S S' → Q (.int r) S'
  | _ => False
theorem ok_law_draw (T : Tx K w mg) : DefV P w K mg base 1 "_law_draw" ["_law_pot_here", "_law_many"] sp_law_draw := by
  refine DefV.mk' T.f_law_draw sc_law_draw (fun _ _ _ _ _ _ us hl => match us, hl with | [_, _], _ => rfl) (fun f cdv A outer s H E hgd hr hcd => ⟨_, (s_cons (s_if (t_cmp ov_gt (v_sub (v_var 0) v_int) v_int) (s_cons (s_mix (n := 2) rfl (v_callB cv_divmodW rfl T.b_divmod (by decide +kernel) (a_cons (v_sub (v_var 0) v_int) (a_cons (v_var 1) a_nil))) (gs_cons (g_setix (v_var 0) v_int (pg_sub (v_var 0) v_int set_list)) (gs_cons (g_nm (pg_name (i := 2) sc_law_draw.nd rfl (by first | exact Or.inl rfl | exact Or.inr rfl))) gs_nil)))
      (s_one (s_ret (v_var 2)))) s_nil)
      (s_cons (s_asg (v_op ov_mod (v_op ov_add (v_op ov_mulL (v_sub (v_var 0) v_int) v_int) v_int) v_int) (g_setix (v_var 0) v_int (pg_sub (v_var 0) v_int set_list)))
      (s_one (s_ret (v_op ov_mod (v_op ov_fdiv (v_op ov_mod (v_op ov_mulL (v_sub (v_var 0) v_int) (v_sub (v_var 0) v_int)) v_int) v_int) (v_var 1)))))), ?_⟩)
  intro ds S Q hl h
  unfold sp_law_draw at h
  split at h
  · rename_i p m
    obtain ⟨⟨a, b, e, ha, hb, hb2⟩, hm, hm2, k⟩ := h
    simp?! only [rdS_ref e, e]
    by_cases h0 : 0 < a
    · rw [if_pos (decide_eq_true h0)]
      refine ⟨⟨hm, hm2⟩, fin_same (k _ _ (Int.emod_nonneg _ (by omega)) (Int.emod_lt_of_pos _ hm) (Pot.mk' (Int.ediv_nonneg ha (by omega)) hb hb2) But.supd)⟩
    · rw [if_neg (by simpa using h0)]
      have c0 : 0 ≤ (b * 39373 + 17) % 2147483647 := Int.emod_nonneg _ (by decide)
      have c1 : (b * 39373 + 17) % 2147483647 < 2147483647 := Int.emod_lt_of_pos _ (by decide)
      generalize (b * 39373 + 17) % 2147483647 = c at c0 c1
      refine ⟨cmul_r (by decide) (by decide), ?_⟩
      exact ⟨cmul_l (by omega) (by omega), ⟨by decide, by decide⟩, hm, fin_same (k _ _ (Int.emod_nonneg _ (by omega)) (Int.emod_lt_of_pos _ hm) (Pot.mk' ha c0 (by omega)) But.supd)⟩
  · exact h.elim
abbrev s_law_homes : Stmt := top 64
abbrev n_law_homes : List Str := ["_law_keeps", "_law_bins", "_law_own", "_law_k"]
theorem sc_law_homes : FnScope n_law_homes ["_law_keeps", "_law_bins"] (defScope s_law_homes) := ⟨rfl, rfl, rfl, by decide +kernel, rfl, by decide +kernel, by decide +kernel⟩
def sp_law_homes : VSp := fun ds S Q => match ds with
  | [.tup ks, .int b] => ks.length ≤ 3 ∧ 0 ≤ b ∧ b ≤ 4 ∧ Q (.lst [.lst (homesW ks b), .lst (homesR b)]) S
  | _ => False
theorem ok_law_homes (T : Tx K w mg) : DefV P w K mg base 1 "_law_homes" ["_law_keeps", "_law_bins"] sp_law_homes := by
  refine DefV.mk' T.f_law_homes sc_law_homes (fun _ _ _ _ _ _ us hl => match us, hl with | [_, _], _ => rfl) (fun f cdv A outer s H E hgd hr hcd => ⟨_, (s_cons (s_setLc (i := 2) (c := (.one 3)) (own := [("_law_k", 3)]) recR_frz (by simp [CT.within]) rfl sc_law_homes.nd rfl rfl (sw_true rfl rfl rfl (by decide +kernel)) (i_rng1 rfl T.b_range (v_var 1) (pi_range1 rfl T.b_range (pa_cons (v_var 1) pa_nil))) (blkOk_by (N := n_law_homes) (sc := defScope s_law_homes) (by decide +kernel)) (fun _ _ _ _ _ => (pg_name (i := 3) sc_law_homes.nd rfl (by first | exact Or.inl rfl | exact Or.inr rfl))) (fun _ _ _ _ _ => ts_nil) (fun _ _ _ _ _ => (v_tup (a_cons v_str (a_cons (v_var 3) a_nil)))))
      (s_one (s_ret (v_lst (a_cons (v_op ov_add (v_op ov_add (v_lst (a_cons (v_tup (a_cons v_str (a_cons v_int a_nil))) a_nil)) (v_lc (c := (.one 3)) (own := [("_law_k", 3)]) recR_frz (by simp [CT.within]) rfl sc_law_homes.nd (i_seq (v_var 0)) (blkOk_by (N := n_law_homes) (sc := defScope s_law_homes) (by decide +kernel)) (fun _ _ _ _ _ => (pg_name (i := 3) sc_law_homes.nd rfl (by first | exact Or.inl rfl | exact Or.inr rfl))) (fun _ _ _ _ _ => ts_nil) (fun _ _ _ _ _ => (v_tup (a_cons v_str (a_cons (v_var 3) a_nil)))))) (v_var 2)) (a_cons (v_op ov_add (v_lc (c := (.one 3)) (own := [("_law_k", 3)]) recR_frz (by simp [CT.within]) rfl sc_law_homes.nd (i_rng1 rfl T.b_range v_int (pi_range1 rfl T.b_range (pa_cons v_int pa_nil))) (blkOk_by (N := n_law_homes) (sc := defScope s_law_homes) (by decide +kernel)) (fun _ _ _ _ _ => (pg_name (i := 3) sc_law_homes.nd rfl (by first | exact Or.inl rfl | exact Or.inr rfl))) (fun _ _ _ _ _ => ts_nil) (fun _ _ _ _ _ => (v_tup (a_cons v_str (a_cons (v_var 3) a_nil))))) (v_var 2)) a_nil)))))), ?_⟩)
  intro ds S Q hl h
  unfold sp_law_homes at h
  split at h
  · rename_i ks b
    obtain ⟨l3, b0, b1, k⟩ := h
    have lb : (binsH b).length ≤ 4 := by unfold binsH; rw [List.length_map, rng_len]; omega
    walk_at "VX"
    refine mLc_of (rngD 0 b.toNat) (fun d => [.tup [.str "bin", d]]) (kp := fun _ => True) (S1 := S) (fun Qi h => ?_) (by rw [rng_len]; exact sz (by omega)) trivial (fun d hd J hJ => ?_) ?_
    · walk_at "VX"; exact ⟨by omega, by omega, h⟩
    · walk_at "VX"; exact hJ
    rw [flat_one]
    walk_at "VX"
    refine mLc_of ks (fun d => [.tup [.str "peg", d]]) (kp := fun _ => True) (S1 := S) (fun Qi h => ?_) (sz (by omega)) trivial (fun d hd J hJ => ?_) ?_
    · walk_at "VX"; exact h
    · walk_at "VX"; exact hJ
    rw [flat_one]
    walk_at "VX"
    have lb' : (List.map (fun d => D.tup [D.str (Str.ofString "bin"), d]) (rngD 0 b.toNat)).length ≤ 4 := lb
    refine ⟨sz (by rw [List.length_map]; omega), sz (by rw [List.length_map]; omega), ?_⟩
    refine mLc_of (rngD 0 4) (fun d => [.tup [.str "peg", d]]) (kp := fun _ => True) (S1 := S) (fun Qi h => ?_) (by rw [rng_len]; exact sz (by omega)) trivial (fun d hd J hJ => ?_) ?_
    · walk_at "VX"; exact h
    · walk_at "VX"; exact hJ
    rw [flat_one]
    walk_at "VX"
    refine ⟨sz (by rw [List.length_map, rng_len]; omega), fin_same k⟩
  · exact h.elim
abbrev s_law_words : Stmt := top 61
abbrev n_law_words : List Str := ["_law_some"]
theorem sc_law_words : FnScope n_law_words [] (defScope s_law_words) := ⟨rfl, rfl, rfl, by decide +kernel, rfl, by decide +kernel, by decide +kernel⟩
def lawWords : List Str := (["put", "none", "copy", "add", "less", "new", "getn", "setn", "getb", "setb", "tell", "go", "if", "ifnone", "same"] : List Str) ++ (["call", "call", "call", "call", "call", "call", "call", "call", "call", "call", "call", "call", "call", "call", "call", "call", "back", "rest"] : List Str)
theorem lawWords_sub : ∀ w ∈ lawWords, w ∈ lineTab.map (·.1) := by decide +kernel
theorem lawWords_len : 1 ≤ lawWords.length ∧ lawWords.length ≤ 40 := by decide +kernel
def sp_law_words : VSp := fun ds S Q => Q (.lst (lawWords.map D.str)) S
theorem ok_law_words (T : Tx K w mg) : DefV P w K mg base 1 "_law_words" [] sp_law_words := by
  refine DefV.mk' T.f_law_words sc_law_words (fun _ _ _ _ _ _ us hl => match us, hl with | [], _ => rfl) (fun f cdv A outer s H E hgd hr hcd => ⟨_, (s_cons (s_set 0 sc_law_words.nd rfl (by first | exact Or.inl rfl | exact Or.inr rfl) (v_lst (a_cons v_str (a_cons v_str (a_cons v_str (a_cons v_str (a_cons v_str (a_cons v_str (a_cons v_str (a_cons v_str (a_cons v_str (a_cons v_str (a_cons v_str (a_cons v_str (a_cons v_str (a_cons v_str a_nil))))))))))))))))
      (s_one (s_ret (v_op ov_add (v_op ov_add (v_op ov_add (v_var 0) (v_lst (a_cons v_str a_nil))) (v_op ov_mulA (v_lst (a_cons v_str a_nil)) v_int)) (v_lst (a_cons v_str (a_cons v_str a_nil))))))), ?_⟩)
  intro ds S Q hl h
  obtain rfl := len0 hl
  walk_at "VX"
  refine ⟨by rw [sizeLine_eq]; decide +kernel, by rw [sizeLine_eq]; decide +kernel, ?_⟩
  exact fin_same h
abbrev s_law_number : Stmt := top 59
abbrev n_law_number : List Str := ["_law_pot_here", "_law_sort"]
theorem sc_law_number : FnScope n_law_number ["_law_pot_here"] (defScope s_law_number) := ⟨rfl, rfl, rfl, by decide +kernel, rfl, by decide +kernel, by decide +kernel⟩
def numB : Int := 10 ^ 40
def sp_law_number : VSp := fun ds S Q => match ds with
  | [.ref p] => Pot S p ∧ ∀ (i : Int) (S' : Store), -(10 ^ 40) < i → i < 10 ^ 40 → Pot S' p → But p S S' → Q (.int i) S'
  | _ => False
theorem ok_law_number (T : Tx K w mg) : DefV P w K mg base 2 "_law_number" ["_law_pot_here"] sp_law_number := by
  refine DefV.mk' T.f_law_number sc_law_number (fun _ _ _ _ _ _ us hl => match us, hl with | [_], _ => rfl) (fun f cdv A outer s H E hgd hr hcd => ⟨_, (s_cons (s_set 1 sc_law_number.nd rfl (by first | exact Or.inl rfl | exact Or.inr rfl) (v_call (ok_law_draw T) (hr.mono (by decide)) hgd rfl (a_cons (v_var 0) (a_cons v_int a_nil))))
      (s_cons (s_if (t_cmp (ov_eq hr.units) (v_var 1) v_int) (s_one (s_ret (v_op ov_mulL (v_sub (v_lst (a_cons v_int (a_cons (v_neg v_int) a_nil))) (v_call (ok_law_draw T) (hr.mono (by decide)) hgd rfl (a_cons (v_var 0) (a_cons v_int a_nil)))) (v_op ov_sub (v_op ov_sub (v_op ov_pow v_int v_int) v_int) (v_call (ok_law_draw T) (hr.mono (by decide)) hgd rfl (a_cons (v_var 0) (a_cons v_int a_nil))))))) s_nil)
      (s_cons (s_if (t_cmp (ov_eq hr.units) (v_var 1) v_int) (s_one (s_ret (v_op ov_add (v_op ov_sub (v_call (ok_law_draw T) (hr.mono (by decide)) hgd rfl (a_cons (v_var 0) (a_cons (v_op ov_sub (v_op ov_mulL v_int (v_op ov_pow v_int v_int)) v_int) a_nil))) (v_op ov_pow v_int v_int)) v_int))) s_nil)
      (s_one (s_ret (v_op ov_sub (v_call (ok_law_draw T) (hr.mono (by decide)) hgd rfl (a_cons (v_var 0) (a_cons v_int a_nil))) v_int)))))), ?_⟩)
  intro ds S Q hl h
  unfold sp_law_number at h
  split at h
  · rename_i p
    obtain ⟨hp, k⟩ := h
    have kk : ∀ (i : Int) (S' : Store), -(10 ^ 40) < i → i < 10 ^ 40 → Pot S' p → But p S S' → VL.Fin Q (.int i) S' := fun i S' a b c d => fin_same (k i S' a b c d)
    simp?! only [sp_law_draw]
    refine ⟨hp, by decide, fun r S1 r0 r1 p1 b1 => ?_⟩
    by_cases c3 : r = 3
    · rw [if_pos (by simpa using c3)]
      refine ⟨p1, by decide, fun r2 S2 a b p2 b2 => ?_⟩
      have : r2 = 0 ∨ r2 = 1 := by omega
      rcases this with rfl | rfl
      · rw [show atI [D.int 1, D.int (-1)] 0 = some (.int 1) from rfl]
        exact ⟨cpow10 (by decide) (by decide), p2, by decide, fun r3 S3 a b p3 b3 => ⟨cmul_l (by decide) (by decide), kk _ _ (by omega) (by omega) p3 (b1.trans (b2.trans b3))⟩⟩
      · rw [show atI [D.int 1, D.int (-1)] 1 = some (.int (-1)) from rfl]
        exact ⟨cpow10 (by decide) (by decide), p2, by decide, fun r3 S3 a b p3 b3 => ⟨cmul_l (by decide) (by decide), kk _ _ (by omega) (by omega) p3 (b1.trans (b2.trans b3))⟩⟩
    rw [if_neg (by simpa using c3)]
    by_cases c2 : r = 2
    · rw [if_pos (by simpa using c2)]
      exact ⟨cpow10 (by decide) (by decide), cmul_l (by decide) (by decide), p1, log2_small (k := 140) (by decide) (by decide) (by decide), fun r2 S2 a b p2 b2 => ⟨cpow10 (by decide) (by decide), kk _ _ (by omega) (by omega) p2 (b1.trans b2)⟩⟩
    rw [if_neg (by simpa using c2)]
    exact ⟨p1, by decide, fun r2 S2 a b p2 b2 => kk _ _ (by omega) (by omega) p2 (b1.trans b2)⟩
  · exact h.elim
abbrev s_law_part : Stmt := top 62
abbrev n_law_part : List Str := ["_law_pot_here", "_law_part_here", "_law_homes_here", "_law_many", "_law_defs"]
theorem sc_law_part : FnScope n_law_part ["_law_pot_here", "_law_part_here", "_law_homes_here", "_law_many", "_law_defs"] (defScope s_law_part) := ⟨rfl, rfl, rfl, by decide +kernel, rfl, by decide +kernel, by decide +kernel⟩
/-- a part that is drawn for a letter -/
def LetP (ks : List D) (b many defs : Int) (c : Nat) (d : D) : Prop := (c ≠ 100 → PartP ks b many (codeL c) d) ∧ (c = 100 → ∃ r, d = .int r ∧ 0 ≤ r ∧ r < defs) ∧ ∀ i, d = .int i → -numB < i ∧ i < numB
theorem num_home {d : D} (h : isHome d = true) : ∀ i, d = .int i → -numB < i ∧ i < numB := fun i e => by subst e; cases h
theorem num_small {r : Int} (h0 : -1000 < r) (h1 : r < 1000) : ∀ i, D.int r = .int i → -numB < i ∧ i < numB := fun i e => by
  injection e with e
  subst e
  unfold numB; omega
def sp_law_part : VSp := fun ds S Q => match ds with
  | [.ref p, .str x, .lst [.lst hw, .lst hr], .int many, .int defs] => ∃ c ks b, x = ⟨#[c]⟩ ∧ c ∈ lets6 ∧ Pot S p ∧ hw = homesW ks b ∧ hr = homesR b ∧ keepsOk ks ∧ 0 ≤ b ∧ b ≤ 4 ∧ 1 ≤ many ∧ many ≤ 24 ∧ 1 ≤ defs ∧ defs ≤ 6 ∧ ∀ (d : D) (S' : Store), LetP ks b many defs c d → Pot S' p → But p S S' → Q d S'
  | _ => False
theorem fkd_f {m : Int} : valD [(Sum.inr (Str.ofString "f"), D.int 4), (Sum.inr (Str.ofString "k"), D.int 3), (Sum.inr (Str.ofString "d"), D.int m)] (Sum.inr ⟨#[102]⟩) = some (.int 4) := rfl
theorem fkd_k {m : Int} : valD [(Sum.inr (Str.ofString "f"), D.int 4), (Sum.inr (Str.ofString "k"), D.int 3), (Sum.inr (Str.ofString "d"), D.int m)] (Sum.inr ⟨#[107]⟩) = some (.int 3) := rfl
theorem fkd_d {m : Int} : valD [(Sum.inr (Str.ofString "f"), D.int 4), (Sum.inr (Str.ofString "k"), D.int 3), (Sum.inr (Str.ofString "d"), D.int m)] (Sum.inr ⟨#[100]⟩) = some (.int m) := rfl
theorem ok_law_part (T : Tx K w mg) : DefV P w K mg base 3 "_law_part" ["_law_pot_here", "_law_part_here", "_law_homes_here", "_law_many", "_law_defs"] sp_law_part := by
  refine DefV.mk' T.f_law_part sc_law_part (fun _ _ _ _ _ _ us hl => match us, hl with | [_, _, _, _, _], _ => rfl) (fun f cdv A outer s H E hgd hr hcd => ⟨_, (s_cons (s_if (t_cmp (ov_eqS hr.units0) (v_var 1) v_str) (s_one (s_ret (v_sub (v_sub (v_var 2) v_int) (v_call (ok_law_draw T) (hr.mono (by decide)) hgd rfl (a_cons (v_var 0) (a_cons (v_callB cv_len rfl T.b_len (by decide +kernel) (a_cons (v_sub (v_var 2) v_int) a_nil)) a_nil)))))) s_nil)
      (s_cons (s_if (t_cmp (ov_eqS hr.units0) (v_var 1) v_str) (s_one (s_ret (v_sub (v_sub (v_var 2) v_int) (v_call (ok_law_draw T) (hr.mono (by decide)) hgd rfl (a_cons (v_var 0) (a_cons (v_callB cv_len rfl T.b_len (by decide +kernel) (a_cons (v_sub (v_var 2) v_int) a_nil)) a_nil)))))) s_nil)
      (s_cons (s_if (t_cmp (ov_eqS hr.units0) (v_var 1) v_str) (s_one (s_ret (v_call (ok_law_number T) (hr.mono (by decide)) hgd rfl (a_cons (v_var 0) a_nil)))) s_nil)
      (s_cons (s_if (t_cmp (ov_eqS hr.units0) (v_var 1) v_str) (s_one (s_ret (v_call (ok_law_draw T) (hr.mono (by decide)) hgd rfl (a_cons (v_var 0) (a_cons (v_var 3) a_nil))))) s_nil)
      (s_one (s_ret (v_call (ok_law_draw T) (hr.mono (by decide)) hgd rfl (a_cons (v_var 0) (a_cons (v_dsub (units1 hr.units) (v_dictS (vs_cons v_int (vs_cons v_int (vs_cons (v_var 4) vs_nil))) (by decide +kernel) rfl rfl (by simp) (by decide) (by decide)) (v_var 1)) a_nil))))))))), ?_⟩)
  intro ds S Q hl h
  unfold sp_law_part at h
  split at h
  · rename_i p x hw hr many defs
    obtain ⟨c, ks, b, rfl, hc, hp, rfl, rfl, hk, b0, b1, m0, m1, d0, d1, k⟩ := h
    have kk : ∀ (d : D) (S' : Store), LetP ks b many defs c d → Pot S' p → But p S S' → VL.Fin Q d S' := fun d S' a b e => fin_same (k d S' a b e)
    have lw := homesW_len hk b0 b1
    have lr := homesR_len b0 b1
    simp only [lets6, List.mem_cons, List.not_mem_nil, or_false] at hc
    rcases hc with rfl | rfl | rfl | rfl | rfl | rfl | rfl
    all_goals simp?! only [sp_law_draw, sp_law_number]
    · rw [if_pos (by decide +kernel)]
      refine ⟨hp, by omega, log_small (by omega) (by omega), fun r S1 r0 r1 p1 c1 => ?_⟩
      obtain ⟨d, e, hd⟩ := atI_ex r0 r1
      rw [e]
      obtain ⟨a1, a2, a3, a4⟩ := homesW_mem hk b0 b1 hd
      exact kk _ _ ⟨fun _ => ⟨a1, a4, fun _ => ⟨a2, a3⟩, fun z => absurd z (by decide), fun z => absurd z (by decide)⟩, fun z => absurd z (by decide), num_home a1⟩ p1 c1
    · rw [if_neg (by decide +kernel), if_pos (by decide +kernel)]
      refine ⟨hp, by omega, log_small (by omega) (by omega), fun r S1 r0 r1 p1 c1 => ?_⟩
      obtain ⟨d, e, hd⟩ := atI_ex r0 r1
      rw [e]
      obtain ⟨a1, a2, a4⟩ := homesR_mem b0 b1 hd
      exact kk _ _ ⟨fun _ => ⟨a1, a4, fun z => absurd z (by decide), fun _ => a2, fun z => absurd z (by decide)⟩, fun z => absurd z (by decide), num_home a1⟩ p1 c1
    · rw [if_neg (by decide +kernel), if_neg (by decide +kernel), if_pos (by decide +kernel)]
      exact ⟨hp, fun i S1 i0 i1 p1 c1 => kk _ _ ⟨fun _ => ⟨rfl, sm_int (by omega) (by omega), fun z => absurd z (by decide), fun z => absurd z (by decide), fun z => absurd z (by decide)⟩, fun z => absurd z (by decide), fun j e => by injection e with e; subst e; exact ⟨i0, i1⟩⟩ p1 c1⟩
    · rw [if_neg (by decide +kernel), if_neg (by decide +kernel), if_neg (by decide +kernel), if_neg (by decide +kernel), fkd_f]
      exact ⟨hp, by decide, by decide, fun i S1 i0 i1 p1 c1 => kk _ _ ⟨fun _ => ⟨by simp [codeL, fitC, isWithin]; omega, sm_int (by omega) (by omega), fun z => absurd z (by decide), fun z => absurd z (by decide), fun z => absurd z (by decide)⟩, fun z => absurd z (by decide), num_small (by omega) (by omega)⟩ p1 c1⟩
    · rw [if_neg (by decide +kernel), if_neg (by decide +kernel), if_neg (by decide +kernel), if_neg (by decide +kernel), fkd_k]
      exact ⟨hp, by decide, by decide, fun i S1 i0 i1 p1 c1 => kk _ _ ⟨fun _ => ⟨by simp [codeL, fitC, isWithin]; omega, sm_int (by omega) (by omega), fun z => absurd z (by decide), fun z => absurd z (by decide), fun z => absurd z (by decide)⟩, fun z => absurd z (by decide), num_small (by omega) (by omega)⟩ p1 c1⟩
    · rw [if_neg (by decide +kernel), if_neg (by decide +kernel), if_neg (by decide +kernel), if_pos (by decide +kernel)]
      exact ⟨hp, by omega, log_small (by omega) (by omega), fun i S1 i0 i1 p1 c1 => kk _ _ ⟨fun _ => ⟨by simp [codeL, fitC, isFrom]; omega, sm_int (by omega) (by omega), fun z => absurd z (by decide), fun z => absurd z (by decide), fun _ => by simp [ltI]; omega⟩, fun z => absurd z (by decide), num_small (by omega) (by omega)⟩ p1 c1⟩
    · rw [if_neg (by decide +kernel), if_neg (by decide +kernel), if_neg (by decide +kernel), if_neg (by decide +kernel), fkd_d]
      exact ⟨hp, by omega, log_small (by omega) (by omega), fun i S1 i0 i1 p1 c1 => kk _ _ ⟨fun z => absurd rfl z, fun _ => ⟨i, rfl, i0, i1⟩, num_small (by omega) (by omega)⟩ p1 c1⟩
  · exact h.elim
abbrev s_law_parts : Stmt := top 60
abbrev n_law_parts : List Str := ["_law_word", "_law_parts_here"]
theorem sc_law_parts : FnScope n_law_parts ["_law_word"] (defScope s_law_parts) := ⟨rfl, rfl, rfl, by decide +kernel, rfl, by decide +kernel, by decide +kernel⟩
def sp_law_parts : VSp := fun ds S Q => match ds with
  | [.str w] => ∃ es, lineTab.lookup w = some es ∧ Q (lettersD es) S
  | _ => False
theorem ok_law_parts (T : Tx K w mg) : DefV P w K mg base 1 "_law_parts" ["_law_word"] sp_law_parts := by
  refine DefV.mk' T.f_law_parts sc_law_parts (fun _ _ _ _ _ _ us hl => match us, hl with | [_], _ => rfl) (fun f cdv A outer s H E hgd hr hcd => ⟨_, (s_cons (s_set 1 sc_law_parts.nd rfl (by first | exact Or.inl rfl | exact Or.inr rfl) (v_dictC (KC.cons (KC.cons (KC.cons (KC.cons (KC.cons (KC.cons (KC.cons (KC.cons (KC.cons (KC.cons (KC.cons (KC.cons (KC.cons (KC.cons (KC.cons (KC.cons (KC.cons (KC.cons KC.nil)))))))))))))))))) rfl (by decide +kernel)))
      (s_one (s_ret (v_dget1 (units1 hr.units) (v_var 1) (v_var 0) ⟨rfl, rfl, rfl, rfl⟩)))), ?_⟩)
  intro ds S Q hl h
  unfold sp_law_parts at h
  split at h
  · rename_i w
    obtain ⟨es, he, k⟩ := h
    have mem := look_mem he
    walk_at "VX"
    refine ⟨rfl, ?_⟩
    show VL.Fin Q ((valD partsTab (.inr w)).getD .non) S
    rw [parts_tab _ mem]
    exact fin_same k
  · exact h.elim
abbrev s_law_line : Stmt := top 63
abbrev n_law_line : List Str := ["_law_pot_here", "_law_homes_here", "_law_i", "_law_many", "_law_defs", "_law_words_here", "_law_word", "_law_part_here"]
theorem sc_law_line : FnScope n_law_line ["_law_pot_here", "_law_homes_here", "_law_i", "_law_many", "_law_defs"] (defScope s_law_line) := ⟨rfl, rfl, rfl, by decide +kernel, rfl, by decide +kernel, by decide +kernel⟩
def sp_law_line : VSp := fun ds S Q => match ds with
  | [.ref p, .lst [.lst hw, .lst hr], .int at_, .int many, .int defs] => ∃ ks b, Pot S p ∧ hw = homesW ks b ∧ hr = homesR b ∧ keepsOk ks ∧ 0 ≤ b ∧ b ≤ 4 ∧ 1 ≤ many ∧ many ≤ 24 ∧ 1 ≤ defs ∧ defs ≤ 6 ∧
      ∀ (l : D) (S' : Store), LineP ks b many defs (decide (at_ + 1 = many)) l → NumL numB l → Pot S' p → But p S S' → Q l S'
  | _ => False
theorem rowP_map {P : Nat → D → Prop} {P2 : Nat → D → Prop} {f g : Nat × Str → Nat} : ∀ {es : List (Nat × Str)} {ds : List D}, (∀ e ∈ es, ∀ d, P (f e) d → P2 (g e) d) → RowP P (es.map f) ds → RowP P2 (es.map g) ds
  | [], [], _, _ => trivial
  | e :: es, d :: ds, h, q => ⟨h e List.mem_cons_self d q.1, rowP_map (fun z hz => h z (List.mem_cons_of_mem _ hz)) q.2⟩
theorem letP_nums {ks : List D} {b many defs : Int} : ∀ {cs : List Nat} {ds : List D}, RowP (LetP ks b many defs) cs ds → ∀ i, D.int i ∈ ds → -numB < i ∧ i < numB
  | [], [], _, _, h => (nomatch h)
  | c :: cs, d :: ds, q, i, h => by
    rcases List.mem_cons.mp h with e | h
    · exact q.1.2.2 i e.symm
    · exact letP_nums q.2 i h
  | [], _ :: _, q, _, _ => q.elim
  | _ :: _, [], q, _, _ => q.elim
theorem lets_call : ∀ e ∈ lineTab, e.1 ≠ "call" → ∀ q ∈ e.2, letN q ≠ 100 := by decide +kernel
theorem ok_law_line (T : Tx K w mg) : DefV P w K mg base 4 "_law_line" ["_law_pot_here", "_law_homes_here", "_law_i", "_law_many", "_law_defs"] sp_law_line := by
  refine DefV.mk' T.f_law_line sc_law_line (fun _ _ _ _ _ _ us hl => match us, hl with | [_, _, _, _, _], _ => rfl) (fun f cdv A outer s H E hgd hr hcd => ⟨_, (s_cons (s_set 5 sc_law_line.nd rfl (by first | exact Or.inl rfl | exact Or.inr rfl) (v_call0 (ok_law_words T) (hr.mono (by decide)) hgd rfl))
      (s_cons (s_if (t_cmp (ov_eq hr.units) (v_op ov_add (v_var 2) v_int) (v_var 3)) (s_one (s_set 5 sc_law_line.nd rfl (by first | exact Or.inl rfl | exact Or.inr rfl) (v_lst (a_cons v_str (a_cons v_str a_nil))))) s_nil)
      (s_cons (s_set 6 sc_law_line.nd rfl (by first | exact Or.inl rfl | exact Or.inr rfl) (v_sub (v_var 5) (v_call (ok_law_draw T) (hr.mono (by decide)) hgd rfl (a_cons (v_var 0) (a_cons (v_callB cv_len rfl T.b_len (by decide +kernel) (a_cons (v_var 5) a_nil)) a_nil)))))
      (s_one (s_ret (v_callT cv_tuple rfl T.b_tuple (by decide +kernel) (a_cons (v_op ov_add (v_lst (a_cons (v_var 6) a_nil)) (v_lc (c := (.one 7)) (own := [("_law_part_here", 7)]) recR_frz (by simp [CT.within]) rfl sc_law_line.nd (i_str (v_call (ok_law_parts T) (hr.mono (by decide)) hgd rfl (a_cons (v_var 6) a_nil))) (blkOk_by (N := n_law_line) (sc := defScope s_law_line) (by decide +kernel)) (fun _ _ _ _ _ => (pg_name (i := 7) sc_law_line.nd rfl (by first | exact Or.inl rfl | exact Or.inr rfl))) (fun _ _ _ _ _ => ts_nil) (fun _ _ _ _ _ => (v_call (ok_law_part T) (hr.mono (by decide)) hgd rfl (a_cons (v_var 0) (a_cons (v_var 7) (a_cons (v_var 1) (a_cons (v_var 3) (a_cons (v_var 4) a_nil))))))))) a_nil))))))), ?_⟩)
  intro ds S Q hl h
  unfold sp_law_line at h
  split at h
  · rename_i p hw hr at_ many defs
    obtain ⟨ks, b, hp, rfl, rfl, hk, b0, b1, m0, m1, d0, d1, k⟩ := h
    have kk : ∀ (d : D) (S' : Store), LineP ks b many defs (decide (at_ + 1 = many)) d → NumL numB d → Pot S' p → But p S S' → VL.Fin Q d S' := fun d S' a n b e => fin_same (k d S' a n b e)
    simp?! only [sp_law_draw, sp_law_words]
    by_cases hb : at_ + 1 = many
    case' pos => rw [if_pos (by simpa using hb)]
    case' neg => rw [if_neg (by simpa using hb)]
    case' pos => refine ⟨hp, by decide, fun r S1 r0 r1 p1 b1' => ?_⟩
    case' neg => refine ⟨hp, by rw [List.length_map]; have := lawWords_len; omega, by rw [List.length_map]; have := lawWords_len; exact log_small (by omega) (by omega), fun r S1 r0 r1 p1 b1' => ?_⟩
    case' pos => have ex := atI_ex (ds := [D.str (Str.ofString "go"), D.str (Str.ofString "back")]) r0 r1
    case' neg => have ex := atI_ex (ds := lawWords.map D.str) r0 r1
    all_goals
      obtain ⟨dw, edw, hdw⟩ := ex
      rw [edw]
      obtain ⟨w, hw, hlast, rfl⟩ : ∃ w : Str, w ∈ lineTab.map (·.1) ∧ (decide (at_ + 1 = many) = true → w = "go" ∨ w = "back") ∧ D.str w = dw := by
        first
          | (simp only [List.mem_cons, List.not_mem_nil, or_false] at hdw
             rcases hdw with rfl | rfl
             · exact ⟨"go", by decide +kernel, fun _ => .inl rfl, rfl⟩
             · exact ⟨"back", by decide +kernel, fun _ => .inr rfl, rfl⟩)
          | (obtain ⟨w, hw, rfl⟩ := List.mem_map.mp hdw
             exact ⟨w, lawWords_sub w hw, fun z => absurd (of_decide_eq_true z) hb, rfl⟩)
      obtain ⟨es, he⟩ := look_some (l := lineTab) hw
      have mem := look_mem he
      have tok := table_ok _ mem
      have l3 : es.length ≤ 3 := tok.2
      refine mLc_inv (sgnD ⟨(es.map letN).toArray⟩) (fun i acc S8 => Pot S8 p ∧ But p S1 S8 ∧ RowP (LetP ks b many defs) ((es.map letN).take i) acc) (kp := fun _ => True) (S1 := S1) (fun Qi h => ?_) ?_ ⟨p1, But.refl _ _, trivial⟩ (fun _ _ _ _ => trivial) (fun i d acc S8 hd h => ?_) (fun acc S8 h => ?_)
      · simp?! only [sp_law_parts]; exact ⟨es, he, h⟩
      · simp only [sgnD, List.length_map]; exact Nat.le_trans tok.2 (by decide)
      · obtain ⟨p8, b8, h8⟩ := h
        obtain ⟨c, hc, rfl⟩ : ∃ c, (es.map letN)[i]? = some c ∧ d = .str ⟨#[c]⟩ := by
          simp only [sgnD, List.getElem?_map, Option.map_eq_some_iff] at hd
          obtain ⟨c, a, b⟩ := hd
          exact ⟨c, by simpa using a, b.symm⟩
        simp?! only [sp_law_part]
        have hl6 : c ∈ lets6 := by
          obtain ⟨e, hm, rfl⟩ := List.mem_map.mp (List.mem_of_getElem? hc)
          exact (lets_ok _ mem e hm).2
        refine ⟨c, ks, b, rfl, hl6, p8, rfl, rfl, hk, b0, b1, m0, m1, d0, d1, fun d S9 hd p9 b9 => ⟨p9, b8.trans b9, ?_⟩⟩
        rw [List.take_succ, hc]; exact RowP.app hd h8
      · obtain ⟨p8, b8, h8⟩ := h
        rw [show (sgnD ⟨(es.map letN).toArray⟩).length = (es.map letN).length by simp [sgnD], List.take_length] at h8
        have len := h8.len
        rw [List.length_map] at len
        have nl : NumL numB (.tup (.str w :: acc)) := fun w' r' e i hi => by
          injection e with e
          injection e with _ e
          subst e
          exact letP_nums h8 i hi
        walk_at "VX"
        refine ⟨sz (by omega), ?_⟩
        by_cases hcl : w = "call"
        · subst hcl
          have hes : es = [((116 : Nat), ("called" : Str))] := by
            have h0 : lineTab.lookup ("call" : Str) = some [((116 : Nat), ("called" : Str))] := rfl
            rw [he] at h0; exact Option.some.inj h0
          subst hes
          match acc, h8 with
          | [d], h8 =>
            obtain ⟨r, rfl, r0, r1⟩ := h8.1.2.1 (by decide +kernel)
            exact kk _ _ (call_made r0 r1 d1 hlast) nl p8 (b1'.trans b8)
        · have hr : RowP (PartP ks b many) (es.map (·.1)) acc := rowP_map (fun e hm d hd => by
            have q := hd.1 (lets_call _ mem hcl e hm)
            rwa [(lets_ok _ mem e hm).1] at q) h8
          exact kk _ _ (line_made he hr hlast (called_nil he hcl)) nl p8 (b1'.trans b8)
  · exact h.elim
abbrev s_law_def : Stmt := top 65
abbrev n_law_def : List Str := ["_law_pot_here", "_law_defs", "_law_most", "_law_bits", "_law_keeps", "_law_bins", "_law_takes", "_law_gives", "_law_many", "_law_homes_here", "_law_k", "_law_i"]
theorem sc_law_def : FnScope n_law_def ["_law_pot_here", "_law_defs", "_law_most"] (defScope s_law_def) := ⟨rfl, rfl, rfl, by decide +kernel, rfl, by decide +kernel, by decide +kernel⟩
def sp_law_def : VSp := fun ds S Q => match ds with
  | [.ref p, .int defs, .int most] => Pot S p ∧ 1 ≤ defs ∧ defs ≤ 6 ∧ 1 ≤ most ∧ most ≤ 24 ∧ ∀ (d : D) (S' : Store), DefQ numB defs d → Pot S' p → But p S S' → Q d S'
  | _ => False
theorem nb_at {r : Int} (h0 : 0 ≤ r) (h1 : r < 3) : ∃ c, atI (Str.ofString "nb-").cps.toList r = some c ∧ c ∈ [110, 98, 45] := by
  have : r = 0 ∨ r = 1 ∨ r = 2 := by omega
  rcases this with rfl | rfl | rfl
  · exact ⟨110, by decide +kernel, by simp⟩
  · exact ⟨98, by decide +kernel, by simp⟩
  · exact ⟨45, by decide +kernel, by simp⟩
theorem ok_law_def (T : Tx K w mg) : DefV P w K mg base 5 "_law_def" ["_law_pot_here", "_law_defs", "_law_most"] sp_law_def := by
  refine DefV.mk' T.f_law_def sc_law_def (fun _ _ _ _ _ _ us hl => match us, hl with | [_, _, _], _ => rfl) (fun f cdv A outer s H E hgd hr hcd => ⟨_, (s_cons (s_set 3 sc_law_def.nd rfl (by first | exact Or.inl rfl | exact Or.inr rfl) (v_call (ok_law_draw T) (hr.mono (by decide)) hgd rfl (a_cons (v_var 0) (a_cons v_int a_nil))))
      (s_cons (s_set 4 sc_law_def.nd rfl (by first | exact Or.inl rfl | exact Or.inr rfl) (v_callT cv_tuple rfl T.b_tuple (by decide +kernel) (a_cons (v_lc (c := (.one 10)) (own := [("_law_k", 10)]) recR_frz (by simp [CT.within]) rfl sc_law_def.nd (i_seq (v_tup (a_cons v_int (a_cons v_int (a_cons v_int a_nil))))) (blkOk_by (N := n_law_def) (sc := defScope s_law_def) (by decide +kernel)) (fun _ _ _ _ _ => (pg_name (i := 10) sc_law_def.nd rfl (by first | exact Or.inl rfl | exact Or.inr rfl))) (fun _ _ _ _ _ => (ts_one (t_cmp (ov_eq hr.units) (v_op ov_mod (v_op ov_fdiv (v_var 3) (v_sub (v_lst (a_cons v_int (a_cons v_int (a_cons v_int (a_cons v_int a_nil))))) (v_var 10))) v_int) v_int))) (fun _ _ _ _ _ => (v_var 10))) a_nil)))
      (s_cons (s_set 5 sc_law_def.nd rfl (by first | exact Or.inl rfl | exact Or.inr rfl) (v_call (ok_law_draw T) (hr.mono (by decide)) hgd rfl (a_cons (v_var 0) (a_cons v_int a_nil))))
      (s_cons (s_set 6 sc_law_def.nd rfl (by first | exact Or.inl rfl | exact Or.inr rfl) (v_join (pe_join v_str (v_lc (c := (.one 10)) (own := [("_law_k", 10)]) recR_frz (by simp [CT.within]) rfl sc_law_def.nd (i_rng1 rfl T.b_range v_int (pi_range1 rfl T.b_range (pa_cons v_int pa_nil))) (blkOk_by (N := n_law_def) (sc := defScope s_law_def) (by decide +kernel)) (fun _ _ _ _ _ => (pg_name (i := 10) sc_law_def.nd rfl (by first | exact Or.inl rfl | exact Or.inr rfl))) (fun _ _ _ _ _ => ts_nil) (fun _ _ _ _ _ => (v_sub v_str (v_call (ok_law_draw T) (hr.mono (by decide)) hgd rfl (a_cons (v_var 0) (a_cons v_int a_nil)))))))))
      (s_cons (s_set 7 sc_law_def.nd rfl (by first | exact Or.inl rfl | exact Or.inr rfl) (v_sub v_str (v_call (ok_law_draw T) (hr.mono (by decide)) hgd rfl (a_cons (v_var 0) (a_cons v_int a_nil)))))
      (s_cons (s_set 8 sc_law_def.nd rfl (by first | exact Or.inl rfl | exact Or.inr rfl) (v_op ov_add v_int (v_call (ok_law_draw T) (hr.mono (by decide)) hgd rfl (a_cons (v_var 0) (a_cons (v_var 2) a_nil)))))
      (s_cons (s_set 9 sc_law_def.nd rfl (by first | exact Or.inl rfl | exact Or.inr rfl) (v_call (ok_law_homes T) (hr.mono (by decide)) hgd rfl (a_cons (v_var 4) (a_cons (v_var 5) a_nil))))
      (s_one (s_ret (v_tup (a_cons (v_var 6) (a_cons (v_var 7) (a_cons (v_var 4) (a_cons (v_var 5) (a_cons (v_callT cv_tuple rfl T.b_tuple (by decide +kernel) (a_cons (v_lc (c := (.one 11)) (own := [("_law_i", 11)]) recR_frz (by simp [CT.within]) rfl sc_law_def.nd (i_rng1 rfl T.b_range (v_var 8) (pi_range1 rfl T.b_range (pa_cons (v_var 8) pa_nil))) (blkOk_by (N := n_law_def) (sc := defScope s_law_def) (by decide +kernel)) (fun _ _ _ _ _ => (pg_name (i := 11) sc_law_def.nd rfl (by first | exact Or.inl rfl | exact Or.inr rfl))) (fun _ _ _ _ _ => ts_nil) (fun _ _ _ _ _ => (v_call (ok_law_line T) (hr.mono (by decide)) hgd rfl (a_cons (v_var 0) (a_cons (v_var 9) (a_cons (v_var 11) (a_cons (v_var 8) (a_cons (v_var 1) a_nil)))))))) a_nil)) a_nil))))))))))))))), ?_⟩)
  intro ds S Q hl h
  unfold sp_law_def at h
  split at h
  · rename_i p defs most
    obtain ⟨hp, d0, d1, w0, w1, k⟩ := h
    have kk : ∀ (d : D) (S' : Store), DefQ numB defs d → Pot S' p → But p S S' → VL.Fin Q d S' := fun d S' a b e => fin_same (k d S' a b e)
    simp?! only [sp_law_draw]
    refine ⟨hp, by decide, fun bits S1 x0 x1 p1 b1 => ?_⟩
    refine mLc_inv [.int 1, .int 2, .int 3] (fun i acc S10 => S10 = S1 ∧ ∃ ks : List Int, acc = ks.map D.int ∧ ks.length ≤ i ∧ ks.Pairwise (· < ·) ∧ ∀ k ∈ ks, 1 ≤ k ∧ k ≤ i) (kp := fun _ => True) (S1 := S1) (fun Qi h => ?_) (sz (by simp)) ⟨rfl, [], rfl, by simp, .nil, fun c hc => nomatch hc⟩ (fun _ _ _ _ => trivial) (fun i d acc S10 hd h => ?_) (fun acc S10 h => ?_)
    · walk_at "VX"; exact h
    · obtain ⟨rfl, ks, rfl, e3, e4, e5⟩ := h
      have hd' : d = .int (i + 1) ∧ i < 3 := by
        match i, hd with
        | 0, hd => exact ⟨(Option.some.inj hd).symm, by decide⟩
        | 1, hd => exact ⟨(Option.some.inj hd).symm, by decide⟩
        | 2, hd => exact ⟨(Option.some.inj hd).symm, by decide⟩
        | n + 3, hd => simp at hd
      obtain ⟨rfl, hi⟩ := hd'
      walk_at "VX"
      obtain ⟨j, ej, j0, j1⟩ : ∃ j : Int, atI [D.int 0, D.int 1, D.int 2, D.int 4] ((i : Int) + 1) = some (.int j) ∧ 0 < j ∧ j ≤ 4 := by
        have : i = 0 ∨ i = 1 ∨ i = 2 := by omega
        rcases this with rfl | rfl | rfl
        · exact ⟨1, rfl, by decide, by decide⟩
        · exact ⟨2, rfl, by decide, by decide⟩
        · exact ⟨4, rfl, by decide, by decide⟩
      rw [ej]
      refine ⟨⟨j0, log_small (by omega) (by omega)⟩, ?_⟩
      by_cases hr : bits / j % 2 = 1
      · rw [if_pos (by simpa using hr)]
        refine ⟨ks ++ [(i : Int) + 1], by simp, by simp; omega, ?_, fun k hk => ?_⟩
        · rw [List.pairwise_append]
          refine ⟨e4, List.pairwise_singleton _ _, fun a ha b hb => ?_⟩
          rw [List.mem_singleton.mp hb]; have := e5 a ha; omega
        · rcases List.mem_append.mp hk with hk | hk
          · have := e5 k hk; omega
          · rw [List.mem_singleton.mp hk]; omega
      · rw [if_neg (by simpa using hr)]
        exact ⟨ks, rfl, by omega, e4, fun k hk => by have := e5 k hk; omega⟩
    · obtain ⟨rfl, ks, rfl, e3, e4, e5⟩ := h
      simp?! only [sp_law_draw]
      refine ⟨p1, by decide, fun b S2 b0 b4 p2 b2 => ?_⟩
      refine mLc_inv (rngD 0 4) (fun i acc S8 => Pot S8 p ∧ But p S2 S8 ∧ ∃ cs : List Nat, acc = cs.map (fun c => D.str ⟨#[c]⟩) ∧ cs.length = i ∧ ∀ c ∈ cs, c ∈ [110, 98, 45]) (kp := fun _ => True) (S1 := S2) (fun Qi h => ?_) (by rw [rng_len]; exact sz (by decide)) ⟨p2, But.refl _ _, [], rfl, rfl, fun c hc => nomatch hc⟩ (fun _ _ _ _ => trivial) (fun i d acc S8 hd h => ?_) (fun acc S8 h => ?_)
      · walk_at "VX"; exact h
      · obtain ⟨p8, b8, cs, rfl, c1, c2⟩ := h
        simp?! only [sp_law_draw]
        refine ⟨p8, by decide, fun r S9 r0 r1 p9 b9 => ⟨sz (by decide), ?_⟩⟩
        obtain ⟨c, hc, hm⟩ := nb_at r0 r1
        rw [hc]
        refine ⟨p9, b8.trans b9, cs ++ [c], by simp, by simp [c1], fun x hx => ?_⟩
        rcases List.mem_append.mp hx with hx | hx
        · exact c2 x hx
        · rw [List.mem_singleton.mp hx]; exact hm
      · obtain ⟨p8, b8, cs, rfl, c1, c2⟩ := h
        rw [rng_len] at c1
        simp?! only [ones_strs, ones_sum]
        refine ⟨?_, p8, by decide, fun r S9 r0 r1 p9 b9 => ⟨sz (by decide), ?_⟩⟩
        · rw [List.length_map, c1]; decide +kernel
        obtain ⟨g, hg, gm⟩ := nb_at r0 r1
        rw [hg]
        refine ⟨p9, by omega, log_small (by omega) (by omega), fun m S10 m0 m1 p10 b10 => ?_⟩
        simp only [sp_law_homes]
        refine ⟨by rw [List.length_map]; simpa using e3, b0, by omega, ?_⟩
        have kok : keepsOk (ks.map D.int) := ⟨by simpa using e3, fun k hk' => by obtain ⟨i, hi, rfl⟩ := List.mem_map.mp hk'; have := e5 i hi; simp [isWithin]; simp at this; omega⟩
        refine mLc_inv (rngD 0 (1 + m).toNat) (fun i acc S15 => Pot S15 p ∧ But p S10 S15 ∧ acc.length = i ∧ ∀ (j : Nat) l, acc[j]? = some l → LineP (ks.map D.int) b (1 + m) defs (decide ((j : Int) = 1 + m - 1)) l ∧ NumL numB l) (kp := fun _ => True) (S1 := S10) (fun Qi h => ?_) (by rw [rng_len]; exact sz (by omega)) ⟨p10, But.refl _ _, rfl, fun j l hj => by simp at hj⟩ (fun _ _ _ _ => trivial) (fun i d acc S15 hd h => ?_) (fun acc S15 h => ?_)
        · walk_at "VX"; exact ⟨by omega, by omega, h⟩
        · obtain ⟨p15, b15, c6, c7⟩ := h
          obtain ⟨i', hi', rfl⟩ := rng_mem (List.mem_of_getElem? hd)
          have : i' = i := by
            have := getE hd
            rw [rng_len] at this
            simp [rngD, this] at hd
            omega
          subst this
          simp?! only [sp_law_line]
          refine ⟨ks.map D.int, b, p15, rfl, rfl, kok, b0, by omega, by omega, by omega, d0, d1, fun l S16 hl nl p16 b16 => ⟨p16, b15.trans b16, by simp [c6], fun j l' hj => ?_⟩⟩
          by_cases hj2 : j < acc.length
          · rw [List.getElem?_append_left hj2] at hj; exact c7 j l' hj
          · have : j = acc.length := by
              have := getE hj
              simp only [List.length_append, List.length_singleton] at this
              omega
            subst this
            simp at hj
            subst hj
            rw [c6] at *
            have e : decide (0 + (i' : Int) + 1 = 1 + m) = decide ((i' : Int) = 1 + m - 1) := decide_eq_decide.mpr (by omega)
            rw [← e]; exact ⟨hl, nl⟩
        · obtain ⟨p15, b15, c6, c7⟩ := h
          rw [rng_len] at c6
          walk_at "VX"
          have em : (1 : Int) + m = (acc.length : Int) := by omega
          refine kk _ _ (defQ_made ?_ ?_ ?_ rfl e4 (fun k hk => by have := e5 k hk; simp at this; omega) (by simpa using e3) b0 (by omega) (by omega) (by omega) (by rw [← em]; exact c7)) p15 (b1.trans (b2.trans (b8.trans (b9.trans (b10.trans b15)))))
          · rw [ones_cps]; exact c2
          · rw [ones_len]; exact c1
          · intro c hc
            have : c = g := by simpa using hc
            rw [this]; exact gm
  · exact h.elim
abbrev s_law_code : Stmt := top 66
abbrev n_law_code : List Str := ["_law_script", "_law_begin", "_law_pot_here", "_law_shapes", "_law_defs", "_law_most", "_law_k"]
theorem sc_law_code : FnScope n_law_code ["_law_script", "_law_begin"] (defScope s_law_code) := ⟨rfl, rfl, rfl, by decide +kernel, rfl, by decide +kernel, by decide +kernel⟩
theorem code_shape {r : Int} (r0 : 0 ≤ r) (r1 : r < 7) : ∃ a b : Int, atI [D.tup [.int 1, .int 24], D.tup [.int 2, .int 12], D.tup [.int 3, .int 8], D.tup [.int 6, .int 4], D.tup [.int 6, .int 2], D.tup [.int 6, .int 8], D.tup [.int 6, .int 24]] r = some (.tup [.int a, .int b]) ∧ 1 ≤ a ∧ a ≤ 6 ∧ 1 ≤ b ∧ b ≤ 24 := by
  have : r = 0 ∨ r = 1 ∨ r = 2 ∨ r = 3 ∨ r = 4 ∨ r = 5 ∨ r = 6 := by omega
  rcases this with rfl | rfl | rfl | rfl | rfl | rfl | rfl
  · exact ⟨1, 24, rfl, by decide⟩
  · exact ⟨2, 12, rfl, by decide⟩
  · exact ⟨3, 8, rfl, by decide⟩
  · exact ⟨6, 4, rfl, by decide⟩
  · exact ⟨6, 2, rfl, by decide⟩
  · exact ⟨6, 8, rfl, by decide⟩
  · exact ⟨6, 24, rfl, by decide⟩
def sp_law_code : VSp := fun ds S Q => match ds with
  | [.ro ds, .int b] => (∃ ns : List Int, ds = ns.map D.int) ∧ 0 ≤ b ∧ b < 20 ∧ ∀ (d : D) (S' : Store), ProgQ numB d → Q d S'
  | _ => False
theorem ok_law_code (T : Tx K w mg) : DefV P w K mg base 6 "_law_code" ["_law_script", "_law_begin"] sp_law_code := by
  refine DefV.mk' T.f_law_code sc_law_code (fun _ _ _ _ _ _ us hl => match us, hl with | [_, _], _ => rfl) (fun f cdv A outer s H E hgd hr hcd => ⟨_, (s_cons (s_set 2 sc_law_code.nd rfl (by first | exact Or.inl rfl | exact Or.inr rfl) (v_call (ok_law_pot T) (hr.mono (by decide)) hgd rfl (a_cons (v_var 0) (a_cons (v_var 1) a_nil))))
      (s_cons (s_set 3 sc_law_code.nd rfl (by first | exact Or.inl rfl | exact Or.inr rfl) (v_lst (a_cons (v_tup (a_cons v_int (a_cons v_int a_nil))) (a_cons (v_tup (a_cons v_int (a_cons v_int a_nil))) (a_cons (v_tup (a_cons v_int (a_cons v_int a_nil))) (a_cons (v_tup (a_cons v_int (a_cons v_int a_nil))) (a_cons (v_tup (a_cons v_int (a_cons v_int a_nil))) (a_cons (v_tup (a_cons v_int (a_cons v_int a_nil))) (a_cons (v_tup (a_cons v_int (a_cons v_int a_nil))) a_nil)))))))))
      (s_cons (s_unp (is := [4, 5]) (v_sub (v_var 3) (v_call (ok_law_draw T) (hr.mono (by decide)) hgd rfl (a_cons (v_var 2) (a_cons (v_callB cv_len rfl T.b_len (by decide +kernel) (a_cons (v_var 3) a_nil)) a_nil)))) (pg_tup rfl (pgs_cons (pg_name (i := 4) sc_law_code.nd rfl (by first | exact Or.inl rfl | exact Or.inr rfl)) (pgs_cons (pg_name (i := 5) sc_law_code.nd rfl (by first | exact Or.inl rfl | exact Or.inr rfl)) pgs_nil))))
      (s_one (s_ret (v_callT cv_tuple rfl T.b_tuple (by decide +kernel) (a_cons (v_lc (c := (.one 6)) (own := [("_law_k", 6)]) recR_frz (by simp [CT.within]) rfl sc_law_code.nd (i_rng1 rfl T.b_range (v_var 4) (pi_range1 rfl T.b_range (pa_cons (v_var 4) pa_nil))) (blkOk_by (N := n_law_code) (sc := defScope s_law_code) (by decide +kernel)) (fun _ _ _ _ _ => (pg_name (i := 6) sc_law_code.nd rfl (by first | exact Or.inl rfl | exact Or.inr rfl))) (fun _ _ _ _ _ => ts_nil) (fun _ _ _ _ _ => (v_call (ok_law_def T) (hr.mono (by decide)) hgd rfl (a_cons (v_call (ok_law_pot T) (hr.mono (by decide)) hgd rfl (a_cons (v_var 0) (a_cons (v_op ov_add (v_op ov_add (v_var 1) v_int) (v_var 6)) a_nil))) (a_cons (v_var 4) (a_cons (v_var 5) a_nil)))))) a_nil))))))), ?_⟩)
  intro ds S Q hl h
  unfold sp_law_code at h
  split at h
  · rename_i c b
    obtain ⟨⟨ns, rfl⟩, h0, h1, k⟩ := h
    simp?! only [sp_law_pot, sp_law_draw]
    refine ⟨⟨ns, rfl⟩, h0, by omega, fun p S1 n1 p1 c1 => ⟨p1, by decide, by decide, fun r S2 r0 r1 p2 c2 => ?_⟩⟩
    obtain ⟨n, most, e, n1, n6, m1, m24⟩ := code_shape r0 r1
    rw [e]
    walk_at "VX"
    refine mLc_inv (rngD 0 n.toNat) (fun i acc S15 => acc.length = i ∧ ∀ e ∈ acc, DefQ numB n e) (kp := fun _ => True) (S1 := S2) (fun Qi h => ?_) (by rw [rng_len]; exact sz (by omega)) ⟨rfl, fun e he => nomatch he⟩ (fun _ _ _ _ => trivial) (fun i d acc S15 hd h => ?_) (fun acc S15 h => ?_)
    · walk_at "VX"; exact ⟨by omega, by omega, h⟩
    · obtain ⟨e6, e7⟩ := h
      obtain ⟨i', hi', rfl⟩ := rng_mem (List.mem_of_getElem? hd)
      simp?! only [sp_law_def, sp_law_pot]
      refine ⟨⟨ns, rfl⟩, by omega, by omega, fun p3 S3 n3 p3' c3 => ⟨p3', by omega, by omega, m1, m24, fun d S16 hd p16 b16 => ⟨by simp [e6], fun e he => ?_⟩⟩⟩
      rcases List.mem_append.mp he with he | he
      · exact e7 e he
      · rw [List.mem_singleton.mp he]; exact hd
    · obtain ⟨e6, e7⟩ := h
      rw [rng_len] at e6
      walk_at "VX"
      have em : n = (acc.length : Int) := by omega
      exact fin_same (k _ _ (progQ_made (by omega) (by omega) (by rw [← em]; exact e7)))
  · exact h.elim
abbrev s_law_all_homes : Stmt := top 70
abbrev n_law_all_homes : List Str := ["_law_k"]
theorem sc_law_all_homes : FnScope n_law_all_homes [] (defScope s_law_all_homes) := ⟨rfl, rfl, rfl, by decide +kernel, rfl, by decide +kernel, by decide +kernel⟩
def sp_law_all_homes : VSp := fun ds S Q => match ds with
  | [] => Q (.lst homes8) S
  | _ => False
theorem ok_law_all_homes (T : Tx K w mg) : DefV P w K mg base 1 "_law_all_homes" [] sp_law_all_homes := by
  refine DefV.mk' T.f_law_all_homes sc_law_all_homes (fun _ _ _ _ _ _ us hl => match us, hl with | [], _ => rfl) (fun f cdv A outer s H E hgd hr hcd => ⟨_, (s_one (s_ret (v_op ov_add (v_lc (c := (.one 0)) (own := [("_law_k", 0)]) recR_frz (by simp [CT.within]) rfl sc_law_all_homes.nd (i_rng1 rfl T.b_range v_int (pi_range1 rfl T.b_range (pa_cons v_int pa_nil))) (blkOk_by (N := n_law_all_homes) (sc := defScope s_law_all_homes) (by decide +kernel)) (fun _ _ _ _ _ => (pg_name (i := 0) sc_law_all_homes.nd rfl (by first | exact Or.inl rfl | exact Or.inr rfl))) (fun _ _ _ _ _ => ts_nil) (fun _ _ _ _ _ => (v_tup (a_cons v_str (a_cons (v_var 0) a_nil))))) (v_lc (c := (.one 0)) (own := [("_law_k", 0)]) recR_frz (by simp [CT.within]) rfl sc_law_all_homes.nd (i_rng1 rfl T.b_range v_int (pi_range1 rfl T.b_range (pa_cons v_int pa_nil))) (blkOk_by (N := n_law_all_homes) (sc := defScope s_law_all_homes) (by decide +kernel)) (fun _ _ _ _ _ => (pg_name (i := 0) sc_law_all_homes.nd rfl (by first | exact Or.inl rfl | exact Or.inr rfl))) (fun _ _ _ _ _ => ts_nil) (fun _ _ _ _ _ => (v_tup (a_cons v_str (a_cons (v_var 0) a_nil)))))))), ?_⟩)
  intro ds S Q hl h
  unfold sp_law_all_homes at h
  split at h
  · walk_at "VX"
    refine mLc_of (rngD 0 4) (fun d => [.tup [.str "bin", d]]) (kp := fun _ => True) (S1 := S) (fun Qi h => ?_) (by simp [rngD, sizeLine_eq]) trivial (fun d hd J h => ?_) ?_
    · walk_at "VX"; exact h
    · walk_at "VX"; exact h
    walk_at "VX"
    refine mLc_of (rngD 0 4) (fun d => [.tup [.str "peg", d]]) (kp := fun _ => True) (S1 := S) (fun Qi h => ?_) (by simp [rngD, sizeLine_eq]) trivial (fun d hd J h => ?_) ?_
    · walk_at "VX"; exact h
    · walk_at "VX"; exact h
    walk_at "VX"
    exact ⟨by rw [sizeLine_eq]; decide +kernel, fin_same h⟩
  · exact h.elim
abbrev s_law_asks : Stmt := top 68
abbrev n_law_asks : List Str := ["_law_code_here", "_law_e", "_law_line_here", "_law_part_here", "_law_thing"]
theorem sc_law_asks : FnScope n_law_asks ["_law_code_here", "_law_e", "_law_line_here"] (defScope s_law_asks) := ⟨rfl, rfl, rfl, by decide +kernel, rfl, by decide +kernel, by decide +kernel⟩
def sp_law_asks : VSp := fun ds S Q => match ds with
  | [.tup ps, .int e, .tup (.str w :: r)] => (∃ t g ks b ls, atI ps e = some (.tup [t, .str g, ks, b, ls])) ∧ (∃ es, lineTab.lookup w = some es) ∧ Q (.lst (asksW (giveI ps e) w r)) S
  | _ => False
theorem ok_law_asks (T : Tx K w mg) : DefV P w K mg base 2 "_law_asks" ["_law_code_here", "_law_e", "_law_line_here"] sp_law_asks := by
  refine DefV.mk' T.f_law_asks sc_law_asks (fun _ _ _ _ _ _ us hl => match us, hl with | [_, _, _], _ => rfl) (fun f cdv A outer s H E hgd hr hcd => ⟨_, (s_cons (s_if (t_cmp (ov_eqS hr.units0) (v_sub (v_var 2) v_int) v_str) (s_one (s_ret (v_op ov_mulA (v_lst (a_cons (v_tup (a_cons v_str (a_cons v_int a_nil))) a_nil)) (v_callT cv_int rfl T.b_int (by decide +kernel) (a_cons (v_cmp (ov_ne hr.units) (v_sub (v_sub (v_var 0) (v_var 1)) v_int) v_str) a_nil))))) s_nil)
      (s_one (s_ret (v_lc (c := (.many [3, 4])) (own := [("_law_part_here", 3), ("_law_thing", 4)]) recR_frz (by simp [CT.within]) rfl sc_law_asks.nd (i_zip rfl T.b_zip (v_call (ok_law_parts T) (hr.mono (by decide)) hgd rfl (a_cons (v_sub (v_var 2) v_int) a_nil)) (v_slc (v_var 2) (o_some v_int) o_none)) (blkOk_by (N := n_law_asks) (sc := defScope s_law_asks) (by decide +kernel)) (fun _ _ _ _ _ => (pg_tup rfl (pgs_cons (pg_name (i := 3) sc_law_asks.nd rfl (by first | exact Or.inl rfl | exact Or.inr rfl)) (pgs_cons (pg_name (i := 4) sc_law_asks.nd rfl (by first | exact Or.inl rfl | exact Or.inr rfl)) pgs_nil)))) (fun _ _ _ _ _ => (ts_one (t_cmp (ov_eqS hr.units0) (v_var 3) v_str))) (fun _ _ _ _ _ => (v_var 4)))))), ?_⟩)
  intro ds S Q hl h
  unfold sp_law_asks at h
  split at h
  · rename_i ps d w r
    obtain ⟨⟨t, g, ks, b, ls, ed⟩, ⟨es, he⟩, k⟩ := h
    have mem := look_mem he
    have l3 : es.length ≤ 3 := (table_ok _ mem).2
    have k' := fin_same k
    have eg : giveI ps d = g := by unfold giveI; rw [ed]
    rw [eg] at k'
    unfold asksW at k'
    walk_at "VX"
    by_cases e : w = "back"
    · rw [if_pos e] at k'; rw [if_pos (by simpa using e)]
      simp?! only [ed]
      by_cases e2 : g = "-"
      · rw [if_pos e2] at k'; rw [if_neg (by simpa using e2)]
        exact ⟨by decide, by decide, by rw [sizeLine_eq]; decide, k'⟩
      · rw [if_neg e2] at k'; rw [if_pos (by simpa using e2)]
        exact ⟨by decide, by decide, by rw [sizeLine_eq]; decide, k'⟩
    · rw [if_neg e] at k'; rw [if_neg (by simpa using e)]
      refine mLc_of (zipD (sgnD ⟨(es.map letN).toArray⟩) r) (fLet 114) (kp := fun _ => True) (S1 := S) (fun Qi h => ?_) (by have := lets_zip (r := r) l3; rw [sizeLine_eq]; omega) trivial (fun d hd J h => ?_) ?_
      · simp?! only [sp_law_parts]
        refine ⟨es, he, ?_⟩
        simp?! only [lettersD, cut_tail]
        exact h
      · obtain ⟨c, x, rfl⟩ := lets_mem hd
        walk_at "VX"
        simp only [fLet] at h
        rw [show Str.ofString "r" = ⟨#[114]⟩ from rfl]
        by_cases z : (⟨#[c]⟩ : Str) = ⟨#[114]⟩
        · rw [if_pos z] at h; rw [if_pos (decide_eq_true z)]; exact h
        · rw [if_neg z] at h; rw [if_neg (by simpa using z)]; exact h
      · rw [let_flat (letN_r _ mem)]
        have ep : partsW w r "read" = pickL "read" es r := by unfold partsW; rw [he]; rfl
        rw [← ep]
        exact k'
  · exact h.elim
abbrev s_law_makes : Stmt := top 69
abbrev n_law_makes : List Str := ["_law_line_here", "_law_part_here", "_law_thing"]
theorem sc_law_makes : FnScope n_law_makes ["_law_line_here"] (defScope s_law_makes) := ⟨rfl, rfl, rfl, by decide +kernel, rfl, by decide +kernel, by decide +kernel⟩
def sp_law_makes : VSp := fun ds S Q => match ds with
  | [.tup (.str w :: r)] => (∃ es, lineTab.lookup w = some es) ∧ Q (.lst (writesW w r)) S
  | _ => False
theorem ok_law_makes (T : Tx K w mg) : DefV P w K mg base 2 "_law_makes" ["_law_line_here"] sp_law_makes := by
  refine DefV.mk' T.f_law_makes sc_law_makes (fun _ _ _ _ _ _ us hl => match us, hl with | [_], _ => rfl) (fun f cdv A outer s H E hgd hr hcd => ⟨_, (s_cons (s_if (t_cmp (ov_eqS hr.units0) (v_sub (v_var 0) v_int) v_str) (s_one (s_ret (v_lst (a_cons (v_tup (a_cons v_str (a_cons v_int a_nil))) a_nil)))) s_nil)
      (s_one (s_ret (v_lc (c := (.many [1, 2])) (own := [("_law_part_here", 1), ("_law_thing", 2)]) recR_frz (by simp [CT.within]) rfl sc_law_makes.nd (i_zip rfl T.b_zip (v_call (ok_law_parts T) (hr.mono (by decide)) hgd rfl (a_cons (v_sub (v_var 0) v_int) a_nil)) (v_slc (v_var 0) (o_some v_int) o_none)) (blkOk_by (N := n_law_makes) (sc := defScope s_law_makes) (by decide +kernel)) (fun _ _ _ _ _ => (pg_tup rfl (pgs_cons (pg_name (i := 1) sc_law_makes.nd rfl (by first | exact Or.inl rfl | exact Or.inr rfl)) (pgs_cons (pg_name (i := 2) sc_law_makes.nd rfl (by first | exact Or.inl rfl | exact Or.inr rfl)) pgs_nil)))) (fun _ _ _ _ _ => (ts_one (t_cmp (ov_eqS hr.units0) (v_var 1) v_str))) (fun _ _ _ _ _ => (v_var 2)))))), ?_⟩)
  intro ds S Q hl h
  unfold sp_law_makes at h
  split at h
  · rename_i w r
    obtain ⟨⟨es, he⟩, k⟩ := h
    have mem := look_mem he
    have l3 : es.length ≤ 3 := (table_ok _ mem).2
    have k' := fin_same k
    walk_at "VX"
    unfold writesW at k'
    by_cases e : w = "call"
    · rw [if_pos e] at k'; rw [if_pos (by simpa using e)]; exact k'
    · rw [if_neg e] at k'; rw [if_neg (by simpa using e)]
      refine mLc_of (zipD (sgnD ⟨(es.map letN).toArray⟩) r) (fLet 119) (kp := fun _ => True) (S1 := S) (fun Qi h => ?_) (by have := lets_zip (r := r) l3; rw [sizeLine_eq]; omega) trivial (fun d hd J h => ?_) ?_
      · simp?! only [sp_law_parts]
        refine ⟨es, he, ?_⟩
        simp?! only [lettersD, cut_tail]
        exact h
      · obtain ⟨c, x, rfl⟩ := lets_mem hd
        walk_at "VX"
        simp only [fLet] at h
        rw [show Str.ofString "w" = ⟨#[119]⟩ from rfl]
        by_cases z : (⟨#[c]⟩ : Str) = ⟨#[119]⟩
        · rw [if_pos z] at h; rw [if_pos (decide_eq_true z)]; exact h
        · rw [if_neg z] at h; rw [if_neg (by simpa using z)]; exact h
      · rw [let_flat (letN_w _ mem)]
        have ep : partsW w r "written" = pickL "written" es r := by unfold partsW; rw [he]; rfl
        rw [← ep]
        exact k'
  · exact h.elim
abbrev s_law_behind : Stmt := top 67
abbrev n_law_behind : List Str := ["_law_line_here", "_law_i"]
theorem sc_law_behind : FnScope n_law_behind ["_law_line_here", "_law_i"] (defScope s_law_behind) := ⟨rfl, rfl, rfl, by decide +kernel, rfl, by decide +kernel, by decide +kernel⟩
def sp_law_behind : VSp := fun ds S Q => match ds with
  | [.tup (.str w :: r), .int i] => (∃ ns, nextN w r i = some ns) ∧ Q (.lst ((behI w r i).map D.int)) S
  | _ => False
theorem ok_law_behind (T : Tx K w mg) : DefV P w K mg base 1 "_law_behind" ["_law_line_here", "_law_i"] sp_law_behind := by
  refine DefV.mk' T.f_law_behind sc_law_behind (fun _ _ _ _ _ _ us hl => match us, hl with | [_, _], _ => rfl) (fun f cdv A outer s H E hgd hr hcd => ⟨_, (s_cons (s_if (t_cmp (ov_eqS hr.units0) (v_sub (v_var 0) v_int) v_str) (s_one (s_ret (v_lst a_nil))) s_nil)
      (s_cons (s_if (t_cmp (ov_eqS hr.units0) (v_sub (v_var 0) v_int) v_str) (s_one (s_ret (v_lst (a_cons (v_sub (v_var 0) v_int) a_nil)))) s_nil)
      (s_one (s_ret (v_op ov_add (v_lst (a_cons (v_op ov_add (v_var 1) v_int) a_nil)) (v_op ov_mulA (v_lst (a_cons (v_sub (v_var 0) (v_neg v_int)) a_nil)) (v_callT cv_int rfl T.b_int (by decide +kernel) (a_cons (v_cmp ov_in (v_sub (v_var 0) v_int) (v_tup (a_cons v_str (a_cons v_str (a_cons v_str a_nil))))) a_nil)))))))), ?_⟩)
  intro ds S Q hl h
  unfold sp_law_behind at h
  split at h
  · rename_i w r i
    obtain ⟨⟨ns, hn⟩, k⟩ := h
    have k' := fin_same k
    simp?! only [flatD, List.all_cons, List.all_nil, inF, List.any_cons, List.any_nil, eqF]
    have c : ∀ z : Str, (z == w) = decide (w = z) := fun z => by rw [Bool.beq_eq_decide_eq]; exact decide_eq_decide.mpr eq_comm
    simp only [c]
    unfold nextN at hn
    unfold behI at k'
    by_cases e1 : w = "back"
    · rw [if_pos e1] at k'; rw [if_pos (decide_eq_true e1)]; exact k'
    rw [if_neg e1] at hn k'; rw [if_neg (by simpa using e1)]
    by_cases e2 : w = "go"
    · rw [if_pos e2] at hn k'; rw [if_pos (decide_eq_true e2)]
      split at hn
      · cases hn
        walk_at "VX"
        exact k'
      · cases hn
    rw [if_neg e2] at hn k'; rw [if_neg (by simpa using e2)]
    by_cases e3 : w = "if" ∨ w = "ifnone" ∨ w = "same"
    · have e4 : (decide (w = "if") || (decide (w = "ifnone") || decide (w = "same"))) = true := by simpa using e3
      rw [if_pos e3] at hn k'; rw [e4]
      split at hn
      · rename_i j el
        rw [el] at k'
        simp only [atI_end el]
        walk_at "VX"
        refine ⟨by rw [sizeLine_eq]; exact (by decide : 2 ≤ 16777216), ?_⟩
        exact k'
      · cases hn
    · have e4 : (decide (w = "if") || (decide (w = "ifnone") || decide (w = "same"))) = false := by simpa using e3
      rw [if_neg e3] at hn k'; rw [e4]
      obtain ⟨z, ez⟩ : ∃ z, atI (D.str w :: r) (-1) = some z := by
        cases el : r.getLast? with
        | none =>
          have : r = [] := by simpa using el
          subst this
          exact ⟨_, rfl⟩
        | some z => exact ⟨z, atI_end el⟩
      rw [ez]
      walk_at "VX"
      refine ⟨by rw [sizeLine_eq]; decide, ?_⟩
      exact k'
  · exact h.elim
abbrev s_law_is_live : Stmt := top 71
abbrev n_law_is_live : List Str := ["_law_code_here", "_law_found", "_law_e", "_law_i", "_law_h", "_law_line_here", "_law_j"]
theorem sc_law_is_live : FnScope n_law_is_live ["_law_code_here", "_law_found", "_law_e", "_law_i", "_law_h"] (defScope s_law_is_live) := ⟨rfl, rfl, rfl, by decide +kernel, rfl, by decide +kernel, by decide +kernel⟩
def sp_law_is_live (w : World) : VSp := fun ds S Q => match ds with
  | [.tup ps, .ref f, .int d, .int a, .tup [.str s, .int k]] => Prog (.tup ps) ∧ (d, a) ∈ places ps ∧ isHome (.tup [.str s, .int k]) = true ∧ ∃ F, S f = some (.dtn w f (trG F)) ∧ ∀ b : Bool, (b = true ↔ isLv ps F ((d, a), (s, k))) → Q (.bl b) S
  | _ => False
theorem ok_law_is_live (T : Tx K w mg) : DefV P w K mg base 3 "_law_is_live" ["_law_code_here", "_law_found", "_law_e", "_law_i", "_law_h"] (sp_law_is_live w) := by
  refine DefV.mk' T.f_law_is_live sc_law_is_live (fun _ _ _ _ _ _ us hl => match us, hl with | [_, _, _, _, _], _ => rfl) (fun f cdv A outer s H E hgd hr hcd => ⟨_, (s_cons (s_set 5 sc_law_is_live.nd rfl (by first | exact Or.inl rfl | exact Or.inr rfl) (v_sub (v_sub (v_sub (v_var 0) (v_var 2)) v_int) (v_var 3)))
      (s_cons (s_if (t_cmp (ov_inD (units65 hr)) (v_var 4) (v_call (ok_law_asks T) (hr.mono (by decide)) hgd rfl (a_cons (v_var 0) (a_cons (v_var 2) (a_cons (v_var 5) a_nil))))) (s_one (s_ret v_bl)) s_nil)
      (s_cons (s_if (PW.pt (w_and (t_cmp (ov_notinD (units65 hr)) (v_var 4) (v_call (ok_law_makes T) (hr.mono (by decide)) hgd rfl (a_cons (v_var 5) a_nil))) (w_and1 (t_val (v_callB (cv_any rfl) rfl T.b_any (by decide +kernel) (a_cons (v_lc (c := (.one 6)) (own := [("_law_j", 6)]) recR_frz (by simp [CT.within]) rfl sc_law_is_live.nd (i_seq (v_call (ok_law_behind T) (hr.mono (by decide)) hgd rfl (a_cons (v_var 5) (a_cons (v_var 3) a_nil)))) (blkOk_by (N := n_law_is_live) (sc := defScope s_law_is_live) (by decide +kernel)) (fun _ _ _ _ _ => (pg_name (i := 6) sc_law_is_live.nd rfl (by first | exact Or.inl rfl | exact Or.inr rfl))) (fun _ _ _ _ _ => ts_nil) (fun _ _ _ _ _ => (v_cmp (ov_tin (w := w) rfl (units65 hr)) (v_tup (a_cons (v_var 2) (a_cons (v_var 6) (a_cons (v_var 4) a_nil)))) (v_var 1)))) a_nil)))))) (s_one (s_ret v_bl)) s_nil)
      (s_one (s_ret (v_and (v_cmp (ov_eqS hr.units0) (v_sub (v_var 5) v_int) v_str) (v_and (v_cmp (ov_eqS hr.units0) (v_sub (v_var 4) v_int) v_str) (v_one (v_cmp (ov_tin (w := w) rfl (units65 hr)) (v_tup (a_cons (v_sub (v_var 5) v_int) (a_cons v_int (a_cons (v_var 4) a_nil)))) (v_var 1)))))))))), ?_⟩)
  intro ds S Q hl h
  unfold sp_law_is_live at h
  split at h
  · rename_i ps f d a s kk
    obtain ⟨pr, hq, hh, F, ef, k⟩ := h
    obtain ⟨t, g, ks, b, ls, w', r, ns, ed, e1, e2, ea, el, ll, en, hn, l24⟩ := pr.place hq
    obtain ⟨w'', es, r', e3, he, hf, hK, l3, _⟩ := ll.ex
    simp only [D.tup.injEq, List.cons.injEq, D.str.injEq] at e3
    obtain ⟨rfl, rfl⟩ := e3
    have kk' := fun b h => fin_same (k b h)
    have rh : ∀ e ∈ partsW w' r "read", isHome e = true := fun e m => (parts_fit he hf m).1
    have wh : ∀ e ∈ writesW w' r, isHome e = true := fun e m => writes_home he hf m
    have bk : w' = "back" → partsW w' r "read" = [] := fun z => by subst z; rfl
    have ar : ∀ {h : D}, isHome h = true → (h ∈ readsI ps (d, a) ↔ h ∈ asksW (giveI ps d) w' r) := fun {h} hh => by
      unfold readsI
      rw [el]
      exact asks_reads hh rh bk
    have ah : ∀ e ∈ asksW (giveI ps d) w' r, isHome e = true := fun e m => by
      unfold asksW at m
      split at m
      · split at m
        · cases m
        · rw [List.mem_singleton.mp m]; decide +kernel
      · exact rh e m
    have ge := goP_eq2 el en (.tup [.str s, .int kk])
    simp?! only [ed, ea, sp_law_asks, sp_law_makes, sp_law_behind]
    refine ⟨⟨_, _, _, _, _, rfl⟩, ⟨es, he⟩, shaped_home hh, shaped_homes ah, by simp, ?_⟩
    by_cases c1 : inP (.tup [.str s, .int kk]) (asksW (giveI ps d) w' r) = true
    · rw [if_pos c1]
      rw [inP_homes hh ah] at c1
      exact kk' true ⟨fun _ => .inl ((ar hh).mpr c1), fun _ => rfl⟩
    rw [if_neg c1]
    rw [inP_homes hh ah] at c1
    have tail : ¬ (∃ q ∈ (if inP (.tup [.str s, .int kk]) (writesW w' r) = true then [] else ns.map fun j => ((d, j) : Pl)), (q, ((s, kk) : Hm)) ∈ F) → (if decide (w' = Str.ofString "call") = true then
                if decide (s = Str.ofString "peg") = true then
                  match atI (D.str w' :: r) 1 with
                  | some d =>
                    match keyT (D.tup [d, D.int 0, D.tup [D.str s, D.int kk]]), rdT w (D.ref f) S with
                    | some k, some kvs => okT w (D.ref f) S ∧ VL.Fin Q (D.bl (valT kvs k).isSome) S
                    | x, x_1 => False
                  | none => False
                else VL.Fin Q (D.bl false) S
              else VL.Fin Q (D.bl false) S) := by
      intro hn1
      have nl : ∀ b : Bool, (b = true ↔ ∃ q ∈ (if w' = "call" ∧ isPeg (.tup [.str s, .int kk]) = true then callP r else []), (q, ((s, kk) : Hm)) ∈ F) → (b = true ↔ isLv ps F ((d, a), (s, kk))) := fun b hb => by
        rw [hb]
        unfold isLv
        simp only [hmD]
        rw [ge, ar hh]
        constructor
        · rintro ⟨q, h1, h2⟩; exact .inr ⟨q, List.mem_append_right _ h1, h2⟩
        · rintro (h1 | ⟨q, h1, h2⟩)
          · exact absurd h1 c1
          · rcases List.mem_append.mp h1 with h1 | h1
            · exact absurd ⟨q, h1, h2⟩ hn1
            · exact ⟨q, h1, h2⟩
      by_cases hc : w' = "call"
      · rw [if_pos (by simpa using hc)]
        obtain ⟨k', er, k0, k1⟩ := pr.call_to hq (by rw [← hc]; exact el)
        rw [er] at nl ⊢
        by_cases hs : s = "peg"
        · have pg : isPeg (.tup [.str s, .int kk]) = true := decide_eq_true hs
          rw [pg] at nl
          rw [if_pos (show w' = "call" ∧ true = true from ⟨hc, rfl⟩)] at nl
          rw [if_pos (by simpa using hs)]
          simp?! only [keyT_iih, rdT_n ef, okT_n ef, trG_val]
          refine kk' _ (nl _ ?_)
          simp [callP]
        · have pg : isPeg (.tup [.str s, .int kk]) = false := decide_eq_false hs
          rw [pg] at nl
          rw [if_neg (show ¬ (w' = "call" ∧ false = true) from fun z => by cases z.2)] at nl
          rw [if_neg (by simpa using hs)]
          exact kk' _ (nl _ (by simp))
      · rw [if_neg (by simpa using hc)]
        rw [if_neg (show ¬ (w' = "call" ∧ isPeg (.tup [.str s, .int kk]) = true) from fun z => hc z.1)] at nl
        exact kk' _ (nl _ (by simp))
    refine ⟨⟨es, he⟩, shaped_home hh, shaped_homes wh, by simp, ?_⟩
    by_cases c2 : inP (.tup [.str s, .int kk]) (writesW w' r) = true
    · rw [if_neg (by rw [c2]; decide)]
      rw [if_pos c2] at tail
      exact tail (by simp)
    · rw [if_pos (by rw [Bool.not_eq_true] at c2; rw [c2]; rfl)]
      rw [if_neg c2] at tail ge
      refine mLc_of ((behI w' r a).map D.int) (fun j => match j with
        | .int j => [.bl (decide (((d, j), (s, kk)) ∈ F))]
        | _ => []) (kp := fun _ => True) (S1 := S) (fun Qi h => ?_) (by rw [List.length_map, sizeLine_eq]; have := beh_len (w := w') (r := r) (i := a); omega) trivial (fun j hj J h => ?_) ?_
      · simp?! only [sp_law_behind]; exact ⟨⟨ns, en⟩, h⟩
      · obtain ⟨j, _, rfl⟩ := List.mem_map.mp hj
        simp?! only [keyT_iih, rdT_n ef, okT_n ef, trG_val]
        exact h
      · have eb : ((behI w' r a).map D.int).flatMap (fun j => match j with
            | .int j => [.bl (decide (((d, j), (s, kk)) ∈ F))]
            | _ => []) = ((behI w' r a).map fun j => decide (((d, j), ((s, kk) : Hm)) ∈ F)).map D.bl := by
          rw [List.flatMap_map, List.map_map, List.map_eq_flatMap]; rfl
        rw [eb]
        simp?! only [bls_map]
        by_cases c3 : ((behI w' r a).map fun j => decide (((d, j), ((s, kk) : Hm)) ∈ F)).any id = true
        · rw [if_pos c3]
          refine kk' true ⟨fun _ => .inr ?_, fun _ => rfl⟩
          rw [List.any_eq_true] at c3
          obtain ⟨x, hx, hx2⟩ := c3
          obtain ⟨j, hj, rfl⟩ := List.mem_map.mp hx
          refine ⟨(d, j), ?_, by simpa using hx2⟩
          simp only [hmD]
          rw [ge]
          exact List.mem_append_left _ (List.mem_map.mpr ⟨j, (beh_next en j).mp hj, rfl⟩)
        · rw [if_neg c3]
          refine tail ?_
          rintro ⟨q, h1, h2⟩
          obtain ⟨j, hj, rfl⟩ := List.mem_map.mp h1
          refine c3 (List.any_eq_true.mpr ⟨_, List.mem_map.mpr ⟨j, (beh_next en j).mpr hj, rfl⟩, by simpa using h2⟩)
  · exact h.elim
abbrev s_law_round : Stmt := top 72
abbrev n_law_round : List Str := ["_law_code_here", "_law_found", "_law_before", "_law_e", "_law_i", "_law_h"]
theorem sc_law_round : FnScope n_law_round ["_law_code_here", "_law_found"] (defScope s_law_round) := ⟨rfl, rfl, rfl, by decide +kernel, rfl, by decide +kernel, by decide +kernel⟩
def sp_law_round (w : World) : VSp := fun ds S Q => match ds with
  | [.tup ps, .ref f] => Prog (.tup ps) ∧ ∃ F, S f = some (.dtn w f (trG F)) ∧ LvG ps F ∧ ∀ (F2 : List (Pl × Hm)) (S' : Store), S' f = some (.dtn w f (trG F2)) → (∀ b, b ≠ f → S' b = S b) → LvG ps F2 → (F.length < F2.length ∨ (F2.length = F.length ∧ ClG ps F2)) → Q (.bl (decide ((F.length : Int) < F2.length))) S'
  | _ => False
theorem ok_law_round (T : Tx K w mg) : DefV P w K mg base 4 "_law_round" ["_law_code_here", "_law_found"] (sp_law_round w) := by
  refine DefV.mk' T.f_law_round sc_law_round (fun _ _ _ _ _ _ us hl => match us, hl with | [_, _], _ => rfl) (fun f cdv A outer s H E hgd hr hcd => ⟨_, (s_cons (s_set 2 sc_law_round.nd rfl (by first | exact Or.inl rfl | exact Or.inr rfl) (v_callB (cv_lenT (w := w) rfl) rfl T.b_len (by decide +kernel) (a_cons (v_var 1) a_nil)))
      (s_cons (s_for (c := (.one 3)) PassesOwn.never rfl (i_rng1 rfl T.b_range (v_callB cv_len rfl T.b_len (by decide +kernel) (a_cons (v_var 0) a_nil)) (pi_range1 rfl T.b_range (pa_cons (v_callB cv_len rfl T.b_len (by decide +kernel) (a_cons (v_var 0) a_nil)) pa_nil))) (pg_name (i := 3) sc_law_round.nd rfl (by first | exact Or.inl rfl | exact Or.inr rfl))
      (s_one (s_for (c := (.one 4)) PassesOwn.never rfl (i_rngR rfl T.b_reversed rfl T.b_range (v_callB cv_len rfl T.b_len (by decide +kernel) (a_cons (v_sub (v_sub (v_var 0) (v_var 3)) v_int) a_nil))) (pg_name (i := 4) sc_law_round.nd rfl (by first | exact Or.inl rfl | exact Or.inr rfl))
      (s_one (s_for (c := (.one 5)) PassesOwn.never rfl (i_seq (v_call0 (ok_law_all_homes T) (hr.mono (by decide)) hgd rfl)) (pg_name (i := 5) sc_law_round.nd rfl (by first | exact Or.inl rfl | exact Or.inr rfl))
      (s_one (s_if (t_val (v_call (ok_law_is_live T) (hr.mono (by decide)) hgd rfl (a_cons (v_var 0) (a_cons (v_var 1) (a_cons (v_var 3) (a_cons (v_var 4) (a_cons (v_var 5) a_nil))))))) (s_one (s_asg v_bl (g_sett (w := w) rfl (v_var 1) (v_tup (a_cons (v_var 3) (a_cons (v_var 4) (a_cons (v_var 5) a_nil)))) (pg_sub (v_var 1) (v_tup (a_cons (v_var 3) (a_cons (v_var 4) (a_cons (v_var 5) a_nil)))) (set_dictT (units65 hr)))))) s_nil)))))))
      (s_one (s_ret (v_cmp ov_gt (v_callB (cv_lenT (w := w) rfl) rfl T.b_len (by decide +kernel) (a_cons (v_var 1) a_nil)) (v_var 2)))))), ?_⟩)
  intro ds S Q hl h
  unfold sp_law_round at h
  split at h
  · rename_i ps f
    obtain ⟨pr, F, ef, g, k⟩ := h
    have pl := places_len pr
    have sz := sizeLine_eq
    have l6 := pr.len6
    have hk := fun F2 S' a b c d => fin_same (k F2 S' a b c d)
    simp?! only [rdT_n ef, okT_n ef, trG_len]
    refine mFor_lst (rngD 0 ps.length) (fun i ρ S3 => (∃ z3 z4 z5, ρ = [some (.tup ps), some (.ref f), some (.int F.length), z3, z4, z5]) ∧ ∃ F2, S3 f = some (.dtn w f (trG F2)) ∧ (∀ b, b ≠ f → S3 b = S b) ∧ LvG ps F2 ∧ (∀ x ∈ F, x ∈ F2) ∧ F.length ≤ F2.length ∧ ∀ x : Pl × Hm, x.1 ∈ places ps → x.2 ∈ homesM → x.1.1 < (i : Int) → isLv ps F x → x ∈ F2) (kp := fun _ => True) (S1 := S) (fun Qi h => ?_) ?_ (fun _ _ _ _ => trivial) (fun i d ρ S3 hd h => ?_) (fun ρ S3 h => ?_)
    · walk_at "VX"; exact ⟨by omega, by omega, by simpa using h⟩
    · refine ⟨⟨_, _, _, rfl⟩, F, ef, fun _ _ => rfl, g, fun _ h => h, Nat.le_refl _, fun x hx _ hi _ => ?_⟩
      have := (mem_places.mp hx).1
      omega
    · obtain ⟨⟨z3, z4, z5, rfl⟩, F2, e2, k2, g2, s2, l2, c2⟩ := h
      have hi : i < ps.length := by have := getE hd; rw [rng_len] at this; omega
      have ei : d = .int i := by
        simp [rngD, hi] at hd
        exact hd.symm
      subst ei
      obtain ⟨t', g', ks', b', ls', e', l1, l24, _⟩ := pr.at (d := (i : Int)) (by omega) (by omega)
      have el := (lines_at e').1
      refine mFor_lst (rngR ls'.length) (fun j ρ S3 => (∃ z4 z5, ρ = [some (.tup ps), some (.ref f), some (.int F.length), some (.int i), z4, z5]) ∧ ∃ F2, S3 f = some (.dtn w f (trG F2)) ∧ (∀ b, b ≠ f → S3 b = S b) ∧ LvG ps F2 ∧ (∀ x ∈ F, x ∈ F2) ∧ F.length ≤ F2.length ∧ ∀ x : Pl × Hm, x.1 ∈ places ps → x.2 ∈ homesM → x.1.1 < (i : Int) ∨ (x.1.1 = i ∧ (ls'.length : Int) - j ≤ x.1.2) → isLv ps F x → x ∈ F2) (kp := fun _ => True) (S1 := S3) (fun Qi h => ?_) ?_ (fun _ _ _ _ => trivial) (fun j d ρ S4 hd h => ?_) (fun ρ S4 h => ?_)
      · simp?! only [e']; exact ⟨⟨by omega, by omega⟩, by simpa using h⟩
      · refine ⟨⟨_, _, rfl⟩, F2, e2, k2, g2, s2, l2, fun x hx hm hi lv => ?_⟩
        rcases hi with hi | hi
        · exact c2 x hx hm hi lv
        · have := (mem_places.mp hx).2.2.2
          rw [hi.1, el] at this
          omega
      · obtain ⟨⟨z4, z5, rfl⟩, F2, e2, k2, g2, s2, l2, c2⟩ := h
        have hj : j < ls'.length := by have := getE hd; simpa [rngR] using this
        have ej : d = .int ((ls'.length : Int) - 1 - j) := by
          simp [rngR, hj] at hd
          exact hd.symm
        subst ej
        have hq : (((i : Int), (ls'.length : Int) - 1 - j) : Pl) ∈ places ps := mem_places.mpr ⟨by simp, by simp; omega, by simp; omega, by rw [el]; simp; omega⟩
        refine mFor_lst homes8 (fun k ρ S3 => (∃ z5, ρ = [some (.tup ps), some (.ref f), some (.int F.length), some (.int i), some (.int ((ls'.length : Int) - 1 - j)), z5]) ∧ ∃ F2, S3 f = some (.dtn w f (trG F2)) ∧ (∀ b, b ≠ f → S3 b = S b) ∧ LvG ps F2 ∧ (∀ x ∈ F, x ∈ F2) ∧ F.length ≤ F2.length ∧ ∀ x : Pl × Hm, x.1 ∈ places ps → x.2 ∈ homesM → (x.1.1 < (i : Int) ∨ (x.1.1 = i ∧ (ls'.length : Int) - j ≤ x.1.2)) ∨ (x.1 = ((i : Int), (ls'.length : Int) - 1 - j) ∧ x.2 ∈ homesM.take k) → isLv ps F x → x ∈ F2) (kp := fun _ => True) (S1 := S4) (fun Qi h => ?_) ?_ (fun _ _ _ _ => trivial) (fun k d ρ S5 hd h => ?_) (fun ρ S5 h => ?_)
        · simp?! only [sp_law_all_homes]; exact h
        · refine ⟨⟨_, rfl⟩, F2, e2, k2, g2, s2, l2, fun x hx hm hi lv => ?_⟩
          rcases hi with hi | hi
          · exact c2 x hx hm hi lv
          · simp at hi
        · obtain ⟨⟨z5, rfl⟩, F3, e3, k3, g3, s3, l3, c3⟩ := h
          rw [homes_M, List.getElem?_map] at hd
          obtain ⟨m, em, rfl⟩ := Option.map_eq_some_iff.mp hd
          have hm := List.mem_of_getElem? em
          have et : homesM.take (k + 1) = homesM.take k ++ [m] := by rw [List.take_succ, em]; rfl
          have hh := homesM_home hm
          simp?! only [sp_law_is_live, hmD]
          refine ⟨pr, hq, hh, F3, e3, fun b hb => ?_⟩
          have gl := g3.len pl
          have c4 : ∀ F4 : List (Pl × Hm), (∀ x ∈ F3, x ∈ F4) → (isLv ps F ((((i : Int), (ls'.length : Int) - 1 - j)), m) → ((((i : Int), (ls'.length : Int) - 1 - j)), m) ∈ F4) → ∀ x : Pl × Hm, x.1 ∈ places ps → x.2 ∈ homesM → (x.1.1 < (i : Int) ∨ (x.1.1 = i ∧ (ls'.length : Int) - j ≤ x.1.2)) ∨ (x.1 = ((i : Int), (ls'.length : Int) - 1 - j) ∧ x.2 ∈ homesM.take (k + 1)) → isLv ps F x → x ∈ F4 := fun F4 h1 h2 x hx hm hi lv => by
            rcases hi with hi | ⟨hi, hi2⟩
            · exact h1 _ (c3 x hx hm (.inl hi) lv)
            · rw [et] at hi2
              rcases List.mem_append.mp hi2 with hi2 | hi2
              · exact h1 _ (c3 x hx hm (.inr ⟨hi, hi2⟩) lv)
              · obtain ⟨x1, x2⟩ := x
                simp only at hi
                have z := List.mem_singleton.mp hi2
                simp only at z
                subst hi z
                exact h2 lv
          cases b with
          | false =>
            rw [if_neg (by decide)]
            refine ⟨⟨_, rfl⟩, F3, e3, k3, g3, s3, l3, c4 F3 (fun _ h => h) fun lv => ?_⟩
            exact absurd (hb.mpr (lv.mono s3)) (by decide)
          | true =>
            rw [if_pos rfl]
            have lv := hb.mp rfl
            simp?! only [keyT_iih, e3, trG_put]
            refine ⟨by rw [trG_len]; omega, ⟨_, rfl⟩, _, rfl, fun b hb => by rw [supd_ne hb]; exact k3 b hb, g3.put hq hm lv, fun x hx => put_sub.1 x (s3 x hx), Nat.le_trans l3 put_len, c4 _ put_sub.1 fun _ => put_sub.2⟩
        · obtain ⟨⟨z5, rfl⟩, F3, e3, k3, g3, s3, l3, c3⟩ := h
          refine ⟨⟨_, _, rfl⟩, F3, e3, k3, g3, s3, l3, fun x hx hm hi lv => c3 x hx hm ?_ lv⟩
          rcases hi with hi | ⟨hi, hi2⟩
          · exact .inl (.inl hi)
          · by_cases z : (ls'.length : Int) - j ≤ x.1.2
            · exact .inl (.inr ⟨hi, z⟩)
            · have : homesM.take homes8.length = homesM := rfl
              refine .inr ⟨Prod.ext hi (by show x.1.2 = _; omega), by rw [this]; exact hm⟩
      · obtain ⟨⟨z4, z5, rfl⟩, F3, e3, k3, g3, s3, l3, c3⟩ := h
        refine ⟨⟨_, _, _, rfl⟩, F3, e3, k3, g3, s3, l3, fun x hx hm hi lv => c3 x hx hm ?_ lv⟩
        by_cases z : x.1.1 < (i : Int)
        · exact .inl z
        · have := (mem_places.mp hx).2.2.1
          have e9 : (rngR ls'.length).length = ls'.length := by simp [rngR]
          rw [e9]
          exact .inr ⟨by omega, by omega⟩
    · obtain ⟨⟨z3, z4, z5, rfl⟩, F3, e3, k3, g3, s3, l3, c3⟩ := h
      rw [rng_len] at c3
      have cl : F3.length = F.length → ClG ps F3 := fun e x hx hm lv => by
        have hs := same_len g.nd g3.nd s3 (by omega)
        exact c3 x hx hm (by have := (mem_places.mp hx).2.1; omega) (lv.mono hs)
      have hd : F.length < F3.length ∨ (F3.length = F.length ∧ ClG ps F3) := by
        by_cases z : F.length < F3.length
        · exact .inl z
        · exact .inr ⟨by omega, cl (by omega)⟩
      simp?! only [rdT_n e3, okT_n e3, trG_len]
      exact hk F3 S3 e3 k3 g3 hd
  · exact h.elim
abbrev s_law_live : Stmt := top 73
abbrev n_law_live : List Str := ["_law_code_here", "_law_found", "_law_goes_on"]
theorem sc_law_live : FnScope n_law_live ["_law_code_here"] (defScope s_law_live) := ⟨rfl, rfl, rfl, by decide +kernel, rfl, by decide +kernel, by decide +kernel⟩
def sp_law_live (w : World) : VSp := fun ds S Q => match ds with
  | [.tup ps] => Prog (.tup ps) ∧ ∀ (f : Addr) (S' : Store) (F : List (Pl × Hm)), S f = none → S' f = some (.dtn w f (trG F)) → (∀ b o, S b = some o → S' b = some o) → (∀ x, x ∈ F ↔ x.1 ∈ places ps ∧ x.2 ∈ homesM ∧ Live ps (hmD x.2) x.1) → Q (.ref f) S'
  | _ => False
theorem ok_law_live (T : Tx K w mg) : DefV P w K mg base 5 "_law_live" ["_law_code_here"] (sp_law_live w) := by
  refine DefV.mk' T.f_law_live sc_law_live (fun _ _ _ _ _ _ us hl => match us, hl with | [_], _ => rfl) (fun f cdv A outer s H E hgd hr hcd => ⟨_, (s_cons (s_set 1 sc_law_live.nd rfl (by first | exact Or.inl rfl | exact Or.inr rfl) (v_dictT0 (w := w) rfl))
      (s_cons (s_set 2 sc_law_live.nd rfl (by first | exact Or.inl rfl | exact Or.inr rfl) v_bl)
      (s_cons (s_while PassesOwn.never (t_val (v_var 2))
      (s_one (s_set 2 sc_law_live.nd rfl (by first | exact Or.inl rfl | exact Or.inr rfl) (v_call (ok_law_round T) (hr.mono (by decide)) hgd rfl (a_cons (v_var 0) (a_cons (v_var 1) a_nil))))))
      (s_one (s_ret (v_var 1)))))), ?_⟩)
  intro ds S Q hl h
  unfold sp_law_live at h
  split at h
  · rename_i ps
    obtain ⟨pr, k⟩ := h
    have pl := places_len pr
    have hk := fun f S' F a b c d => fin_same (k f S' F a b c d)
    walk_at "VX"
    intro f hf
    refine ⟨fun m ρ S3 => ∃ F go, (ρ = [some (.tup ps), some (.ref f), some (.bl go)]) ∧ S3 f = some (.dtn w f (trG F)) ∧ (∀ b, b ≠ f → S3 b = S b) ∧ LvG ps F ∧ (go = false → ClG ps F) ∧ m = 2 * (1152 - F.length) + go.toNat, ⟨_, [], true, rfl, supd_same, fun b hb => supd_ne hb, ⟨.nil, by simp⟩, by simp, rfl⟩, ?_⟩
    rintro m ρ S3 ⟨F, go, rfl, e3, k3, g, cl, em⟩
    walk_at "VX"
    cases go with
    | false =>
      walk_at "VX"
      refine hk f S3 F hf e3 (fun b o e => ?_) (clG_all g (cl rfl) pr)
      rw [k3 b (fun z => by subst z; rw [hf] at e; cases e)]; exact e
    | true =>
      simp?! only [sp_law_round]
      refine ⟨pr, F, e3, g, fun F2 S4 e4 k4 g4 hd => ?_⟩
      have l2 := g4.len pl
      refine ⟨2 * (1152 - F2.length) + (decide ((F.length : Int) < F2.length)).toNat, ?_, F2, decide ((F.length : Int) < F2.length), rfl, e4, fun b hb => by rw [k4 b hb]; exact k3 b hb, g4, fun z => ?_, rfl⟩
      · rcases hd with hd | hd
        · rw [decide_eq_true (by omega)]; simp only [Bool.toNat_true] at em ⊢; omega
        · rw [decide_eq_false (by omega)]; simp only [Bool.toNat_true, Bool.toNat_false] at em ⊢; omega
      · rcases hd with hd | hd
        · have := of_decide_eq_false z; omega
        · exact hd.2
  · exact h.elim
abbrev s_parts_of : Stmt := top 24
abbrev n_parts_of : List Str := ["line", "part", "word", "rest", "other", "one"]
theorem sc_parts_of : FnScope n_parts_of ["line", "part"] (defScope s_parts_of) := ⟨rfl, rfl, rfl, by decide +kernel, rfl, by decide +kernel, by decide +kernel⟩
def sp_parts_of : VSp := fun ds S Q => match ds with
  | [.tup (.str w :: r), .str p] => (∃ es, lineTab.lookup w = some es ∧ es.length = r.length) ∧ Q (.lst (partsW w r p)) S
  | _ => False
def fPick (p : Str) (d : D) : List D := match d with
  | .tup [.str q, x] => if q = p then [x] else []
  | _ => []
theorem pick_flat {p : Str} : ∀ {es : List (Nat × Str)} {r : List D}, (zipD (strsOf es) r).flatMap (fPick p) = pickL p es r
  | [], _ => by simp [zipD, strsOf, pickL]
  | _ :: _, [] => by simp [zipD, strsOf, pickL]
  | e :: es, d :: r => by
    have ih := pick_flat (p := p) (es := es) (r := r)
    simp only [zipD, strsOf, List.map_cons, List.zip_cons_cons, List.flatMap_cons] at ih ⊢
    rw [ih]
    simp only [fPick, pickL]
    split <;> rfl
theorem ok_parts_of (T : Tx K w mg) : DefV P w K mg base 1 "parts_of" ["line", "part"] sp_parts_of := by
  refine DefV.mk' T.f_parts_of sc_parts_of (fun _ _ _ _ _ _ us hl => match us, hl with | [_, _], _ => rfl) (fun f cdv A outer s H E hgd hr hcd => ⟨_, (s_cons (s_star (i := 2) (j := 3) (v_var 0) (pg_star rfl (pg_name (i := 2) sc_parts_of.nd rfl (by first | exact Or.inl rfl | exact Or.inr rfl)) (pg_name (i := 3) sc_parts_of.nd rfl (by first | exact Or.inl rfl | exact Or.inr rfl))))
      (s_one (s_ret (v_lc (c := (.many [4, 5])) (own := [("other", 4), ("one", 5)]) recR_frz (by simp [CT.within]) rfl sc_parts_of.nd (i_zip rfl T.b_zip (v_ksub rfl (T.c_PARTS) (v_var 2)) (v_var 3)) (blkOk_by (N := n_parts_of) (sc := defScope s_parts_of) (by decide +kernel)) (fun _ _ _ _ _ => (pg_tup rfl (pgs_cons (pg_name (i := 4) sc_parts_of.nd rfl (by first | exact Or.inl rfl | exact Or.inr rfl)) (pgs_cons (pg_name (i := 5) sc_parts_of.nd rfl (by first | exact Or.inl rfl | exact Or.inr rfl)) pgs_nil)))) (fun _ _ _ _ _ => (ts_one (t_cmp (ov_eq hr.units) (v_var 4) (v_var 1)))) (fun _ _ _ _ _ => (v_var 5)))))), ?_⟩)
  intro ds S Q hl h
  unfold sp_parts_of at h
  split at h
  · rename_i w r p
    obtain ⟨⟨es, he, len⟩, k⟩ := h
    have tok := table_ok _ (look_mem he)
    have hr : r.length ≤ 3 := by have : es.length ≤ 3 := tok.2; omega
    simp?! only [parts_look, he, Option.map_some]
    refine ⟨by omega, ?_⟩
    refine mLc_of (zipD (strsOf es) r) (fPick p) (kp := fun _ => True) (S1 := S) (fun Qi h => ?_) ?_ trivial (fun d hd J hJ => ?_) ?_
    · simp?! only [parts_look, he, Option.map_some]; exact h
    · refine Nat.le_trans (?_ : _ ≤ 1000) (by decide)
      simp only [zipD, List.length_map, List.length_zip]; omega
    · obtain ⟨q, x, rfl, hx⟩ := zip_mem hd
      walk_at "VX"
      by_cases e : q = p
      · subst e
        simp only [fPick, if_true] at hJ
        rw [if_pos (by simp)]
        exact hJ
      · simp only [fPick, e, if_false] at hJ
        rw [if_neg (by simpa using e)]
        exact hJ
    · rw [pick_flat]
      have : partsW w r p = pickL p es r := by unfold partsW; rw [he]; rfl
      rw [← this]
      exact fin_same k
  · exact h.elim
abbrev s_are_signs : Stmt := top 32
abbrev n_are_signs : List Str := ["thing", "many", "sign"]
theorem sc_are_signs : FnScope n_are_signs ["thing", "many"] (defScope s_are_signs) := ⟨rfl, rfl, rfl, by decide +kernel, rfl, by decide +kernel, by decide +kernel⟩
def sp_are_signs : VSp := fun ds S Q => match ds with
  | [d, .int m] => tyn d S ≠ "?" ∧ short d = true ∧ Q (.bl (signsB d m)) S
  | _ => False
def fSign (d : D) : List D := match d with
  | .str ⟨#[c]⟩ => [.bl (decide (c ∈ [110, 98, 45]))]
  | _ => [.bl false]
theorem sign_flat : ∀ cs : List Nat, (cs.map fun c => D.str ⟨#[c]⟩).flatMap fSign = (cs.map fun c => decide (c ∈ [110, 98, 45])).map D.bl
  | [] => rfl
  | c :: cs => by
    rw [List.map_cons, List.flatMap_cons, sign_flat cs, List.map_cons, List.map_cons]
    rfl
theorem ok_are_signs (T : Tx K w mg) : DefV P w K mg base 1 "are_signs" ["thing", "many"] sp_are_signs := by
  refine DefV.mk' T.f_are_signs sc_are_signs (fun _ _ _ _ _ _ us hl => match us, hl with | [_, _], _ => rfl) (fun f cdv A outer s H E hgd hr hcd => ⟨_, (s_one (s_ret (v_and (v_isi "str" (by decide) rfl T.b_isinstance (by decide +kernel) rfl T.b_str (by decide +kernel) (v_var 0)) (v_and (v_cmp (ov_eq hr.units) (v_callB cv_len rfl T.b_len (by decide +kernel) (a_cons (v_var 0) a_nil)) (v_var 1)) (v_one (v_callB (cv_all rfl) rfl T.b_all (by decide +kernel) (a_cons (v_lc (c := (.one 2)) (own := [("sign", 2)]) recR_frz (by simp [CT.within]) rfl sc_are_signs.nd (i_str (v_var 0)) (blkOk_by (N := n_are_signs) (sc := defScope s_are_signs) (by decide +kernel)) (fun _ _ _ _ _ => (pg_name (i := 2) sc_are_signs.nd rfl (by first | exact Or.inl rfl | exact Or.inr rfl))) (fun _ _ _ _ _ => ts_nil) (fun _ _ _ _ _ => (v_cmp ov_in (v_var 2) (v_gstr rfl T.c_SIGNS)))) a_nil))))))), ?_⟩)
  intro ds S Q hl h
  unfold sp_are_signs at h
  split at h
  · rename_i d m
    obtain ⟨h1, h2, h3⟩ := h
    have h3 := fin_same h3
    cases d with
    | str s =>
      have hs : s.length < 1000 := by simpa only [short, decide_eq_true_eq] using h2
      walk_at "VX"
      refine ⟨sz (by omega), ?_⟩
      by_cases e : (s.length : Int) = m
      · have eq : signsB (.str s) m = s.cps.toList.all fun c => decide (c ∈ [110, 98, 45]) := by simp only [signsB, e, decide_true, Bool.true_and]
        rw [eq] at h3
        rw [if_pos (by simpa using e)]
        refine mLc_of (sgnD s) fSign (kp := fun _ => True) (S1 := S) (fun Qi h => ?_) (by rw [sgn_len]; exact sz (by omega)) trivial (fun d hd J hJ => ?_) ?_
        · walk_at "VX"; exact h
        · obtain ⟨c, hc, rfl⟩ := List.mem_map.mp hd
          simp?! only [nb_cps]
          exact hJ
        · rw [show (sgnD s).flatMap fSign = _ from sign_flat s.cps.toList]
          simp?! only [rdR_lst, rdL_lst, bls_map]
          rw [List.all_map]
          exact h3
      · have eq : signsB (.str s) m = false := by simp only [signsB, e, decide_false, Bool.false_and]
        rw [eq] at h3
        rw [if_neg (by simpa using e)]
        exact h3
    | ref a =>
      rcases tyn_ref a S with e | e | e
      · simp?! only [e]; exact h3
      · simp?! only [e]; exact h3
      · exact absurd e h1
    | _ => walk_at "VX"; exact h3
  · exact h.elim
abbrev s_is_whole : Stmt := top 7
abbrev n_is_whole : List Str := ["thing"]
theorem sc_is_whole : FnScope n_is_whole ["thing"] (defScope s_is_whole) := ⟨rfl, rfl, rfl, by decide +kernel, rfl, by decide +kernel, by decide +kernel⟩
def sp_is_whole : VSp := fun ds S Q => match ds with
  | [d] => tyn d S ≠ "?" ∧ Q (.bl (isWhole d)) S
  | _ => False
theorem ok_is_whole (T : Tx K w mg) : DefV P w K mg base 1 "is_whole" ["thing"] sp_is_whole := by
  refine DefV.mk' T.f_is_whole sc_is_whole (fun _ _ _ _ _ _ us hl => match us, hl with | [_], _ => rfl) (fun f cdv A outer s H E hgd hr hcd => ⟨_, (s_one (s_ret (v_and (v_isi "int" (by decide) rfl T.b_isinstance (by decide +kernel) rfl T.b_int (by decide +kernel) (v_var 0)) (v_one (v_not (v_isi "bool" (by decide) rfl T.b_isinstance (by decide +kernel) rfl T.b_bool (by decide +kernel) (v_var 0))))))), ?_⟩)
  intro ds S Q hl h
  obtain ⟨d, rfl⟩ := len1 hl
  obtain ⟨h1, h2⟩ := h
  cases d with
  | ref a =>
    simp only [mRet, mAndV, mIsi, mVar, startD, gv, List.map_cons, List.map_nil, List.cons_append]
    refine ⟨h1, ?_⟩
    rcases tyn_ref a S with e | e | e <;> simp_all [isT, isWhole, fin_same]
  | _ => walk_at "VX"; simp_all [isT, isWhole, fin_same]
abbrev s_is_within : Stmt := top 8
abbrev n_is_within : List Str := ["thing", "least", "most"]
theorem sc_is_within : FnScope n_is_within ["thing", "least", "most"] (defScope s_is_within) := ⟨rfl, rfl, rfl, by decide +kernel, rfl, by decide +kernel, by decide +kernel⟩
def sp_is_within : VSp := fun ds S Q => match ds with
  | [d, .int a, .int b] => tyn d S ≠ "?" ∧ Q (.bl (isWithin d a b)) S
  | _ => False
theorem ok_is_within (T : Tx K w mg) : DefV P w K mg base 2 "is_within" ["thing", "least", "most"] sp_is_within := by
  refine DefV.mk' T.f_is_within sc_is_within (fun _ _ _ _ _ _ us hl => match us, hl with | [_, _, _], _ => rfl) (fun f cdv A outer s H E hgd hr hcd => ⟨_, (s_one (s_ret (v_and (v_call (ok_is_whole T) (hr.mono (by decide)) hgd rfl (a_cons (v_var 0) a_nil)) (v_one (v_chain ov_le ov_le (v_var 1) (v_var 0) (v_var 2)))))), ?_⟩)
  intro ds S Q hl h
  obtain ⟨d, x, y, rfl⟩ := len3 hl
  unfold sp_is_within at h
  split at h
  · rename_i d a b e
    cases e
    obtain ⟨h1, h2⟩ := h
    simp?! only [sp_is_whole]
    refine ⟨h1, ?_⟩
    have h3 := fin_same h2
    cases d <;> simp only [isWhole, isWithin, if_true, Bool.false_eq_true, if_false] at h3 ⊢ <;> try exact h3
    rename_i i
    by_cases h : a ≤ i
    · simp_all
    · have e : decide (a ≤ i) = false := decide_eq_false h
      rw [e] at h3 ⊢
      exact h3
  · exact h.elim
abbrev s_are_keeps : Stmt := top 33
abbrev n_are_keeps : List Str := ["thing", "one", "other", "peg"]
theorem sc_are_keeps : FnScope n_are_keeps ["thing"] (defScope s_are_keeps) := ⟨rfl, rfl, rfl, by decide +kernel, rfl, by decide +kernel, by decide +kernel⟩
def sp_are_keeps : VSp := fun ds S Q => match ds with
  | [d] => sml d = true ∧ short d = true ∧ Q (.bl (keepsB d)) S
  | _ => False
def fWith (a b : Int) (d : D) : List D := [.bl (isWithin d a b)]
theorem with_flat (a b : Int) : ∀ ds : List D, ds.flatMap (fWith a b) = (ds.map fun p => isWithin p a b).map D.bl
  | [] => rfl
  | d :: ds => by rw [List.flatMap_cons, with_flat a b ds]; rfl
def fLt (d : D) : List D := match d with
  | .tup [.int a, .int b] => [.bl (decide (a < b))]
  | _ => []
theorem rise_flat : ∀ {ds : List D}, (∀ d ∈ ds, isWhole d = true) → ∃ bs : List Bool, ((zipD ds (ds.drop 1)).flatMap fLt) = bs.map D.bl ∧ bs.all id = riseB ds
  | [], _ => ⟨[], rfl, rfl⟩
  | [a], _ => ⟨[], by simp [zipD], by cases a <;> rfl⟩
  | a :: b :: r, h => by
    obtain ⟨bs, h1, h2⟩ := rise_flat (ds := b :: r) (fun d hd => h d (List.mem_cons_of_mem _ hd))
    have ha := h a (by simp)
    have hb := h b (by simp)
    cases a <;> try (cases ha; done)
    cases b <;> try (cases hb; done)
    rename_i i j
    refine ⟨decide (i < j) :: bs, ?_, ?_⟩
    · simp only [zipD, List.drop_succ_cons, List.drop_zero, List.zip_cons_cons, List.map_cons, List.flatMap_cons] at h1 ⊢
      rw [h1]; rfl
    · simp only [List.all_cons, id, riseB, h2]
theorem within_whole {d : D} {a b : Int} (h : isWithin d a b = true) : isWhole d = true := by cases d <;> first | rfl | exact absurd h Bool.false_ne_true
theorem zip_drop {ds : List D} {d : D} (h : d ∈ zipD ds (ds.drop 1)) : ∃ a b, d = .tup [a, b] ∧ a ∈ ds ∧ b ∈ ds := by
  simp only [zipD, List.mem_map] at h
  obtain ⟨⟨a, b⟩, hm, rfl⟩ := h
  exact ⟨a, b, rfl, (List.of_mem_zip hm).1, List.mem_of_mem_drop (List.of_mem_zip hm).2⟩
theorem ok_are_keeps (T : Tx K w mg) : DefV P w K mg base 3 "are_keeps" ["thing"] sp_are_keeps := by
  refine DefV.mk' T.f_are_keeps sc_are_keeps (fun _ _ _ _ _ _ us hl => match us, hl with | [_], _ => rfl) (fun f cdv A outer s H E hgd hr hcd => ⟨_, (s_cons (s_if (PW.pt (w_or (t_not (t_val (v_isi "tuple" (by decide) rfl T.b_isinstance (by decide +kernel) rfl T.b_tuple (by decide +kernel) (v_var 0)))) (w_or1 (t_not (t_val (v_callB (cv_all rfl) rfl T.b_all (by decide +kernel) (a_cons (v_lc (c := (.one 3)) (own := [("peg", 3)]) recR_frz (by simp [CT.within]) rfl sc_are_keeps.nd (i_seq (v_var 0)) (blkOk_by (N := n_are_keeps) (sc := defScope s_are_keeps) (by decide +kernel)) (fun _ _ _ _ _ => (pg_name (i := 3) sc_are_keeps.nd rfl (by first | exact Or.inl rfl | exact Or.inr rfl))) (fun _ _ _ _ _ => ts_nil) (fun _ _ _ _ _ => (v_call (ok_is_within T) (hr.mono (by decide)) hgd rfl (a_cons (v_var 3) (a_cons v_int (a_cons (v_op ov_sub (v_gint rfl T.c_PEGS) v_int) a_nil)))))) a_nil))))))) (s_one (s_ret v_bl)) s_nil)
      (s_one (s_ret (v_callB (cv_all rfl) rfl T.b_all (by decide +kernel) (a_cons (v_lc (c := (.many [1, 2])) (own := [("one", 1), ("other", 2)]) recR_frz (by simp [CT.within]) rfl sc_are_keeps.nd (i_zip rfl T.b_zip (v_var 0) (v_slc (v_var 0) (o_some v_int) o_none)) (blkOk_by (N := n_are_keeps) (sc := defScope s_are_keeps) (by decide +kernel)) (fun _ _ _ _ _ => (pg_tup rfl (pgs_cons (pg_name (i := 1) sc_are_keeps.nd rfl (by first | exact Or.inl rfl | exact Or.inr rfl)) (pgs_cons (pg_name (i := 2) sc_are_keeps.nd rfl (by first | exact Or.inl rfl | exact Or.inr rfl)) pgs_nil)))) (fun _ _ _ _ _ => ts_nil) (fun _ _ _ _ _ => (v_cmp ov_lt (v_var 1) (v_var 2)))) a_nil))))), ?_⟩)
  intro ds S Q hl h
  unfold sp_are_keeps at h
  split at h
  · rename_i d
    obtain ⟨h1, h2, h3⟩ := h
    have h3 := fin_same h3
    have ty : tyn d S ≠ "?" := sml_tyn h1
    cases d with
    | tup ds =>
      obtain ⟨hl3, hsh⟩ := short_tup h2
      have hsm := sml_tup h1
      walk_at "VX"
      refine mLc_of ds (fWith 1 3) (kp := fun _ => True) (S1 := S) (fun Qi h => ?_) (sz (by omega)) trivial (fun d hd J hJ => ?_) ?_
      · walk_at "VX"; exact h
      · simp?! only [sp_is_within]
        exact ⟨sml_tyn (hsm d hd), hJ⟩
      · rw [with_flat]
        simp?! only [rdR_lst, rdL_lst, bls_map]
        rw [List.all_map]
        by_cases hw : ds.all (fun p => isWithin p 1 3) = true
        · have eq : keepsB (.tup ds) = riseB ds := by simp only [keepsB, hw, Bool.true_and]
          rw [eq] at h3
          rw [if_neg (by simpa using hw)]
          have wh : ∀ d ∈ ds, isWhole d = true := fun d hd => within_whole (List.all_eq_true.mp hw d hd)
          obtain ⟨bs, b1, b2⟩ := rise_flat wh
          refine mLc_of (zipD ds (ds.drop 1)) fLt (kp := fun _ => True) (S1 := S) (fun Qi h => ?_) (by rw [zip_len]; exact sz (by omega)) trivial (fun d hd J hJ => ?_) ?_
          · simp?! only [cut_tail]; exact h
          · obtain ⟨a, b, rfl, ha, hb⟩ := zip_drop hd
            have ha := wh a ha
            have hb := wh b hb
            cases a <;> try (cases ha; done)
            cases b <;> try (cases hb; done)
            walk_at "VX"
            exact hJ
          · rw [b1]
            simp?! only [rdR_lst, rdL_lst, bls_map]
            rw [b2]; exact h3
        · have eq : keepsB (.tup ds) = false := by simp only [keepsB, hw, Bool.false_and]
          rw [eq] at h3
          rw [if_pos (by simpa using hw)]
          exact h3
    | ref a => simp [sml] at h1
    | _ => walk_at "VX"; exact h3
  · exact h.elim
abbrev s_is_home : Stmt := top 9
abbrev n_is_home : List Str := ["thing"]
theorem sc_is_home : FnScope n_is_home ["thing"] (defScope s_is_home) := ⟨rfl, rfl, rfl, by decide +kernel, rfl, by decide +kernel, by decide +kernel⟩
def sp_is_home : VSp := fun ds S Q => match ds with
  | [d] => kindly S d ∧ Q (.bl (isHome d)) S
  | _ => False
theorem ok_is_home (T : Tx K w mg) : DefV P w K mg base 3 "is_home" ["thing"] sp_is_home := by
  refine DefV.mk' T.f_is_home sc_is_home (fun _ _ _ _ _ _ us hl => match us, hl with | [_], _ => rfl) (fun f cdv A outer s H E hgd hr hcd => ⟨_, (s_cons (s_if (PW.pt (w_or (t_not (t_val (v_isi "tuple" (by decide) rfl T.b_isinstance (by decide +kernel) rfl T.b_tuple (by decide +kernel) (v_var 0)))) (w_or1 (t_cmp (ov_ne hr.units) (v_callB cv_len rfl T.b_len (by decide +kernel) (a_cons (v_var 0) a_nil)) v_int)))) (s_one (s_ret v_bl)) s_nil)
      (s_cons (s_if (t_cmp (ov_eqS hr.units0) (v_sub (v_var 0) v_int) v_str) (s_one (s_ret (v_call (ok_is_within T) (hr.mono (by decide)) hgd rfl (a_cons (v_sub (v_var 0) v_int) (a_cons v_int (a_cons (v_op ov_sub (v_gint rfl T.c_PEGS) v_int) a_nil)))))) s_nil)
      (s_one (s_ret (v_and (v_cmp (ov_eqS hr.units0) (v_sub (v_var 0) v_int) v_str) (v_one (v_call (ok_is_within T) (hr.mono (by decide)) hgd rfl (a_cons (v_sub (v_var 0) v_int) (a_cons v_int (a_cons (v_op ov_sub (v_gint rfl T.c_BINS) v_int) a_nil)))))))))), ?_⟩)
  intro ds S Q hl h
  obtain ⟨d, rfl⟩ := len1 hl
  obtain ⟨h1, h2⟩ := h
  have h3 := fin_same h2
  cases d with
  | tup ds =>
    match ds, h1, h3 with
    | [], h1, h3 => walk_at "VX"; exact h3
    | [a], h1, h3 => walk_at "VX"; simpa [isHome] using h3
    | a :: b :: c :: r, h1, h3 =>
      walk_at "VX"
      rw [if_pos (by simp; omega)]
      simpa [isHome] using h3
    | [a, b], h1, h3 =>
      obtain ⟨ha, hna⟩ := h1 a (by simp)
      obtain ⟨hb, hnb⟩ := h1 b (by simp)
      simp?! only [sp_is_within]
      refine ⟨hna, ?_⟩
      cases a with
      | str z =>
        walk_at "VX"
        by_cases e1 : z = Str.ofString "peg"
        · subst e1
          walk_at "VX"
          refine ⟨hb, ?_⟩
          cases b <;> simp_all [isHome, isWithin]
        · simp?! only [e1]
          by_cases e2 : z = Str.ofString "bin"
          · subst e2
            walk_at "VX"
            refine ⟨hb, ?_⟩
            cases b <;> simp_all [isHome, isWithin]
          · simp?! only [e2]
            cases b <;> simp_all [isHome, isWithin]
      | ref a =>
        simp only [isS, Bool.false_eq_true, if_false]
        exact ⟨hna, by cases b <;> exact h3⟩
      | _ => walk_at "VX"; cases b <;> exact h3
  | ref a =>
    rcases tyn_ref a S with e | e | e
    · simp?! only [e]; exact h3
    · simp?! only [e]; exact h3
    · exact absurd e h1
  | _ => walk_at "VX"; exact h3
abbrev s_is_part : Stmt := top 22
abbrev n_is_part : List Str := ["part", "thing"]
theorem sc_is_part : FnScope n_is_part ["part", "thing"] (defScope s_is_part) := ⟨rfl, rfl, rfl, by decide +kernel, rfl, by decide +kernel, by decide +kernel⟩
def sp_is_part : VSp := fun ds S Q => match ds with
  | [.str p, d] => sml d = true ∧ Q (.bl (partB p d)) S
  | _ => False
theorem ok_is_part (T : Tx K w mg) : DefV P w K mg base 4 "is_part" ["part", "thing"] sp_is_part := by
  refine DefV.mk' T.f_is_part sc_is_part (fun _ _ _ _ _ _ us hl => match us, hl with | [_, _], _ => rfl) (fun f cdv A outer s H E hgd hr hcd => ⟨_, (s_cons (s_if (t_cmp ov_in (v_var 0) (v_tup (a_cons (v_gstr rfl T.c_WRITTEN) (a_cons (v_gstr rfl T.c_READ) a_nil)))) (s_one (s_ret (v_call (ok_is_home T) (hr.mono (by decide)) hgd rfl (a_cons (v_var 1) a_nil)))) s_nil)
      (s_cons (s_if (t_cmp (ov_eq hr.units) (v_var 0) (v_gstr rfl T.c_NUMBER)) (s_one (s_ret (v_call (ok_is_whole T) (hr.mono (by decide)) hgd rfl (a_cons (v_var 1) a_nil)))) s_nil)
      (s_cons (s_if (t_cmp (ov_eq hr.units) (v_var 0) (v_gstr rfl T.c_FEW)) (s_one (s_ret (v_call (ok_is_within T) (hr.mono (by decide)) hgd rfl (a_cons (v_var 1) (a_cons v_int (a_cons (v_gint rfl T.c_MOST_OF_A_BOX) a_nil)))))) s_nil)
      (s_cons (s_if (t_cmp (ov_eq hr.units) (v_var 0) (v_gstr rfl T.c_FIELD)) (s_one (s_ret (v_call (ok_is_within T) (hr.mono (by decide)) hgd rfl (a_cons (v_var 1) (a_cons v_int (a_cons (v_gint rfl T.c_LAST_FIELD) a_nil)))))) s_nil)
      (s_one (s_ret (v_and (v_call (ok_is_whole T) (hr.mono (by decide)) hgd rfl (a_cons (v_var 1) a_nil)) (v_one (v_cmp ov_ge (v_var 1) v_int))))))))), ?_⟩)
  intro ds S Q hl h
  unfold sp_is_part at h
  split at h
  · rename_i p d
    obtain ⟨h1, h2⟩ := h
    have h3 := fin_same h2
    have ty : tyn d S ≠ "?" := sml_tyn h1
    simp?! only [flatD, List.all_cons, List.all_nil, inF, List.any_cons, List.any_nil, eqF, sp_is_home, sp_is_whole, sp_is_within]
    have c : ∀ z : Str, (z == p) = decide (p = z) := fun z => by rw [Bool.beq_eq_decide_eq]; exact decide_eq_decide.mpr eq_comm
    simp only [c]
    unfold partB at h3
    by_cases e1 : p = "written" ∨ p = "read"
    · rw [if_pos e1] at h3; rw [if_pos (by simpa using e1)]; exact ⟨sml_kindly h1, h3⟩
    rw [if_neg e1] at h3; rw [if_neg (by simpa using e1)]
    by_cases e2 : p = "number"
    · rw [if_pos e2] at h3; rw [if_pos (by simpa using e2)]; exact ⟨ty, h3⟩
    rw [if_neg e2] at h3; rw [if_neg (by simpa using e2)]
    by_cases e4 : p = "few"
    · rw [if_pos e4] at h3; rw [if_pos (by simpa using e4)]; exact ⟨ty, h3⟩
    rw [if_neg e4] at h3; rw [if_neg (by simpa using e4)]
    by_cases e5 : p = "field"
    · rw [if_pos e5] at h3; rw [if_pos (by simpa using e5)]; exact ⟨ty, h3⟩
    rw [if_neg e5] at h3; rw [if_neg (by simpa using e5)]
    refine ⟨ty, ?_⟩
    cases d <;> exact h3
  · exact h.elim
abbrev s_is_line : Stmt := top 23
abbrev n_is_line : List Str := ["thing", "parts", "word", "rest", "part", "one"]
theorem sc_is_line : FnScope n_is_line ["thing"] (defScope s_is_line) := ⟨rfl, rfl, rfl, by decide +kernel, rfl, by decide +kernel, by decide +kernel⟩
def sp_is_line : VSp := fun ds S Q => match ds with
  | [d] => sml d = true ∧ (∀ es, d = .tup es → es.length < 1000) ∧ Q (.bl (lineD d)) S
  | _ => False
theorem ok_is_line (T : Tx K w mg) : DefV P w K mg base 5 "is_line" ["thing"] sp_is_line := by
  refine DefV.mk' T.f_is_line sc_is_line (fun _ _ _ _ _ _ us hl => match us, hl with | [_], _ => rfl) (fun f cdv A outer s H E hgd hr hcd => ⟨_, (s_cons (s_if (PW.pt (w_or (t_not (t_val (v_isi "tuple" (by decide) rfl T.b_isinstance (by decide +kernel) rfl T.b_tuple (by decide +kernel) (v_var 0)))) (w_or (t_cmp (ov_eqT0 hr.units0) (v_var 0) (v_tup a_nil)) (w_or (t_not (t_val (v_isi "str" (by decide) rfl T.b_isinstance (by decide +kernel) rfl T.b_str (by decide +kernel) (v_sub (v_var 0) v_int)))) (w_or1 (t_knotin rfl (T.c_PARTS) (v_sub (v_var 0) v_int))))))) (s_one (s_ret v_bl)) s_nil)
      (s_cons (s_star (i := 2) (j := 3) (v_var 0) (pg_star rfl (pg_name (i := 2) sc_is_line.nd rfl (by first | exact Or.inl rfl | exact Or.inr rfl)) (pg_name (i := 3) sc_is_line.nd rfl (by first | exact Or.inl rfl | exact Or.inr rfl))))
      (s_cons (s_set 1 sc_is_line.nd rfl (by first | exact Or.inl rfl | exact Or.inr rfl) (v_ksub rfl (T.c_PARTS) (v_var 2)))
      (s_one (s_ret (v_and (v_cmp (ov_eq hr.units) (v_callB cv_len rfl T.b_len (by decide +kernel) (a_cons (v_var 1) a_nil)) (v_callB cv_len rfl T.b_len (by decide +kernel) (a_cons (v_var 3) a_nil))) (v_one (v_callB (cv_all rfl) rfl T.b_all (by decide +kernel) (a_cons (v_lc (c := (.many [4, 5])) (own := [("part", 4), ("one", 5)]) recR_frz (by simp [CT.within]) rfl sc_is_line.nd (i_zip rfl T.b_zip (v_var 1) (v_var 3)) (blkOk_by (N := n_is_line) (sc := defScope s_is_line) (by decide +kernel)) (fun _ _ _ _ _ => (pg_tup rfl (pgs_cons (pg_name (i := 4) sc_is_line.nd rfl (by first | exact Or.inl rfl | exact Or.inr rfl)) (pgs_cons (pg_name (i := 5) sc_is_line.nd rfl (by first | exact Or.inl rfl | exact Or.inr rfl)) pgs_nil)))) (fun _ _ _ _ _ => ts_nil) (fun _ _ _ _ _ => (v_call (ok_is_part T) (hr.mono (by decide)) hgd rfl (a_cons (v_var 4) (a_cons (v_var 5) a_nil))))) a_nil))))))))), ?_⟩)
  intro ds S Q hl h
  obtain ⟨d, rfl⟩ := len1 hl
  obtain ⟨h1, hlen, h2⟩ := h
  have h3 := fin_same h2
  have ty : tyn d S ≠ "?" := sml_tyn h1
  cases d with
  | tup ds =>
    match ds, h1, h3, hlen with
    | [], h1, h3, _ => walk_at "VX"; exact h3
    | a :: r, h1, h3, hlen =>
      have hr1 : (a :: r).length < 1000 := hlen _ rfl
      have hsm : smlL (a :: r) = true := by simpa only [sml] using h1
      have ha : sml a = true := smlL_mem hsm (by simp)
      walk_at "VX"
      rw [if_neg (by simp)]
      refine ⟨sml_tyn ha, ?_⟩
      cases a with
      | str z =>
        simp?! only [parts_look]
        cases e : lineTab.lookup z with
        | none =>
          have : lineD (.tup (.str z :: r)) = false := by simp only [lineD, e]
          rw [this] at h3
          simp?! only [Option.map_none, Option.isSome_none]
          exact h3
        | some es =>
          have hl3 : lineD (.tup (.str z :: r)) = fitsAll es r := by simp only [lineD, e]
          have tok := table_ok _ (look_mem e)
          rw [hl3] at h3
          simp?! only [Option.map_some, Option.isSome_some]
          refine ⟨by simp at hr1; omega, ?_⟩
          by_cases le : es.length = r.length
          · have le2 : (((strsOf es).length : Nat) : Int) = ((r.length : Nat) : Int) := by simp only [strsOf, List.length_map]; omega
            rw [if_pos (decide_eq_true le2)]
            refine mLc_of (zipD (strsOf es) r) fP (kp := fun _ => True) (S1 := S) (fun Qi h => ?_) ?_ trivial (fun d hd J hJ => ?_) ?_
            · walk_at "VX"; exact h
            · refine Nat.le_trans (?_ : _ ≤ 1000) (by decide)
              simp only [zipD, List.length_map, List.length_zip]
              simp at hr1
              omega
            · obtain ⟨p, x, rfl, hx⟩ := zip_mem hd
              simp?! only [sp_is_part]
              exact ⟨smlL_mem hsm (List.mem_cons_of_mem _ hx), hJ⟩
            · obtain ⟨bs, b1, b2⟩ := parts_bls le tok.1
              simp?! only [b1, b2]
              exact h3
          · have le2 : ¬ (((strsOf es).length : Nat) : Int) = ((r.length : Nat) : Int) := by simp only [strsOf, List.length_map]; omega
            rw [if_neg (by simpa using le2)]
            rw [fits_len le] at h3
            exact h3
      | ref a => simp [sml] at ha
      | _ => walk_at "VX"; exact h3
  | ref a => simp [sml] at h1
  | _ => walk_at "VX"; exact h3
abbrev s_are_lines : Stmt := top 34
abbrev n_are_lines : List Str := ["thing", "one"]
theorem sc_are_lines : FnScope n_are_lines ["thing"] (defScope s_are_lines) := ⟨rfl, rfl, rfl, by decide +kernel, rfl, by decide +kernel, by decide +kernel⟩
def sp_are_lines : VSp := fun ds S Q => match ds with
  | [d] => sml d = true ∧ short d = true ∧ Q (.bl (linesB d)) S
  | _ => False
def fLine (d : D) : List D := [.bl (lineD d)]
theorem line_flat : ∀ ds : List D, ds.flatMap fLine = (ds.map lineD).map D.bl
  | [] => rfl
  | d :: ds => by rw [List.flatMap_cons, line_flat ds]; rfl
theorem ok_are_lines (T : Tx K w mg) : DefV P w K mg base 6 "are_lines" ["thing"] sp_are_lines := by
  refine DefV.mk' T.f_are_lines sc_are_lines (fun _ _ _ _ _ _ us hl => match us, hl with | [_], _ => rfl) (fun f cdv A outer s H E hgd hr hcd => ⟨_, (s_one (s_ret (v_and (v_isi "tuple" (by decide) rfl T.b_isinstance (by decide +kernel) rfl T.b_tuple (by decide +kernel) (v_var 0)) (v_and (v_chain ov_le ov_le v_int (v_callB cv_len rfl T.b_len (by decide +kernel) (a_cons (v_var 0) a_nil)) (v_gint rfl T.c_MOST_LINES)) (v_one (v_callB (cv_all rfl) rfl T.b_all (by decide +kernel) (a_cons (v_lc (c := (.one 1)) (own := [("one", 1)]) recR_frz (by simp [CT.within]) rfl sc_are_lines.nd (i_seq (v_var 0)) (blkOk_by (N := n_are_lines) (sc := defScope s_are_lines) (by decide +kernel)) (fun _ _ _ _ _ => (pg_name (i := 1) sc_are_lines.nd rfl (by first | exact Or.inl rfl | exact Or.inr rfl))) (fun _ _ _ _ _ => ts_nil) (fun _ _ _ _ _ => (v_call (ok_is_line T) (hr.mono (by decide)) hgd rfl (a_cons (v_var 1) a_nil)))) a_nil))))))), ?_⟩)
  intro ds S Q hl h
  unfold sp_are_lines at h
  split at h
  · rename_i d
    obtain ⟨h1, h2, h3⟩ := h
    have h3 := fin_same h3
    cases d with
    | tup ds =>
      obtain ⟨hl3, hsh⟩ := short_tup h2
      have hsm := sml_tup h1
      walk_at "VX"
      have e0 : ∀ a b : Bool, decide ((1 : Int) ≤ (ds.length : Int)) = decide (1 ≤ ds.length) := fun _ _ => decide_eq_decide.mpr (by omega)
      have e1 : decide ((ds.length : Int) ≤ 24) = decide (ds.length ≤ 24) := decide_eq_decide.mpr (by omega)
      simp only [e0 true true, e1]
      by_cases hn : (decide (1 ≤ ds.length) && decide (ds.length ≤ 24)) = true
      · have eq : linesB (.tup ds) = ds.all lineD := by simp only [linesB, hn, Bool.true_and]
        rw [eq] at h3
        simp only [Bool.and_eq_true] at hn
        rw [if_pos hn.1, if_pos hn.2]
        refine mLc_of ds fLine (kp := fun _ => True) (S1 := S) (fun Qi h => ?_) (sz (by omega)) trivial (fun d hd J hJ => ?_) ?_
        · walk_at "VX"; exact h
        · simp?! only [sp_is_line]
          exact ⟨hsm d hd, fun es e => by subst e; exact (short_tup (hsh _ hd)).1, hJ⟩
        · rw [line_flat]
          simp?! only [rdR_lst, rdL_lst, bls_map]
          rw [List.all_map]
          exact h3
      · have eq : linesB (.tup ds) = false := by simp only [linesB, hn, Bool.false_and]
        rw [eq] at h3
        by_cases h4 : decide (1 ≤ ds.length) = true
        · have h5 : ¬ decide (ds.length ≤ 24) = true := fun z => hn (by rw [h4, z]; rfl)
          rw [if_pos h4, if_neg h5]; exact h3
        · rw [if_neg h4]; exact h3
    | ref a => simp [sml] at h1
    | _ => walk_at "VX"; exact h3
  · exact h.elim
abbrev s_next_lines : Stmt := top 27
abbrev n_next_lines : List Str := ["line", "at"]
theorem sc_next_lines : FnScope n_next_lines ["line", "at"] (defScope s_next_lines) := ⟨rfl, rfl, rfl, by decide +kernel, rfl, by decide +kernel, by decide +kernel⟩
def sp_next_lines : VSp := fun ds S Q => match ds with
  | [.tup (.str w :: ps), .int at_] => ∃ ns, nextN w ps at_ = some ns ∧ Q (.lst (ns.map D.int)) S
  | _ => False
theorem ok_next_lines (T : Tx K w mg) : DefV P w K mg base 1 "next_lines" ["line", "at"] sp_next_lines := by
  refine DefV.mk' T.f_next_lines sc_next_lines (fun _ _ _ _ _ _ us hl => match us, hl with | [_, _], _ => rfl) (fun f cdv A outer s H E hgd hr hcd => ⟨_, (s_cons (s_if (t_cmp (ov_eqS hr.units0) (v_sub (v_var 0) v_int) v_str) (s_one (s_ret (v_lst a_nil))) s_nil)
      (s_cons (s_if (t_cmp (ov_eqS hr.units0) (v_sub (v_var 0) v_int) v_str) (s_one (s_ret (v_lst (a_cons (v_sub (v_var 0) v_int) a_nil)))) s_nil)
      (s_cons (s_if (t_cmp ov_in (v_sub (v_var 0) v_int) (v_gtup rfl T.c_CHOOSING)) (s_one (s_ret (v_sort2 rfl (kds_codeIn hcd) rfl T.b_sorted (v_op ov_add (v_var 1) v_int) (v_sub (v_var 0) (v_neg v_int))))) s_nil)
      (s_one (s_ret (v_lst (a_cons (v_op ov_add (v_var 1) v_int) a_nil))))))), ?_⟩)
  intro ds S Q hl h
  unfold sp_next_lines at h
  split at h
  · rename_i w ps at_
    obtain ⟨ns, hn, k⟩ := h
    have k' := fin_same k
    simp?! only [flatD, List.all_cons, List.all_nil, inF, List.any_cons, List.any_nil, eqF]
    have c : ∀ z : Str, (z == w) = decide (w = z) := fun z => by rw [Bool.beq_eq_decide_eq]; exact decide_eq_decide.mpr eq_comm
    simp only [c]
    unfold nextN at hn
    by_cases e1 : w = "back"
    · rw [if_pos e1] at hn; cases hn; rw [if_pos (decide_eq_true e1)]; exact k'
    rw [if_neg e1] at hn; rw [if_neg (by simpa using e1)]
    by_cases e2 : w = "go"
    · rw [if_pos e2] at hn; rw [if_pos (decide_eq_true e2)]
      split at hn
      · rename_i i r
        cases hn
        walk_at "VX"
        exact k'
      · cases hn
    rw [if_neg e2] at hn; rw [if_neg (by simpa using e2)]
    by_cases e3 : w = "if" ∨ w = "ifnone" ∨ w = "same"
    · rw [if_pos e3] at hn; rw [if_pos (by simpa using e3)]
      split at hn
      · rename_i i el
        cases hn
        rw [atI_end el]
        exact fin_frz k
      · cases hn
    · rw [if_neg e3] at hn; cases hn; rw [if_neg (by simpa using e3)]; exact k'
  · exact h.elim
abbrev s_stays_within : Stmt := top 35
abbrev n_stays_within : List Str := ["line", "at", "many", "other"]
theorem sc_stays_within : FnScope n_stays_within ["line", "at", "many"] (defScope s_stays_within) := ⟨rfl, rfl, rfl, by decide +kernel, rfl, by decide +kernel, by decide +kernel⟩
def sp_stays_within : VSp := fun ds S Q => match ds with
  | [l, .int at_, .int many] => lineD l = true ∧ Q (.bl (stayB l at_ many)) S
  | _ => False
def fLess (many : Int) (d : D) : List D := [.bl (ltI many d)]
theorem less_flat (many : Int) : ∀ ds : List D, ds.flatMap (fLess many) = (ds.map (ltI many)).map D.bl
  | [] => rfl
  | d :: ds => by rw [List.flatMap_cons, less_flat many ds]; rfl
theorem goal_int {w : Str} {r : List D} {es : List (Nat × Str)} (he : lineTab.lookup w = some es) (hf : fitsAll es r = true) {p : Str} (hp : p = "goal" ∨ p = "called") {d : D} (h : d ∈ partsW w r p) : ∃ i : Int, d = .int i ∧ 0 ≤ i := by
  have := (parts_fit he hf h).1
  rcases hp with rfl | rfl
  · exact isFrom_ex this
  · exact isFrom_ex this
theorem ok_stays_within (T : Tx K w mg) : DefV P w K mg base 2 "stays_within" ["line", "at", "many"] sp_stays_within := by
  refine DefV.mk' T.f_stays_within sc_stays_within (fun _ _ _ _ _ _ us hl => match us, hl with | [_, _, _], _ => rfl) (fun f cdv A outer s H E hgd hr hcd => ⟨_, (s_one (s_ret (v_callB (cv_all rfl) rfl T.b_all (by decide +kernel) (a_cons (v_lc (c := (.one 3)) (own := [("other", 3)]) recR_frz (by simp [CT.within]) rfl sc_stays_within.nd (i_seq (v_op ov_add (v_call (ok_next_lines T) (hr.mono (by decide)) hgd rfl (a_cons (v_var 0) (a_cons (v_var 1) a_nil))) (v_call (ok_parts_of T) (hr.mono (by decide)) hgd rfl (a_cons (v_var 0) (a_cons (v_gstr rfl T.c_GOAL) a_nil))))) (blkOk_by (N := n_stays_within) (sc := defScope s_stays_within) (by decide +kernel)) (fun _ _ _ _ _ => (pg_name (i := 3) sc_stays_within.nd rfl (by first | exact Or.inl rfl | exact Or.inr rfl))) (fun _ _ _ _ _ => ts_nil) (fun _ _ _ _ _ => (v_cmp ov_lt (v_var 3) (v_var 2)))) a_nil)))), ?_⟩)
  intro ds S Q hl h
  unfold sp_stays_within at h
  split at h
  · rename_i l at_ many
    obtain ⟨h1, h3⟩ := h
    have h3 := fin_same h3
    obtain ⟨w, r, es, rfl, he, hf⟩ := lineD_ex h1
    obtain ⟨ns, hn, hnl, _⟩ := next_ex he hf at_
    have eq : stayB (.tup (.str w :: r)) at_ many = (ns.map D.int ++ partsW w r "goal").all (ltI many) := by simp only [stayB, hn]
    rw [eq] at h3
    simp?! only [sp_next_lines, sp_parts_of]
    refine mLc_of (ns.map D.int ++ partsW w r "goal") (fLess many) (kp := fun _ => True) (S1 := S) (fun Qi h => ?_) ?_ trivial (fun d hd J hJ => ?_) ?_
    · simp?! only [sp_next_lines, sp_parts_of]
      exact ⟨ns, hn, ⟨es, he, fits_length hf⟩, sz (by rw [List.length_map]; have := partsW_len w r "goal"; omega), h⟩
    · rw [List.length_append, List.length_map]
      exact sz (by have := partsW_len w r "goal"; omega)
    · have : ∃ i : Int, d = .int i := by
        rcases List.mem_append.mp hd with h | h
        · obtain ⟨i, _, rfl⟩ := List.mem_map.mp h; exact ⟨i, rfl⟩
        · obtain ⟨i, rfl, _⟩ := goal_int he hf (.inl rfl) h; exact ⟨i, rfl⟩
      obtain ⟨i, rfl⟩ := this
      walk_at "VX"
      exact hJ
    · rw [less_flat]
      simp?! only [rdR_lst, rdL_lst, bls_map]
      rw [List.all_map]
      exact h3
  · exact h.elim
abbrev s_writes : Stmt := top 26
abbrev n_writes : List Str := ["line"]
theorem sc_writes : FnScope n_writes ["line"] (defScope s_writes) := ⟨rfl, rfl, rfl, by decide +kernel, rfl, by decide +kernel, by decide +kernel⟩
def sp_writes : VSp := fun ds S Q => match ds with
  | [.tup (.str w :: r)] => (∃ es, lineTab.lookup w = some es ∧ es.length = r.length) ∧ Q (.lst (writesW w r)) S
  | _ => False
theorem ok_writes (T : Tx K w mg) : DefV P w K mg base 2 "writes" ["line"] sp_writes := by
  refine DefV.mk' T.f_writes sc_writes (fun _ _ _ _ _ _ us hl => match us, hl with | [_], _ => rfl) (fun f cdv A outer s H E hgd hr hcd => ⟨_, (s_cons (s_if (t_cmp (ov_eqS hr.units0) (v_sub (v_var 0) v_int) v_str) (s_one (s_ret (v_lst (a_cons (v_tup (a_cons v_str (a_cons v_int a_nil))) a_nil)))) s_nil)
      (s_one (s_ret (v_call (ok_parts_of T) (hr.mono (by decide)) hgd rfl (a_cons (v_var 0) (a_cons (v_gstr rfl T.c_WRITTEN) a_nil)))))), ?_⟩)
  intro ds S Q hl h
  unfold sp_writes at h
  split at h
  · rename_i w r
    obtain ⟨he, h3⟩ := h
    have h3 := fin_same h3
    simp?! only [sp_parts_of]
    unfold writesW at h3
    by_cases e : w = "call"
    · rw [if_pos e] at h3; rw [if_pos (by simpa using e)]; exact h3
    · rw [if_neg e] at h3; rw [if_neg (by simpa using e)]; exact ⟨he, h3⟩
  · exact h.elim
abbrev s_has_own_homes : Stmt := top 36
abbrev n_has_own_homes : List Str := ["line", "keeps", "bins", "homes", "word", "k"]
theorem sc_has_own_homes : FnScope n_has_own_homes ["line", "keeps", "bins"] (defScope s_has_own_homes) := ⟨rfl, rfl, rfl, by decide +kernel, rfl, by decide +kernel, by decide +kernel⟩
def sp_has_own_homes : VSp := fun ds S Q => match ds with
  | [l, .tup ks, .int bins] => lineD l = true ∧ (∀ k ∈ ks, isWhole k = true) ∧ Q (.bl (ownB l ks bins)) S
  | _ => False
def fHome (x : Str) (g : D → Bool) (d : D) : List D := match d with
  | .tup [.str s, .int _] => if s = x then [.bl (g d)] else []
  | _ => []
theorem home_flat {x : Str} {g : D → Bool} (hg : ∀ s k, s ≠ x → g (.tup [.str s, .int k]) = true) : ∀ {ds : List D}, (∀ d ∈ ds, isHome d = true) → ∃ bs : List Bool, ds.flatMap (fHome x g) = bs.map D.bl ∧ bs.all id = ds.all g
  | [], _ => ⟨[], rfl, rfl⟩
  | d :: ds, h => by
    obtain ⟨bs, h1, h2⟩ := home_flat hg (ds := ds) (fun e he => h e (List.mem_cons_of_mem _ he))
    obtain ⟨b, k, rfl, _, _⟩ := isHome_ex (h d (by simp))
    generalize (if b then ("peg" : Str) else "bin") = s
    rw [List.flatMap_cons, h1]
    by_cases e : s = x
    · exact ⟨g (.tup [.str s, .int k]) :: bs, by simp [fHome, e], by simp [h2]⟩
    · exact ⟨bs, by simp [fHome, e], by simp [h2, hg s k e]⟩
theorem homes_of {w : Str} {r : List D} {es : List (Nat × Str)} (he : lineTab.lookup w = some es) (hf : fitsAll es r = true) {p : Str} (hp : p = "read" ∨ p = "written") {d : D} (h : d ∈ partsW w r p) : isHome d = true := by
  have := (parts_fit he hf h).1
  rcases hp with rfl | rfl
  · exact this
  · exact this
theorem flat_ints {ks : List D} (h : ∀ k ∈ ks, isWhole k = true) : ks.all flatD = true := List.all_eq_true.mpr fun k hk => by
  have := h k hk
  cases k <;> first | rfl | exact absurd this Bool.false_ne_true
theorem ok_has_own_homes (T : Tx K w mg) : DefV P w K mg base 3 "has_own_homes" ["line", "keeps", "bins"] sp_has_own_homes := by
  refine DefV.mk' T.f_has_own_homes sc_has_own_homes (fun _ _ _ _ _ _ us hl => match us, hl with | [_, _, _], _ => rfl) (fun f cdv A outer s H E hgd hr hcd => ⟨_, (s_cons (s_set 3 sc_has_own_homes.nd rfl (by first | exact Or.inl rfl | exact Or.inr rfl) (v_op ov_add (v_call (ok_parts_of T) (hr.mono (by decide)) hgd rfl (a_cons (v_var 0) (a_cons (v_gstr rfl T.c_READ) a_nil))) (v_call (ok_parts_of T) (hr.mono (by decide)) hgd rfl (a_cons (v_var 0) (a_cons (v_gstr rfl T.c_WRITTEN) a_nil)))))
      (s_cons (s_if (t_not (t_val (v_callB (cv_all rfl) rfl T.b_all (by decide +kernel) (a_cons (v_lc (c := (.many [4, 5])) (own := [("word", 4), ("k", 5)]) recR_frz (by simp [CT.within]) rfl sc_has_own_homes.nd (i_seq (v_var 3)) (blkOk_by (N := n_has_own_homes) (sc := defScope s_has_own_homes) (by decide +kernel)) (fun _ _ _ _ _ => (pg_tup rfl (pgs_cons (pg_name (i := 4) sc_has_own_homes.nd rfl (by first | exact Or.inl rfl | exact Or.inr rfl)) (pgs_cons (pg_name (i := 5) sc_has_own_homes.nd rfl (by first | exact Or.inl rfl | exact Or.inr rfl)) pgs_nil)))) (fun _ _ _ _ _ => (ts_one (t_cmp (ov_eqS hr.units0) (v_var 4) v_str))) (fun _ _ _ _ _ => (v_cmp ov_lt (v_var 5) (v_var 2)))) a_nil)))) (s_one (s_ret v_bl)) s_nil)
      (s_one (s_ret (v_callB (cv_all rfl) rfl T.b_all (by decide +kernel) (a_cons (v_lc (c := (.many [4, 5])) (own := [("word", 4), ("k", 5)]) recR_frz (by simp [CT.within]) rfl sc_has_own_homes.nd (i_seq (v_call (ok_writes T) (hr.mono (by decide)) hgd rfl (a_cons (v_var 0) a_nil))) (blkOk_by (N := n_has_own_homes) (sc := defScope s_has_own_homes) (by decide +kernel)) (fun _ _ _ _ _ => (pg_tup rfl (pgs_cons (pg_name (i := 4) sc_has_own_homes.nd rfl (by first | exact Or.inl rfl | exact Or.inr rfl)) (pgs_cons (pg_name (i := 5) sc_has_own_homes.nd rfl (by first | exact Or.inl rfl | exact Or.inr rfl)) pgs_nil)))) (fun _ _ _ _ _ => (ts_one (t_cmp (ov_eqS hr.units0) (v_var 4) v_str))) (fun _ _ _ _ _ => (v_or (v_cmp (ov_eq hr.units) (v_var 5) v_int) (v_one (v_cmp ov_in (v_var 5) (v_var 1)))))) a_nil)))))), ?_⟩)
  intro ds S Q hl h
  unfold sp_has_own_homes at h
  split at h
  · rename_i l ks bins
    obtain ⟨h1, hk, h3⟩ := h
    have h3 := fin_same h3
    obtain ⟨w, r, es, rfl, he, hf⟩ := lineD_ex h1
    have hes : ∃ es, lineTab.lookup w = some es ∧ es.length = r.length := ⟨es, he, fits_length hf⟩
    have l1 := partsW_len w r "read"
    have l2 := partsW_len w r "written"
    simp?! only [sp_parts_of]
    refine ⟨hes, hes, sz (by omega), ?_⟩
    have hh : ∀ d ∈ partsW w r "read" ++ partsW w r "written", isHome d = true := fun d hd => (List.mem_append.mp hd).elim (homes_of he hf (.inl rfl)) (homes_of he hf (.inr rfl))
    have hw : ∀ d ∈ writesW w r, isHome d = true := by
      intro d hd
      unfold writesW at hd
      split at hd
      · simp only [List.mem_cons, List.not_mem_nil, or_false] at hd; subst hd; decide +kernel
      · exact homes_of he hf (.inr rfl) hd
    have lw : (writesW w r).length ≤ 3 := by unfold writesW; split; exact Nat.le_trans (Nat.le_refl 1) (by decide); exact l2
    refine mLc_of (partsW w r "read" ++ partsW w r "written") (fHome "bin" (binIn bins)) (kp := fun _ => True) (S1 := S) (fun Qi h => ?_) (by rw [List.length_append]; exact sz (by omega)) trivial (fun d hd J hJ => ?_) ?_
    · walk_at "VX"; exact h
    · obtain ⟨b, k, rfl, k0, k1⟩ := isHome_ex (hh d hd)
      walk_at "VX"
      cases b with
      | true => rw [if_neg (by decide +kernel)]; exact hJ
      | false =>
        rw [if_pos (by decide +kernel)]
        simp only [fHome, Bool.false_eq_true, if_false, if_true, binIn, decide_true, Bool.not_true, Bool.false_or] at hJ
        exact hJ
    · obtain ⟨bs, b1, b2⟩ := home_flat (x := "bin") (g := binIn bins) (fun s k hs => by simp only [binIn, hs, decide_false, Bool.not_false, Bool.true_or]) hh
      rw [b1]
      simp?! only [rdR_lst, rdL_lst, bls_map]
      rw [b2]
      by_cases hb : (partsW w r "read" ++ partsW w r "written").all (binIn bins) = true
      · have eq : ownB (.tup (.str w :: r)) ks bins = (writesW w r).all (pegIn ks) := by simp only [ownB, hb, Bool.true_and]
        rw [eq] at h3
        rw [if_neg (by rw [hb]; decide)]
        refine mLc_of (writesW w r) (fHome "peg" (pegIn ks)) (kp := fun _ => True) (S1 := S) (fun Qi h => ?_) (sz (by omega)) trivial (fun d hd J hJ => ?_) ?_
        · simp?! only [sp_writes]; exact ⟨hes, h⟩
        · obtain ⟨b, k, rfl, k0, k1⟩ := isHome_ex (hw d hd)
          walk_at "VX"
          cases b with
          | false => rw [if_neg (by decide +kernel)]; exact hJ
          | true =>
            rw [if_pos (by decide +kernel)]
            simp only [fHome, if_true, pegIn, decide_true, Bool.not_true, Bool.false_or] at hJ
            by_cases k2 : k = 0
            · subst k2; exact hJ
            · rw [if_neg (by simpa using k2)]
              simp only [k2, decide_false, Bool.false_or] at hJ
              exact ⟨rfl, flat_ints hk, hJ⟩
        · obtain ⟨bs, b1, b2⟩ := home_flat (x := "peg") (g := pegIn ks) (fun s k hs => by simp only [pegIn, hs, decide_false, Bool.not_false, Bool.true_or]) hw
          rw [b1]
          simp?! only [rdR_lst, rdL_lst, bls_map]
          rw [b2]; exact h3
      · have eq : ownB (.tup (.str w :: r)) ks bins = false := by simp only [ownB, hb, Bool.false_and]
        rw [eq] at h3
        rw [if_pos (by rw [Bool.eq_false_iff.mpr hb]; rfl)]
        exact h3
  · exact h.elim
abbrev s_is_def : Stmt := top 37
abbrev n_is_def : List Str := ["thing", "many", "is_right", "takes", "gives", "keeps", "bins", "lines", "at", "line"]
theorem sc_is_def : FnScope n_is_def ["thing"] (defScope s_is_def) := ⟨rfl, rfl, rfl, by decide +kernel, rfl, by decide +kernel, by decide +kernel⟩
def sp_is_def : VSp := fun ds S Q => match ds with
  | [d] => sml d = true ∧ short d = true ∧ Q (.bl (defB d)) S
  | _ => False
def rightOf (ks : List D) (bins many : Int) (d : D) : List D := match d with
  | .tup [.int i, l] => [.bl (stayB l i many && ownB l ks bins)]
  | _ => []
theorem right_flat (ks : List D) (bins many : Int) : ∀ (ls : List D) (i : Nat), ∃ bs : List Bool, ((ls.zipIdx i).map fun p => D.tup [.int (p.2 : Nat), p.1]).flatMap (rightOf ks bins many) = bs.map D.bl ∧ bs.all id = rightB ks bins many i ls
  | [], i => ⟨[], rfl, rfl⟩
  | l :: ls, i => by
    obtain ⟨bs, h1, h2⟩ := right_flat ks bins many ls (i + 1)
    refine ⟨(stayB l i many && ownB l ks bins) :: bs, ?_, ?_⟩
    · simp only [List.zipIdx_cons, List.map_cons, List.flatMap_cons, h1, rightOf]; rfl
    · simp only [List.all_cons, h2, id, rightB]
theorem keeps_whole {d : D} (h : keepsB d = true) : ∃ ks, d = .tup ks ∧ ∀ k ∈ ks, isWhole k = true := by
  cases d with
  | tup ks =>
    simp only [keepsB, Bool.and_eq_true, List.all_eq_true] at h
    exact ⟨ks, rfl, fun k hk => by have := h.1 k hk; cases k <;> first | rfl | exact absurd this Bool.false_ne_true⟩
  | _ => cases h
theorem within_int {d : D} {a b : Int} (h : isWithin d a b = true) : ∃ i, d = .int i ∧ a ≤ i ∧ i ≤ b := by
  cases d <;> simp only [isWithin, Bool.false_eq_true, Bool.and_eq_true, decide_eq_true_eq] at h
  exact ⟨_, rfl, h⟩
theorem lines_all {d : D} (h : linesB d = true) : ∃ ls, d = .tup ls ∧ 1 ≤ ls.length ∧ ls.length ≤ 24 ∧ ∀ l ∈ ls, lineD l = true := by
  cases d with
  | tup ls =>
    simp only [linesB, Bool.and_eq_true, List.all_eq_true, decide_eq_true_eq] at h
    exact ⟨ls, rfl, h.1.1, h.1.2, h.2⟩
  | _ => cases h
theorem enum_mem {ds : List D} {d : D} (h : d ∈ enumD ds) : ∃ (i : Nat) (l : D), d = .tup [.int i, l] ∧ l ∈ ds := by
  unfold enumD at h
  obtain ⟨⟨l, i⟩, hm, rfl⟩ := List.mem_map.mp h
  exact ⟨i, l, rfl, (List.mem_zipIdx hm).2.2 ▸ List.getElem_mem _⟩
theorem ok_is_def (T : Tx K w mg) : DefV P w K mg base 7 "is_def" ["thing"] sp_is_def := by
  refine DefV.mk' T.f_is_def sc_is_def (fun _ _ _ _ _ _ us hl => match us, hl with | [_], _ => rfl) (fun f cdv A outer s H E hgd hr hcd => ⟨_, (s_cons (s_if (PW.pt (w_or (t_not (t_val (v_isi "tuple" (by decide) rfl T.b_isinstance (by decide +kernel) rfl T.b_tuple (by decide +kernel) (v_var 0)))) (w_or1 (t_cmp (ov_ne hr.units) (v_callB cv_len rfl T.b_len (by decide +kernel) (a_cons (v_var 0) a_nil)) v_int)))) (s_one (s_ret v_bl)) s_nil)
      (s_cons (s_unp (is := [3, 4, 5, 6, 7]) (v_var 0) (pg_tup rfl (pgs_cons (pg_name (i := 3) sc_is_def.nd rfl (by first | exact Or.inl rfl | exact Or.inr rfl)) (pgs_cons (pg_name (i := 4) sc_is_def.nd rfl (by first | exact Or.inl rfl | exact Or.inr rfl)) (pgs_cons (pg_name (i := 5) sc_is_def.nd rfl (by first | exact Or.inl rfl | exact Or.inr rfl)) (pgs_cons (pg_name (i := 6) sc_is_def.nd rfl (by first | exact Or.inl rfl | exact Or.inr rfl)) (pgs_cons (pg_name (i := 7) sc_is_def.nd rfl (by first | exact Or.inl rfl | exact Or.inr rfl)) pgs_nil)))))))
      (s_cons (s_if (PW.pt (w_or (t_not (t_val (v_call (ok_are_signs T) (hr.mono (by decide)) hgd rfl (a_cons (v_var 3) (a_cons (v_gint rfl T.c_PEGS) a_nil))))) (w_or (t_not (t_val (v_call (ok_are_signs T) (hr.mono (by decide)) hgd rfl (a_cons (v_var 4) (a_cons v_int a_nil))))) (w_or1 (t_not (t_val (v_call (ok_are_keeps T) (hr.mono (by decide)) hgd rfl (a_cons (v_var 5) a_nil)))))))) (s_one (s_ret v_bl)) s_nil)
      (s_cons (s_if (PW.pt (w_or (t_not (t_val (v_call (ok_is_within T) (hr.mono (by decide)) hgd rfl (a_cons (v_var 6) (a_cons v_int (a_cons (v_gint rfl T.c_BINS) a_nil)))))) (w_or1 (t_not (t_val (v_call (ok_are_lines T) (hr.mono (by decide)) hgd rfl (a_cons (v_var 7) a_nil))))))) (s_one (s_ret v_bl)) s_nil)
      (s_cons (s_set 1 sc_is_def.nd rfl (by first | exact Or.inl rfl | exact Or.inr rfl) (v_callB cv_len rfl T.b_len (by decide +kernel) (a_cons (v_var 7) a_nil)))
      (s_cons (s_setLc (i := 2) (c := (.many [8, 9])) (own := [("at", 8), ("line", 9)]) recR_frz (by simp [CT.within]) rfl sc_is_def.nd rfl rfl (sw_true rfl rfl rfl (by decide +kernel)) (i_enu rfl T.b_enumerate (v_var 7)) (blkOk_by (N := n_is_def) (sc := defScope s_is_def) (by decide +kernel)) (fun _ _ _ _ _ => (pg_tup rfl (pgs_cons (pg_name (i := 8) sc_is_def.nd rfl (by first | exact Or.inl rfl | exact Or.inr rfl)) (pgs_cons (pg_name (i := 9) sc_is_def.nd rfl (by first | exact Or.inl rfl | exact Or.inr rfl)) pgs_nil)))) (fun _ _ _ _ _ => ts_nil) (fun _ _ _ _ _ => (v_and (v_call (ok_stays_within T) (hr.mono (by decide)) hgd rfl (a_cons (v_var 9) (a_cons (v_var 8) (a_cons (v_var 1) a_nil)))) (v_one (v_call (ok_has_own_homes T) (hr.mono (by decide)) hgd rfl (a_cons (v_var 9) (a_cons (v_var 5) (a_cons (v_var 6) a_nil))))))))
      (s_one (s_ret (v_callB (cv_all rfl) rfl T.b_all (by decide +kernel) (a_cons (v_var 2) a_nil)))))))))), ?_⟩)
  intro ds S Q hl h
  unfold sp_is_def at h
  split at h
  · rename_i d
    obtain ⟨h1, h2, h3⟩ := h
    have h3 := fin_same h3
    have ty : tyn d S ≠ "?" := sml_tyn h1
    cases d with
    | tup ds =>
      have len5 : ∀ {ds : List D}, ds.length ≠ 5 → defB (.tup ds) = false := by
        intro ds hn
        match ds, hn with
        | [], _ => rfl
        | [_], _ => rfl
        | [_, _], _ => rfl
        | [_, _, _], _ => rfl
        | [_, _, _, _], _ => rfl
        | [_, _, _, _, _], hn => exact absurd rfl hn
        | _ :: _ :: _ :: _ :: _ :: _ :: _, _ => rfl
      by_cases hn : ds.length = 5
      · obtain ⟨takes, gives, keeps, bins, lines, rfl⟩ : ∃ a b c e f, ds = [a, b, c, e, f] := by
          match ds, hn with
          | [a, b, c, e, f], _ => exact ⟨a, b, c, e, f, rfl⟩
        have hsh := (short_tup h2).2
        have hsm := sml_tup h1
        have s1 := hsm takes (by simp); have s2 := hsm gives (by simp); have s3 := hsm keeps (by simp); have s4 := hsm bins (by simp); have s5 := hsm lines (by simp)
        have q1 := hsh takes (by simp); have q2 := hsh gives (by simp); have q3 := hsh keeps (by simp); have q5 := hsh lines (by simp)
        simp?! only [sp_are_signs, sp_are_keeps]
        refine ⟨sml_tyn s1, q1, ?_⟩
        by_cases t1 : signsB takes 4 = true
        case neg =>
          rw [if_pos (by rw [Bool.eq_false_iff.mpr t1]; rfl)]
          have eq : defB (.tup [takes, gives, keeps, bins, lines]) = false := by simp only [defB, Bool.eq_false_iff.mpr t1, Bool.false_and]
          rw [eq] at h3; exact h3
        rw [if_neg (by rw [t1]; decide)]
        refine ⟨sml_tyn s2, q2, ?_⟩
        by_cases t2 : signsB gives 1 = true
        case neg =>
          rw [if_pos (by rw [Bool.eq_false_iff.mpr t2]; rfl)]
          have eq : defB (.tup [takes, gives, keeps, bins, lines]) = false := by simp only [defB, Bool.eq_false_iff.mpr t2, Bool.and_false, Bool.false_and]
          rw [eq] at h3; exact h3
        rw [if_neg (by rw [t2]; decide)]
        refine ⟨s3, q3, ?_⟩
        by_cases t3 : keepsB keeps = true
        case neg =>
          rw [if_pos (by rw [Bool.eq_false_iff.mpr t3]; rfl)]
          have eq : defB (.tup [takes, gives, keeps, bins, lines]) = false := by simp only [defB, Bool.eq_false_iff.mpr t3, Bool.and_false, Bool.false_and]
          rw [eq] at h3; exact h3
        rw [if_neg (by rw [t3]; decide)]
        simp?! only [sp_is_within, sp_are_lines]
        refine ⟨sml_tyn s4, ?_⟩
        by_cases t4 : isWithin bins 0 4 = true
        case neg =>
          rw [if_pos (by rw [Bool.eq_false_iff.mpr t4]; rfl)]
          have eq : defB (.tup [takes, gives, keeps, bins, lines]) = false := by simp only [defB, Bool.eq_false_iff.mpr t4, Bool.and_false, Bool.false_and]
          rw [eq] at h3; exact h3
        rw [if_neg (by rw [t4]; decide)]
        refine ⟨s5, q5, ?_⟩
        by_cases t5 : linesB lines = true
        case neg =>
          rw [if_pos (by rw [Bool.eq_false_iff.mpr t5]; rfl)]
          have eq : defB (.tup [takes, gives, keeps, bins, lines]) = false := by simp only [defB, Bool.eq_false_iff.mpr t5, Bool.and_false, Bool.false_and]
          rw [eq] at h3; exact h3
        rw [if_neg (by rw [t5]; decide)]
        obtain ⟨ks, rfl, hks⟩ := keeps_whole t3
        obtain ⟨b, rfl, _, _⟩ := within_int t4
        obtain ⟨ls, rfl, l1, l2, hls⟩ := lines_all t5
        have eq : defB (.tup [takes, gives, .tup ks, .int b, .tup ls]) = rightB ks b ls.length 0 ls := by simp only [defB, t1, t2, t3, t4, t5, Bool.true_and]
        rw [eq] at h3
        walk_at "VX"
        refine mLc_of (enumD ls) (rightOf ks b ls.length) (kp := fun _ => True) (S1 := S) (fun Qi h => ?_) ?_ trivial (fun d hd J hJ => ?_) ?_
        · walk_at "VX"; exact h
        · simp only [enumD, List.length_map, List.length_zipIdx]; exact sz (by omega)
        · obtain ⟨i, l, rfl, hm⟩ := enum_mem hd
          simp?! only [sp_stays_within, sp_has_own_homes]
          refine ⟨hls l hm, ?_⟩
          simp only [rightOf] at hJ
          by_cases u1 : stayB l i ls.length = true
          · rw [u1] at hJ ⊢; exact ⟨hls l hm, hks, hJ⟩
          · rw [Bool.eq_false_iff.mpr u1] at hJ ⊢; exact hJ
        · obtain ⟨bs, b1, b2⟩ := right_flat ks b ls.length ls 0
          unfold enumD
          rw [b1]
          simp?! only [rdR_lst, rdL_lst, bls_map]
          rw [b2]; exact h3
      · walk_at "VX"
        have hn' : ¬ (ds.length : Int) = 5 := by omega
        rw [if_pos (by simpa using hn')]
        rw [len5 hn] at h3
        exact h3
    | ref a => simp [sml] at h1
    | _ => walk_at "VX"; exact h3
  · exact h.elim
abbrev s_is_program : Stmt := top 38
abbrev n_is_program : List Str := ["thing", "one", "line", "d"]
theorem sc_is_program : FnScope n_is_program ["thing"] (defScope s_is_program) := ⟨rfl, rfl, rfl, by decide +kernel, rfl, by decide +kernel, by decide +kernel⟩
def sp_is_program : VSp := fun ds S Q => match ds with
  | [d] => sml d = true ∧ short d = true ∧ Q (.bl (progB d)) S
  | _ => False
def fDef (d : D) : List D := [.bl (defB d)]
theorem def_flat : ∀ ds : List D, ds.flatMap fDef = (ds.map defB).map D.bl
  | [] => rfl
  | d :: ds => by rw [List.flatMap_cons, def_flat ds]; rfl
theorem def_ex {d : D} (h : defB d = true) : ∃ t g ks b ls, d = .tup [.str t, .str g, .tup ks, .int b, .tup ls] ∧ signsB (.str t) 4 = true ∧ signsB (.str g) 1 = true ∧ keepsB (.tup ks) = true ∧ (0 ≤ b ∧ b ≤ 4) ∧ linesB (.tup ls) = true ∧ rightB ks b ls.length 0 ls = true := by
  cases d with
  | tup ds =>
    match ds, h with
    | [takes, gives, keeps, bins, lines], h =>
      simp only [defB, Bool.and_eq_true] at h
      obtain ⟨⟨⟨⟨h1, h2⟩, h3⟩, h4, h5⟩, h6⟩ := h
      obtain ⟨ks, rfl, _⟩ := keeps_whole h3
      obtain ⟨b, rfl, b0, b1⟩ := within_int h4
      obtain ⟨ls, rfl, _⟩ := lines_all h5
      cases takes <;> try (cases h1; done)
      cases gives <;> try (cases h2; done)
      exact ⟨_, _, ks, b, ls, rfl, h1, h2, h3, ⟨b0, b1⟩, h5, h6⟩
  | _ => cases h
def fCall (many : Int) (l : D) : List D := match l with
  | .tup (.str w :: r) => (partsW w r "called").map fun d => .bl (ltI many d)
  | _ => []
def fCalls (many : Int) (d : D) : List D := match d with
  | .tup [_, _, _, _, .tup ls] => ls.flatMap (fCall many)
  | _ => []
theorem call_bls (many : Int) : ∀ {ls : List D}, (∀ l ∈ ls, lineD l = true) → ∃ bs : List Bool, ls.flatMap (fCall many) = bs.map D.bl ∧ bs.all id = ls.all (calledB many) ∧ bs.length ≤ 3 * ls.length
  | [], _ => ⟨[], rfl, rfl, by simp⟩
  | l :: ls, h => by
    obtain ⟨bs, h1, h2, h3⟩ := call_bls many (ls := ls) (fun e he => h e (List.mem_cons_of_mem _ he))
    obtain ⟨w, r, es, rfl, he, hf⟩ := lineD_ex (h l (by simp))
    refine ⟨(partsW w r "called").map (ltI many) ++ bs, ?_, ?_, ?_⟩
    · rw [List.flatMap_cons, h1, List.map_append, List.map_map]; rfl
    · rw [List.all_append, h2, List.all_map]; rfl
    · have := partsW_len w r "called"
      simp only [List.length_append, List.length_map, List.length_cons]; omega
theorem calls_bls (many : Int) : ∀ {ds : List D}, (∀ d ∈ ds, defB d = true) → ∃ bs : List Bool, ds.flatMap (fCalls many) = bs.map D.bl ∧ bs.all id = ds.all (callsB many) ∧ bs.length ≤ 72 * ds.length
  | [], _ => ⟨[], rfl, rfl, by simp⟩
  | d :: ds, h => by
    obtain ⟨bs, h1, h2, h3⟩ := calls_bls many (ds := ds) (fun e he => h e (List.mem_cons_of_mem _ he))
    obtain ⟨t, g, ks, b, ls, rfl, _, _, _, _, hl, _⟩ := def_ex (h d (by simp))
    obtain ⟨ls', e, l1, l2, hls⟩ := lines_all hl
    cases e
    obtain ⟨cs, c1, c2, c3⟩ := call_bls many hls
    refine ⟨cs ++ bs, ?_, ?_, ?_⟩
    · rw [List.flatMap_cons, h1, List.map_append, ← c1]; rfl
    · rw [List.all_append, h2, c2]; rfl
    · simp only [List.length_append, List.length_cons]; omega
theorem ok_is_program (T : Tx K w mg) : DefV P w K mg base 8 "is_program" ["thing"] sp_is_program := by
  refine DefV.mk' T.f_is_program sc_is_program (fun _ _ _ _ _ _ us hl => match us, hl with | [_], _ => rfl) (fun f cdv A outer s H E hgd hr hcd => ⟨_, (s_cons (s_if (PW.pt (w_or (t_not (t_val (v_isi "tuple" (by decide) rfl T.b_isinstance (by decide +kernel) rfl T.b_tuple (by decide +kernel) (v_var 0)))) (w_or (t_not (t_chain ov_le ov_le v_int (v_callB cv_len rfl T.b_len (by decide +kernel) (a_cons (v_var 0) a_nil)) (v_gint rfl T.c_MOST_DEFS))) (w_or1 (t_not (t_val (v_callB (cv_all rfl) rfl T.b_all (by decide +kernel) (a_cons (v_lc (c := (.one 1)) (own := [("one", 1)]) recR_frz (by simp [CT.within]) rfl sc_is_program.nd (i_seq (v_var 0)) (blkOk_by (N := n_is_program) (sc := defScope s_is_program) (by decide +kernel)) (fun _ _ _ _ _ => (pg_name (i := 1) sc_is_program.nd rfl (by first | exact Or.inl rfl | exact Or.inr rfl))) (fun _ _ _ _ _ => ts_nil) (fun _ _ _ _ _ => (v_call (ok_is_def T) (hr.mono (by decide)) hgd rfl (a_cons (v_var 1) a_nil)))) a_nil)))))))) (s_one (s_ret v_bl)) s_nil)
      (s_one (s_ret (v_callB (cv_all rfl) rfl T.b_all (by decide +kernel) (a_cons (v_lc3 (c := (.one 1)) (c1 := (.one 2)) (vs1 := [2, 3]) (c2 := (.one 3)) (vs2 := [3]) (own := [("one", 1), ("line", 2), ("d", 3)]) (fun _ => recA_frz) (by simp [CT.within]) (by simp [CT.within]) (by simp [CT.within]) (by simp) (by simp) rfl sc_is_program.nd (blkOk_by (N := n_is_program) (sc := defScope s_is_program) (by decide +kernel)) (i_seq (v_var 0)) (fun _ _ _ _ _ => (pg_name (i := 1) sc_is_program.nd rfl (by first | exact Or.inl rfl | exact Or.inr rfl))) (fun _ _ _ _ _ => ts_nil) (fun _ _ _ _ _ => (i_seq (v_sub (v_var 1) v_int))) (fun _ _ _ _ _ => (pg_name (i := 2) sc_is_program.nd rfl (by first | exact Or.inl rfl | exact Or.inr rfl))) (fun _ _ _ _ _ => ts_nil) (fun _ _ _ _ _ => (i_seq (v_call (ok_parts_of T) (hr.mono (by decide)) hgd rfl (a_cons (v_var 2) (a_cons (v_gstr rfl T.c_CALLED) a_nil))))) (fun _ _ _ _ _ => (pg_name (i := 3) sc_is_program.nd rfl (by first | exact Or.inl rfl | exact Or.inr rfl))) (fun _ _ _ _ _ => ts_nil) (fun _ _ _ _ _ => (v_cmp ov_lt (v_var 3) (v_callB cv_len rfl T.b_len (by decide +kernel) (a_cons (v_var 0) a_nil))))) a_nil))))), ?_⟩)
  intro ds S Q hl h
  unfold sp_is_program at h
  split at h
  · rename_i d
    obtain ⟨h1, h2, h3⟩ := h
    have h3 := fin_same h3
    cases d with
    | tup ds =>
      obtain ⟨hl3, hsh⟩ := short_tup h2
      have hsm := sml_tup h1
      walk_at "VX"
      have e0 : decide ((1 : Int) ≤ (ds.length : Int)) = decide (1 ≤ ds.length) := decide_eq_decide.mpr (by omega)
      have e1 : decide ((ds.length : Int) ≤ 6) = decide (ds.length ≤ 6) := decide_eq_decide.mpr (by omega)
      simp only [e0, e1]
      by_cases n1 : decide (1 ≤ ds.length) = true
      case neg =>
        have eq : progB (.tup ds) = false := by simp only [progB, Bool.eq_false_iff.mpr n1, Bool.false_and]
        rw [eq] at h3
        rw [if_neg n1]; exact h3
      rw [if_pos n1]
      by_cases n2 : decide (ds.length ≤ 6) = true
      case neg =>
        have eq : progB (.tup ds) = false := by simp only [progB, Bool.eq_false_iff.mpr n2, Bool.false_and, Bool.and_false]
        rw [eq] at h3
        rw [Bool.eq_false_iff.mpr n2]; exact h3
      rw [n2]
      walk_at "VX"
      refine mLc_of ds fDef (kp := fun _ => True) (S1 := S) (fun Qi h => ?_) (sz (by omega)) trivial (fun d hd J hJ => ?_) ?_
      · walk_at "VX"; exact h
      · simp?! only [sp_is_def]
        exact ⟨hsm d hd, hsh d hd, hJ⟩
      · rw [def_flat]
        simp?! only [rdR_lst, rdL_lst, bls_map]
        rw [List.all_map]
        by_cases n3 : ds.all defB = true
        case neg =>
          have eq : progB (.tup ds) = false := by simp only [progB, Bool.eq_false_iff.mpr n3, Bool.false_and, Bool.and_false]
          rw [eq] at h3
          rw [show (id ∘ defB) = defB from rfl, Bool.eq_false_iff.mpr n3]; exact h3
        rw [show (id ∘ defB) = defB from rfl, n3]
        have eq : progB (.tup ds) = ds.all (callsB ds.length) := by simp only [progB, n1, n2, n3, Bool.true_and]
        rw [eq] at h3
        have all : ∀ d ∈ ds, defB d = true := List.all_eq_true.mp n3
        obtain ⟨bs, b1, b2, b3⟩ := calls_bls ds.length all
        have hd6 : ds.length ≤ 6 := of_decide_eq_true n2
        walk_at "VX"
        refine turns_flat (fCalls ds.length) 1000 ?_ trivial (fun d hd acc hN J hJ => ?_) ?_
        · rw [b1, List.length_map]; simp only [List.length_nil]; omega
        · obtain ⟨t, g, ks, b, ls, rfl, _, _, _, _, hl, _⟩ := def_ex (all d hd)
          obtain ⟨ls', e, l1, l2, hls⟩ := lines_all hl
          cases e
          walk_at "VX"
          refine turns_flat (fCall ds.length) 1000 hN trivial (fun l hm acc hN J hJ => ?_) hJ
          obtain ⟨w, r, es, rfl, he, hf⟩ := lineD_ex (hls l hm)
          simp?! only [sp_parts_of]
          refine ⟨⟨es, he, fits_length hf⟩, ?_⟩
          refine turns_flat (fun d => [.bl (ltI ds.length d)]) 1000 ?_ trivial (fun x hx acc hN J hJ => ?_) ?_
          · simp only [fCall, List.length_map] at hN
            rw [flat_one, List.length_map]; exact hN
          · obtain ⟨i, rfl, _⟩ := goal_int he hf (.inr rfl) hx
            walk_at "VX"
            simp only [List.length_cons, List.length_nil] at hN
            exact ⟨sz (by omega), hJ⟩
          · rw [flat_one]; exact hJ
        · rw [b1]
          simp?! only [rdR_lst, rdL_lst, bls_map]
          rw [b2]; exact h3
    | ref a => simp [sml] at h1
    | _ => walk_at "VX"; exact h3
  · exact h.elim
abbrev s_want_program : Stmt := top 41
abbrev n_want_program : List Str := ["program"]
theorem sc_want_program : FnScope n_want_program ["program"] (defScope s_want_program) := ⟨rfl, rfl, rfl, by decide +kernel, rfl, by decide +kernel, by decide +kernel⟩
def sp_want_program : VSp := fun ds S Q => match ds with
  | [d] => Prog d ∧ Q .non S
  | _ => False
theorem ok_want_program (T : Tx K w mg) : DefV P w K mg base 9 "want_program" ["program"] sp_want_program := by
  refine DefV.mk' T.f_want_program sc_want_program (fun _ _ _ _ _ _ us hl => match us, hl with | [_], _ => rfl) (fun f cdv A outer s H E hgd hr hcd => ⟨_, (s_one (s_if (t_not (t_val (v_call (ok_is_program T) (hr.mono (by decide)) hgd rfl (a_cons (v_var 0) a_nil)))) (s_one s_never) s_nil)), ?_⟩)
  intro ds S Q hl h
  unfold sp_want_program at h
  split at h
  · rename_i d
    obtain ⟨hd, k⟩ := h
    simp?! only [sp_is_program]
    refine ⟨hd.sm, hd.sh, ?_⟩
    rw [hd.ok, if_neg (by decide)]
    exact fin_same k
  · exact h.elim
abbrev s_is_below : Stmt := top 40
abbrev n_is_below : List Str := ["thing", "many"]
theorem sc_is_below : FnScope n_is_below ["thing", "many"] (defScope s_is_below) := ⟨rfl, rfl, rfl, by decide +kernel, rfl, by decide +kernel, by decide +kernel⟩
def sp_is_below : VSp := fun ds S Q => match ds with
  | [.int i, .int m] => Q (.bl (decide (0 ≤ i) && decide (i < m))) S
  | [d, .int m] => sml d = true ∧ Q (.bl (belowB d m)) S
  | _ => False
theorem ok_is_below (T : Tx K w mg) : DefV P w K mg base 1 "is_below" ["thing", "many"] sp_is_below := by
  refine DefV.mk' T.f_is_below sc_is_below (fun _ _ _ _ _ _ us hl => match us, hl with | [_, _], _ => rfl) (fun f cdv A outer s H E hgd hr hcd => ⟨_, (s_one (s_ret (v_and (v_isi "int" (by decide) rfl T.b_isinstance (by decide +kernel) rfl T.b_int (by decide +kernel) (v_var 0)) (v_and (v_not (v_isi "bool" (by decide) rfl T.b_isinstance (by decide +kernel) rfl T.b_bool (by decide +kernel) (v_var 0))) (v_one (v_chain ov_le ov_lt v_int (v_var 0) (v_var 1))))))), ?_⟩)
  intro ds S Q hl h
  unfold sp_is_below at h
  split at h
  · rename_i i m
    have h := fin_same h
    walk_at "VX"
    by_cases c : 0 ≤ i
    · rw [if_pos (decide_eq_true c)]
      rw [show decide (0 ≤ i) = true from decide_eq_true c, Bool.true_and] at h; exact h
    · rw [if_neg (by simpa using c)]
      rw [show decide (0 ≤ i) = false from decide_eq_false c, Bool.false_and] at h; exact h
  · rename_i d m hni
    obtain ⟨hs, k⟩ := h
    have k := fin_same k
    cases d
    case int n => exact absurd rfl (hni _)
    case ref a => simp [sml] at hs
    all_goals walk_at "VX"
    all_goals exact k
  · exact h.elim
abbrev s_want_def : Stmt := top 42
abbrev n_want_def : List Str := ["program", "d"]
theorem sc_want_def : FnScope n_want_def ["program", "d"] (defScope s_want_def) := ⟨rfl, rfl, rfl, by decide +kernel, rfl, by decide +kernel, by decide +kernel⟩
def sp_want_def : VSp := fun ds S Q => match ds with
  | [.tup ps, .int d] => 0 ≤ d ∧ d < ps.length ∧ Q .non S
  | _ => False
theorem ok_want_def (T : Tx K w mg) : DefV P w K mg base 2 "want_def" ["program", "d"] sp_want_def := by
  refine DefV.mk' T.f_want_def sc_want_def (fun _ _ _ _ _ _ us hl => match us, hl with | [_, _], _ => rfl) (fun f cdv A outer s H E hgd hr hcd => ⟨_, (s_one (s_if (t_not (t_val (v_call (ok_is_below T) (hr.mono (by decide)) hgd rfl (a_cons (v_var 1) (a_cons (v_callB cv_len rfl T.b_len (by decide +kernel) (a_cons (v_var 0) a_nil)) a_nil))))) (s_one s_never) s_nil)), ?_⟩)
  intro ds S Q hl h
  unfold sp_want_def at h
  split at h
  · rename_i ps d
    obtain ⟨d0, d1, k⟩ := h
    simp?! only [sp_is_below]
    rw [if_neg (by simp; omega)]
    exact fin_same k
  · exact h.elim
abbrev s_all_homes : Stmt := top 47
abbrev n_all_homes : List Str := ["k"]
theorem sc_all_homes : FnScope n_all_homes [] (defScope s_all_homes) := ⟨rfl, rfl, rfl, by decide +kernel, rfl, by decide +kernel, by decide +kernel⟩
def sp_all_homes : VSp := fun ds S Q => match ds with
  | [] => Q (.lst homes8) S
  | _ => False
theorem ok_all_homes (T : Tx K w mg) : DefV P w K mg base 1 "all_homes" [] sp_all_homes := by
  refine DefV.mk' T.f_all_homes sc_all_homes (fun _ _ _ _ _ _ us hl => match us, hl with | [], _ => rfl) (fun f cdv A outer s H E hgd hr hcd => ⟨_, (s_one (s_ret (v_op ov_add (v_lc (c := (.one 0)) (own := [("k", 0)]) recR_frz (by simp [CT.within]) rfl sc_all_homes.nd (i_rng1 rfl T.b_range (v_gint rfl T.c_BINS) (pi_range1 rfl T.b_range (pa_cons (v_gint rfl T.c_BINS) pa_nil))) (blkOk_by (N := n_all_homes) (sc := defScope s_all_homes) (by decide +kernel)) (fun _ _ _ _ _ => (pg_name (i := 0) sc_all_homes.nd rfl (by first | exact Or.inl rfl | exact Or.inr rfl))) (fun _ _ _ _ _ => ts_nil) (fun _ _ _ _ _ => (v_tup (a_cons v_str (a_cons (v_var 0) a_nil))))) (v_lc (c := (.one 0)) (own := [("k", 0)]) recR_frz (by simp [CT.within]) rfl sc_all_homes.nd (i_rng1 rfl T.b_range (v_gint rfl T.c_PEGS) (pi_range1 rfl T.b_range (pa_cons (v_gint rfl T.c_PEGS) pa_nil))) (blkOk_by (N := n_all_homes) (sc := defScope s_all_homes) (by decide +kernel)) (fun _ _ _ _ _ => (pg_name (i := 0) sc_all_homes.nd rfl (by first | exact Or.inl rfl | exact Or.inr rfl))) (fun _ _ _ _ _ => ts_nil) (fun _ _ _ _ _ => (v_tup (a_cons v_str (a_cons (v_var 0) a_nil)))))))), ?_⟩)
  intro ds S Q hl h
  unfold sp_all_homes at h
  split at h
  · walk_at "VX"
    refine mLc_of (rngD 0 4) (fun d => [.tup [.str "bin", d]]) (kp := fun _ => True) (S1 := S) (fun Qi h => ?_) (by simp [rngD, sizeLine_eq]) trivial (fun d hd J h => ?_) ?_
    · walk_at "VX"; exact h
    · walk_at "VX"; exact h
    walk_at "VX"
    refine mLc_of (rngD 0 4) (fun d => [.tup [.str "peg", d]]) (kp := fun _ => True) (S1 := S) (fun Qi h => ?_) (by simp [rngD, sizeLine_eq]) trivial (fun d hd J h => ?_) ?_
    · walk_at "VX"; exact h
    · walk_at "VX"; exact h
    walk_at "VX"
    exact ⟨by rw [sizeLine_eq]; decide +kernel, fin_same h⟩
  · exact h.elim
abbrev s_lines_of : Stmt := top 43
abbrev n_lines_of : List Str := ["program", "d"]
theorem sc_lines_of : FnScope n_lines_of ["program", "d"] (defScope s_lines_of) := ⟨rfl, rfl, rfl, by decide +kernel, rfl, by decide +kernel, by decide +kernel⟩
def sp_lines_of : VSp := fun ds S Q => match ds with
  | [.tup ps, .int d] => ∃ t g ks b ls, atI ps d = some (.tup [t, g, ks, b, .tup ls]) ∧ Q (.tup ls) S
  | _ => False
theorem ok_lines_of (T : Tx K w mg) : DefV P w K mg base 1 "lines_of" ["program", "d"] sp_lines_of := by
  refine DefV.mk' T.f_lines_of sc_lines_of (fun _ _ _ _ _ _ us hl => match us, hl with | [_, _], _ => rfl) (fun f cdv A outer s H E hgd hr hcd => ⟨_, (s_one (s_ret (v_sub (v_sub (v_var 0) (v_var 1)) v_int))), ?_⟩)
  intro ds S Q hl h
  unfold sp_lines_of at h
  split at h
  · rename_i ps d
    obtain ⟨t, g, ks, b, ls, e, k⟩ := h
    walk_at "VX"
    rw [e]
    walk_at "VX"
    exact fin_same k
  · exact h.elim
abbrev s_all_places : Stmt := top 48
abbrev n_all_places : List Str := ["program", "d", "at"]
theorem sc_all_places : FnScope n_all_places ["program"] (defScope s_all_places) := ⟨rfl, rfl, rfl, by decide +kernel, rfl, by decide +kernel, by decide +kernel⟩
def sp_all_places : VSp := fun ds S Q => match ds with
  | [.tup ps] => Prog (.tup ps) ∧ Q (.lst ((places ps).map plD)) S
  | _ => False
theorem ok_all_places (T : Tx K w mg) : DefV P w K mg base 2 "all_places" ["program"] sp_all_places := by
  refine DefV.mk' T.f_all_places sc_all_places (fun _ _ _ _ _ _ us hl => match us, hl with | [_], _ => rfl) (fun f cdv A outer s H E hgd hr hcd => ⟨_, (s_one (s_ret (v_lc2 (c := (.one 1)) (c1 := (.one 2)) (vs1 := [2]) (own := [("d", 1), ("at", 2)]) (fun _ => recA_frz) (by simp [CT.within]) (by simp [CT.within]) (by simp) rfl sc_all_places.nd (blkOk_by (N := n_all_places) (sc := defScope s_all_places) (by decide +kernel)) (i_rng1 rfl T.b_range (v_callB cv_len rfl T.b_len (by decide +kernel) (a_cons (v_var 0) a_nil)) (pi_range1 rfl T.b_range (pa_cons (v_callB cv_len rfl T.b_len (by decide +kernel) (a_cons (v_var 0) a_nil)) pa_nil))) (fun _ _ _ _ _ => (pg_name (i := 1) sc_all_places.nd rfl (by first | exact Or.inl rfl | exact Or.inr rfl))) (fun _ _ _ _ _ => ts_nil) (fun _ _ _ _ _ => (i_rng1 rfl T.b_range (v_callB cv_len rfl T.b_len (by decide +kernel) (a_cons (v_call (ok_lines_of T) (hr.mono (by decide)) hgd rfl (a_cons (v_var 0) (a_cons (v_var 1) a_nil))) a_nil)) (pi_range1 rfl T.b_range (pa_cons (v_callB cv_len rfl T.b_len (by decide +kernel) (a_cons (v_call (ok_lines_of T) (hr.mono (by decide)) hgd rfl (a_cons (v_var 0) (a_cons (v_var 1) a_nil))) a_nil)) pa_nil)))) (fun _ _ _ _ _ => (pg_name (i := 2) sc_all_places.nd rfl (by first | exact Or.inl rfl | exact Or.inr rfl))) (fun _ _ _ _ _ => ts_nil) (fun _ _ _ _ _ => (v_tup (a_cons (v_var 1) (a_cons (v_var 2) a_nil))))))), ?_⟩)
  intro ds S Q hl h
  unfold sp_all_places at h
  split at h
  · rename_i ps
    obtain ⟨pr, k⟩ := h
    have l6 := pr.len6
    have sz := sizeLine_eq
    have hk := fin_same k
    walk_at "VX"
    refine ⟨by omega, by omega, ?_⟩
    have pl := places_len pr
    have ed : ∀ d : Nat, d < ps.length → ∃ t g ks b ls, atI ps (d : Int) = some (.tup [t, g, ks, b, .tup ls]) ∧ linesI ps d = ls ∧ ls.length ≤ 24 := fun d hd => by
      obtain ⟨t, g, ks, b, ls, e, _, l24, _⟩ := pr.at (d := (d : Int)) (by omega) (by omega)
      exact ⟨_, _, _, _, ls, e, (lines_at e).1, l24⟩
    have key : (rngD 0 ((ps.length : Int)).toNat).flatMap (fun d => match d with | .int d => ((List.range (linesI ps d).length).map fun (a : Nat) => plD (d, a)) | _ => []) = (places ps).map plD := by
      unfold places rngD
      rw [List.flatMap_map, List.map_flatMap, Int.toNat_natCast]
      refine congrArg (fun f => List.flatMap f _) (funext fun d => ?_)
      rw [List.map_map]
      simp only [Int.zero_add]
      rfl
    refine turns_flat (fun d => match d with | .int d => ((List.range (linesI ps d).length).map fun (a : Nat) => plD (d, a)) | _ => []) 1000 (by rw [key, List.length_map]; simp; omega) trivial (fun d hd acc hl J hJ => ?_) (by rw [key]; exact hk)
    obtain ⟨i, hi, rfl⟩ := rng_mem hd
    simp?! only [sp_lines_of]
    rw [Int.zero_add] at hl hJ ⊢
    obtain ⟨t, g, ks, b, ls, e, el, l24⟩ := ed i (by omega)
    refine ⟨t, g, ks, b, ls, e, by omega, by omega, ?_⟩
    simp only [el] at hJ hl
    have key2 : (rngD 0 ((ls.length : Int)).toNat).flatMap (fun d => match d with | .int a => [plD ((i : Int), a)] | _ => []) = (List.range ls.length).map fun (a : Nat) => plD ((i : Int), (a : Int)) := by
      unfold rngD
      rw [List.flatMap_map, Int.toNat_natCast, List.map_eq_flatMap]
      refine congrArg (fun f => List.flatMap f _) (funext fun a => ?_)
      simp only [Int.zero_add]
    refine turns_flat (fun d => match d with | .int a => [plD ((i : Int), a)] | _ => []) 1000 (by rw [key2]; exact hl) trivial (fun d hd acc hl2 J2 hJ2 => ?_) (by rw [key2]; exact hJ)
    obtain ⟨a, ha, rfl⟩ := rng_mem hd
    walk_at "VX"
    exact ⟨by have := hl2; simp at this; omega, hJ2⟩
  · exact h.elim
abbrev s_line_at : Stmt := top 49
abbrev n_line_at : List Str := ["program", "place", "d", "at"]
theorem sc_line_at : FnScope n_line_at ["program", "place"] (defScope s_line_at) := ⟨rfl, rfl, rfl, by decide +kernel, rfl, by decide +kernel, by decide +kernel⟩
def sp_line_at : VSp := fun ds S Q => match ds with
  | [.tup ps, .tup [.int d, .int a]] => Prog (.tup ps) ∧ (d, a) ∈ places ps ∧ Q (lnI ps (d, a)) S
  | _ => False
theorem ok_line_at (T : Tx K w mg) : DefV P w K mg base 2 "line_at" ["program", "place"] sp_line_at := by
  refine DefV.mk' T.f_line_at sc_line_at (fun _ _ _ _ _ _ us hl => match us, hl with | [_, _], _ => rfl) (fun f cdv A outer s H E hgd hr hcd => ⟨_, (s_cons (s_unp (is := [2, 3]) (v_var 1) (pg_tup rfl (pgs_cons (pg_name (i := 2) sc_line_at.nd rfl (by first | exact Or.inl rfl | exact Or.inr rfl)) (pgs_cons (pg_name (i := 3) sc_line_at.nd rfl (by first | exact Or.inl rfl | exact Or.inr rfl)) pgs_nil))))
      (s_one (s_ret (v_sub (v_call (ok_lines_of T) (hr.mono (by decide)) hgd rfl (a_cons (v_var 0) (a_cons (v_var 2) a_nil))) (v_var 3))))), ?_⟩)
  intro ds S Q hl h
  unfold sp_line_at at h
  split at h
  · rename_i ps d a
    obtain ⟨pr, hq, k⟩ := h
    obtain ⟨t, g, ks, b, ls, w, r, ns, ed, e1, e2, ea, el, ll, en, hn, l24⟩ := pr.place hq
    rw [el] at k
    simp?! only [sp_lines_of]
    refine ⟨_, _, _, _, ls, ed, ?_⟩
    simp?! only [ea]
    exact fin_same k
  · exact h.elim
abbrev s_goes_on_to : Stmt := top 51
abbrev n_goes_on_to : List Str := ["program", "place", "home", "line", "found", "d", "at", "there"]
theorem sc_goes_on_to : FnScope n_goes_on_to ["program", "place", "home"] (defScope s_goes_on_to) := ⟨rfl, rfl, rfl, by decide +kernel, rfl, by decide +kernel, by decide +kernel⟩
def sp_goes_on_to : VSp := fun ds S Q => match ds with
  | [.tup ps, .tup [.int d, .int a], h] => Prog (.tup ps) ∧ (d, a) ∈ places ps ∧ isHome h = true ∧ ∀ p S', S p = none → (∀ b o, S b = some o → S' b = some o) → S' p = some (.lst ((goP ps (d, a) h).map plD)) → Q (.ref p) S'
  | _ => False
theorem ok_goes_on_to (T : Tx K w mg) : DefV P w K mg base 3 "goes_on_to" ["program", "place", "home"] sp_goes_on_to := by
  refine DefV.mk' T.f_goes_on_to sc_goes_on_to (fun _ _ _ _ _ _ us hl => match us, hl with | [_, _, _], _ => rfl) (fun f cdv A outer s H E hgd hr hcd => ⟨_, (s_cons (s_unp (is := [5, 6]) (v_var 1) (pg_tup rfl (pgs_cons (pg_name (i := 5) sc_goes_on_to.nd rfl (by first | exact Or.inl rfl | exact Or.inr rfl)) (pgs_cons (pg_name (i := 6) sc_goes_on_to.nd rfl (by first | exact Or.inl rfl | exact Or.inr rfl)) pgs_nil))))
      (s_cons (s_set 3 sc_goes_on_to.nd rfl (by first | exact Or.inl rfl | exact Or.inr rfl) (v_call (ok_line_at T) (hr.mono (by decide)) hgd rfl (a_cons (v_var 0) (a_cons (v_var 1) a_nil))))
      (s_cons (s_set 4 sc_goes_on_to.nd rfl (by first | exact Or.inl rfl | exact Or.inr rfl) (v_lstM a_nil))
      (s_cut (s_if (t_cmp (ov_notinD (units65 hr)) (v_var 2) (v_call (ok_writes T) (hr.mono (by decide)) hgd rfl (a_cons (v_var 3) a_nil))) (s_one (s_expr (v_ext (v_var 4) (v_lc (c := (.one 7)) (own := [("there", 7)]) recR_frz (by simp [CT.within]) rfl sc_goes_on_to.nd (i_seq (v_call (ok_next_lines T) (hr.mono (by decide)) hgd rfl (a_cons (v_var 3) (a_cons (v_var 6) a_nil)))) (blkOk_by (N := n_goes_on_to) (sc := defScope s_goes_on_to) (by decide +kernel)) (fun _ _ _ _ _ => (pg_name (i := 7) sc_goes_on_to.nd rfl (by first | exact Or.inl rfl | exact Or.inr rfl))) (fun _ _ _ _ _ => ts_nil) (fun _ _ _ _ _ => (v_tup (a_cons (v_var 5) (a_cons (v_var 7) a_nil))))) (pe_bm PySem.F.plainAttrs_list PySem.F.slot_list_extend PySem.F.type_list_extend mt_extend (v_var 4) (pa_cons (v_lc (c := (.one 7)) (own := [("there", 7)]) recR_frz (by simp [CT.within]) rfl sc_goes_on_to.nd (i_seq (v_call (ok_next_lines T) (hr.mono (by decide)) hgd rfl (a_cons (v_var 3) (a_cons (v_var 6) a_nil)))) (blkOk_by (N := n_goes_on_to) (sc := defScope s_goes_on_to) (by decide +kernel)) (fun _ _ _ _ _ => (pg_name (i := 7) sc_goes_on_to.nd rfl (by first | exact Or.inl rfl | exact Or.inr rfl))) (fun _ _ _ _ _ => ts_nil) (fun _ _ _ _ _ => (v_tup (a_cons (v_var 5) (a_cons (v_var 7) a_nil))))) pa_nil))))) s_nil)
      (s_cons (s_if (PW.pt (w_and (t_cmp (ov_eqS hr.units0) (v_sub (v_var 3) v_int) v_str) (w_and1 (t_cmp (ov_eqS hr.units0) (v_sub (v_var 2) v_int) v_str)))) (s_one (s_expr (v_app (v_var 4) (v_tup (a_cons (v_sub (v_var 3) v_int) (a_cons v_int a_nil))) (pe_bm PySem.F.plainAttrs_list PySem.F.slot_list_append PySem.F.type_list_append mt_append (v_var 4) (pa_cons (v_tup (a_cons (v_sub (v_var 3) v_int) (a_cons v_int a_nil))) pa_nil))))) s_nil)
      (s_one (s_ret (v_var 4)))))))), ?_⟩)
  intro ds S Q hl h
  unfold sp_goes_on_to at h
  split at h
  · rename_i ps d a hm
    obtain ⟨pr, hq, hh, k⟩ := h
    obtain ⟨t, g, ks, b, ls, w, r, ns, ed, e1, e2, ea, el, ll, en, hn, l24⟩ := pr.place hq
    obtain ⟨w', es, r', e3, he, hf, hK, l3, _⟩ := ll.ex
    simp only [D.tup.injEq, List.cons.injEq, D.str.injEq] at e3
    obtain ⟨rfl, rfl⟩ := e3
    have wh : ∀ e ∈ writesW w r, isHome e = true := fun e m => writes_home he hf m
    simp?! only [sp_line_at, el]
    refine ⟨pr, hq, ?_⟩
    intro p hp
    refine mCut_of (fun ρ S2 => (∃ z7, ρ = [some (.tup ps), some (.tup [.int d, .int a]), some (hm), some (.tup (.str w :: r)), some (.ref p), some (.int d), some (.int a), z7]) ∧ (∀ b o, S b = some o → S2 b = some o) ∧ S2 p = some (.lst ((if inP hm (writesW w r) = true then [] else ns.map fun j => ((d, j) : Pl)).map plD))) ?_ ?_
    · have kp : ∀ b o, S b = some o → ∀ x, supd S p x b = some o := fun b o e x => by rw [supd_ne (fun z => by subst z; rw [hp] at e; cases e)]; exact e
      simp?! only [sp_writes]
      refine ⟨⟨es, he, (fits_len' hf).symm⟩, shaped_home hh, shaped_homes wh, by simp, ?_⟩
      by_cases hi : inP hm (writesW w r) = true
      · rw [if_neg (by rw [hi]; decide), if_pos hi]
        exact ⟨⟨_, rfl⟩, fun b o e => kp b o e _, rfl⟩
      · rw [if_pos (by rw [Bool.not_eq_true] at hi; rw [hi]; rfl), if_neg hi]
        refine ⟨⟨_, rfl⟩, ?_⟩
        have nl : ns.length ≤ 2 := nextN_two en
        refine mLc_of (ns.map D.int) (fun j => [.tup [.int d, j]]) (kp := fun _ => True) (S1 := supd S p (.lst [])) (fun Qi h => ?_) (by rw [List.length_map, sizeLine_eq]; omega) trivial (fun j hj J h => ?_) ?_
        · simp?! only [sp_next_lines]; exact ⟨ns, en, h⟩
        · walk_at "VX"; exact h
        · have e : (ns.map D.int).flatMap (fun j => [D.tup [.int d, j]]) = (ns.map fun j => ((d, j) : Pl)).map plD := by
            rw [List.flatMap_map, List.map_map, List.map_eq_flatMap]; rfl
          rw [e]
          walk_at "VX"
          refine ⟨by rw [List.length_map, List.length_map, sizeLine_eq]; omega, ⟨_, rfl⟩, fun b o e => kp b o e _⟩
    · rintro ρ S2 ⟨⟨z7, rfl⟩, kp, e⟩
      obtain ⟨s, kk, eh⟩ := home_ex hh
      subst eh
      have ge := goP_eq el en (.tup [.str s, .int kk])
      simp?! only [e]
      by_cases hc : w = "call"
      · rw [if_pos (by simpa using hc)]
        obtain ⟨k', er, k0, k1⟩ := pr.call_to hq (by rw [← hc]; exact el)
        rw [er]
        by_cases hs : s = "peg"
        · have pg : isPeg (.tup [.str s, .int kk]) = true := decide_eq_true hs
          rw [pg, er, if_pos (show w = "call" ∧ true = true from ⟨hc, rfl⟩)] at ge
          rw [if_pos (by simpa using hs)]
          walk_at "VX"
          refine ⟨⟨_, rfl⟩, ?_, fin_same (k p _ hp (fun b o eb => ?_) ?_)⟩
          · have := nextN_two en
            rw [List.length_map, sizeLine_eq]; split
            · decide
            · rw [List.length_map]; omega
          · rw [supd_ne (fun z => by subst z; rw [hp] at eb; cases eb)]; exact kp b o eb
          · rw [supd_same, ge, List.map_append]; rfl
        · have pg : isPeg (.tup [.str s, .int kk]) = false := decide_eq_false hs
          rw [pg, if_neg (show ¬ (w = "call" ∧ false = true) from fun z => by cases z.2), List.append_nil] at ge
          rw [if_neg (by simpa using hs)]
          exact fin_same (k p _ hp kp (by rw [ge]; exact e))
      · rw [if_neg (by simpa using hc)]
        rw [if_neg (show ¬ (w = "call" ∧ isPeg (.tup [.str s, .int kk]) = true) from fun z => hc z.1), List.append_nil] at ge
        exact fin_same (k p _ hp kp (by rw [ge]; exact e))
  · exact h.elim
abbrev s_comes_from : Stmt := top 52
abbrev n_comes_from : List Str := ["program", "home", "found", "place", "there"]
theorem sc_comes_from : FnScope n_comes_from ["program", "home"] (defScope s_comes_from) := ⟨rfl, rfl, rfl, by decide +kernel, rfl, by decide +kernel, by decide +kernel⟩
def sp_comes_from (w : World) : VSp := fun ds S Q => match ds with
  | [.tup ps, h] => Prog (.tup ps) ∧ isHome h = true ∧ ∀ (p : Addr) (S' : Store) (A : Pl → Addr) (L : Pl → List Pl), S p = none → S' p = some (.dtn w p (prA A (places ps))) → (∀ b o, S b = some o → S' b = some o) → Rows S S' A (places ps) (fun q => (L q).map plD) →
      (∀ q ∈ places ps, ∀ x, x ∈ L q ↔ x ∈ places ps ∧ q ∈ goP ps x h) → (∀ q ∈ places ps, A q ≠ p) → (∀ q ∈ places ps, (L q).length ≤ 1000) → Q (.ref p) S'
  | _ => False
theorem ok_comes_from (T : Tx K w mg) : DefV P w K mg base 4 "comes_from" ["program", "home"] (sp_comes_from w) := by
  refine DefV.mk' T.f_comes_from sc_comes_from (fun _ _ _ _ _ _ us hl => match us, hl with | [_, _], _ => rfl) (fun f cdv A outer s H E hgd hr hcd => ⟨_, (s_cons (s_setDcT (i := 2) (w := w) (c := (.one 3)) (own := [("place", 3)]) rfl (by simp [CT.within]) (units65 hr) rfl sc_comes_from.nd rfl rfl (sw_trueD rfl rfl rfl (by decide +kernel)) (blkOk_by (N := n_comes_from) (sc := defScope s_comes_from) (by decide +kernel)) (i_seq (v_call (ok_all_places T) (hr.mono (by decide)) hgd rfl (a_cons (v_var 0) a_nil))) (fun _ _ _ _ _ => (pg_name (i := 3) sc_comes_from.nd rfl (by first | exact Or.inl rfl | exact Or.inr rfl))) (fun _ _ _ _ _ => ts_nil) (fun _ _ _ _ _ => (v_var 3)) (fun _ _ _ _ _ => (v_lstM a_nil)))
      (s_cons (s_for (c := (.one 3)) PassesOwn.never rfl (i_seq (v_call (ok_all_places T) (hr.mono (by decide)) hgd rfl (a_cons (v_var 0) a_nil))) (pg_name (i := 3) sc_comes_from.nd rfl (by first | exact Or.inl rfl | exact Or.inr rfl))
      (s_one (s_for (c := (.one 4)) PassesOwn.never rfl (i_seq (v_call (ok_goes_on_to T) (hr.mono (by decide)) hgd rfl (a_cons (v_var 0) (a_cons (v_var 3) (a_cons (v_var 1) a_nil))))) (pg_name (i := 4) sc_comes_from.nd rfl (by first | exact Or.inl rfl | exact Or.inr rfl))
      (s_one (s_expr (v_app (v_tsub (w := w) rfl (units65 hr) (v_var 2) (v_var 4)) (v_var 3) (pe_bm PySem.F.plainAttrs_list PySem.F.slot_list_append PySem.F.type_list_append mt_append (v_tsub (w := w) rfl (units65 hr) (v_var 2) (v_var 4)) (pa_cons (v_var 3) pa_nil))))))))
      (s_one (s_ret (v_var 2))))), ?_⟩)
  intro ds S Q hl h
  unfold sp_comes_from at h
  split at h
  · rename_i ps hm
    obtain ⟨pr, hh, k⟩ := h
    have pl := places_len pr
    have nd := places_nd ps
    have sz := sizeLine_eq
    have hk := fun p S' A L a b c d e f g => fin_same (k p S' A L a b c d e f g)
    simp?! only [sp_all_places]
    refine ⟨pr, ?_⟩
    have tk : ∀ i (q : Pl), (places ps)[i]? = some q → (places ps).take (i + 1) = (places ps).take i ++ [q] ∧ q ∉ (places ps).take i := fun i q e => by
      have e2 : (places ps).take (i + 1) = (places ps).take i ++ [q] := by rw [List.take_succ, e]; rfl
      refine ⟨e2, fun m => ?_⟩
      have n2 : ((places ps).take (i + 1)).Nodup := nd.sublist (List.take_sublist _ _)
      rw [e2] at n2
      exact (List.nodup_append.mp n2).2.2 q m q (by simp) rfl
    refine turns_inv (fun i acc S2 => ∃ A, acc = prA A ((places ps).take i) ∧ Rows S S2 A ((places ps).take i) (fun _ => []) ∧ ∀ b o, S b = some o → S2 b = some o) ⟨fun _ => 0, by simp [prA], ⟨by simp, by simp, by simp⟩, fun _ _ h => h⟩ (fun _ _ _ _ => trivial) (fun i d acc S2 hd h => ?_) (fun acc S2 h => ?_)
    · obtain ⟨A, rfl, R, kp⟩ := h
      rw [List.getElem?_map] at hd
      obtain ⟨q, eq, rfl⟩ := Option.map_eq_some_iff.mp hd
      obtain ⟨e2, nq⟩ := tk i q eq
      simp?! only [keyT_pl]
      refine ⟨?_, fun b hb => ⟨_, by rw [prA_put nq, e2], by rw [e2]; exact R.add nq hb (none_of_keep kp hb), keep_supd kp (none_of_keep kp hb)⟩⟩
      unfold prA
      rw [List.length_map, List.length_take]
      omega
    · obtain ⟨A, rfl, R, kp⟩ := h
      rw [List.length_map, List.take_length] at R
      intro p hp
      rw [List.length_map, List.take_length]
      have hp0 := none_of_keep kp hp
      refine mFor_lst ((places ps).map plD) (fun i ρ S3 => (∃ z3 z4, ρ = [some (.tup ps), some (hm), some (.ref p), z3, z4]) ∧ ∃ L : Pl → List Pl, Rows S S3 A (places ps) (fun q => (L q).map plD) ∧ (∀ b o, S b = some o → S3 b = some o) ∧ S3 p = some (.dtn w p (prA A (places ps))) ∧ (∀ q ∈ places ps, ∀ x, x ∈ L q ↔ x ∈ (places ps).take i ∧ q ∈ goP ps x hm) ∧ ∀ q, (L q).length ≤ 3 * i) (kp := fun _ => True) (S1 := supd S2 p (.dtn w p (prA A (places ps)))) (fun Qi h => ?_) ?_ (fun _ _ _ _ => trivial) (fun i d ρ S3 hd h => ?_) (fun ρ S3 h => ?_)
      · walk_at "VX"; exact ⟨pr, h⟩
      · refine ⟨⟨_, _, rfl⟩, fun _ => [], R.keep fun c o e => ?_, keep_supd kp hp0, supd_same, fun q hq x => by simp, fun q => by simp⟩
        rw [supd_ne (fun z => by subst z; rw [hp] at e; cases e)]; exact e
      · obtain ⟨⟨z3, z4, rfl⟩, L, R, kp, ep, hL, hl⟩ := h
        rw [List.getElem?_map] at hd
        obtain ⟨x, eq, rfl⟩ := Option.map_eq_some_iff.mp hd
        have hx := List.mem_of_getElem? eq
        obtain ⟨e2, nq⟩ := tk i x eq
        have hi := getE eq
        walk_at "VX"
        refine mFor_draw ?_
        simp?! only [sp_goes_on_to]
        refine ⟨pr, hx, hh, fun a S4 ha k4 e4 => ?_⟩
        have Aa : ∀ q ∈ places ps, A q ≠ a := fun q hq e => by have := R.at_ q hq; rw [e, ha] at this; cases this
        have pa : p ≠ a := fun e => by rw [e, ha] at ep; cases ep
        have gl := goP_len pr hx hm
        have gi := go_in pr hx hm
        rw [e4]
        refine mFor_lst ((goP ps x hm).map plD) (fun j ρ S5 => (∃ z4, ρ = [some (.tup ps), some (hm), some (.ref p), some (plD x), z4]) ∧ S5 a = some (.lst ((goP ps x hm).map plD)) ∧ ∃ L2 : Pl → List Pl, Rows S S5 A (places ps) (fun q => (L2 q).map plD) ∧ (∀ b o, S b = some o → S5 b = some o) ∧ S5 p = some (.dtn w p (prA A (places ps))) ∧ (∀ q ∈ places ps, ∀ y, y ∈ L2 q ↔ (y ∈ (places ps).take i ∧ q ∈ goP ps y hm) ∨ (y = x ∧ q ∈ (goP ps x hm).take j)) ∧ ∀ q, (L2 q).length ≤ 3 * i + j) (kp := fun S => S a = some (.lst ((goP ps x hm).map plD))) (S1 := S4) (fun Qi h => ?_) ?_ (fun _ _ _ h => h.2.1) (fun j d ρ S5 hd h => ?_) (fun ρ S5 h => ?_)
        · exact h
        · refine ⟨⟨_, rfl⟩, e4, L, R.keep k4, fun b o e => k4 b o (kp b o e), k4 _ _ ep, fun q hq y => ?_, fun q => by have := hl q; omega⟩
          rw [hL q hq y]; simp
        · obtain ⟨⟨z4, rfl⟩, e5, L2, R, kp, ep, hL2, hl2⟩ := h
          rw [List.getElem?_map] at hd
          obtain ⟨y, ey, rfl⟩ := Option.map_eq_some_iff.mp hd
          have hy := gi y (List.mem_of_getElem? ey)
          have hj := getE ey
          simp?! only [rdT_n ep, okT_n ep, keyT_pl, prA_val hy, R.at_ y hy]
          have e3 : (goP ps x hm).take (j + 1) = (goP ps x hm).take j ++ [y] := by rw [List.take_succ, ey]; rfl
          refine ⟨⟨_, rfl⟩, (by rw [List.length_map]; have := hl2 y; have := getE eq; omega), ⟨_, rfl⟩, by rw [supd_ne (fun z => Aa y hy z.symm)]; exact e5, fun q => if q = y then L2 y ++ [x] else L2 q, ?_, fun b o e => ?_, ?_, fun q hq u => ?_, fun q => ?_⟩
          · refine (R.upd hy ((L2 y).map plD ++ [plD x])).congr fun q _ => ?_
            show _ = List.map plD (if q = y then L2 y ++ [x] else L2 q)
            by_cases z : q = y
            · rw [if_pos z, if_pos z, List.map_append]; rfl
            · rw [if_neg z, if_neg z]
          · rw [supd_ne (fun z => by have := R.new y hy; rw [← z, e] at this; cases this)]; exact kp b o e
          · rw [supd_ne (fun z => by have := R.at_ y hy; rw [← z, ep] at this; cases this)]; exact ep
          · show u ∈ (if q = y then L2 y ++ [x] else L2 q) ↔ _
            rw [e3]
            by_cases z : q = y
            · subst z
              rw [if_pos rfl, List.mem_append, hL2 q hy u, List.mem_append]
              simp only [List.mem_singleton, or_true, and_true]
              constructor
              · rintro ((h | h) | h)
                · exact .inl h
                · exact .inr h.1
                · exact .inr h
              · rintro (h | h)
                · exact .inl (.inl h)
                · exact .inr h
            · rw [if_neg z, hL2 q hq u, List.mem_append]
              simp only [List.mem_singleton, z, or_false]
          · show (if q = y then L2 y ++ [x] else L2 q).length ≤ _
            have h1 := hl2 q
            have h2 := hl2 y
            split
            · rw [List.length_append, List.length_singleton]; omega
            · omega
        · obtain ⟨⟨z4, rfl⟩, e5, L2, R, kp, ep, hL2, hl2⟩ := h
          rw [List.length_map, List.take_length] at hL2
          refine ⟨⟨_, _, rfl⟩, L2, R, kp, ep, fun q hq u => ?_, fun q => by have := hl2 q; rw [List.length_map] at this; omega⟩
          rw [hL2 q hq u, e2, List.mem_append, List.mem_singleton]
          constructor
          · rintro (⟨h1, h2⟩ | ⟨h1, h2⟩)
            · exact ⟨.inl h1, h2⟩
            · exact ⟨.inr h1, by rw [h1]; exact h2⟩
          · rintro ⟨h1 | h1, h2⟩
            · exact .inl ⟨h1, h2⟩
            · exact .inr ⟨h1, by rw [← h1]; exact h2⟩
      · obtain ⟨⟨z3, z4, rfl⟩, L, R, kp, ep, hL, hl⟩ := h
        rw [List.length_map, List.take_length] at hL
        walk_at "VX"
        refine hk p S3 A L hp0 ep kp R hL ?_ ?_
        · exact fun q hq e => by have := R.at_ q hq; rw [e, ep] at this; cases this
        · exact fun q hq => by have := hl q; rw [List.length_map] at this; omega
  · exact h.elim
abbrev s_reads : Stmt := top 25
abbrev n_reads : List Str := ["line", "home"]
theorem sc_reads : FnScope n_reads ["line"] (defScope s_reads) := ⟨rfl, rfl, rfl, by decide +kernel, rfl, by decide +kernel, by decide +kernel⟩
def readsW (w : Str) (r : List D) : List D := sortH (partsW w r "read")
def sp_reads : VSp := fun ds S Q => match ds with
  | [.tup (.str w :: r)] => (∃ es, lineTab.lookup w = some es ∧ es.length = r.length) ∧ (∀ e ∈ partsW w r "read", isHome e = true) ∧ (partsW w r "read").length ≤ 3 ∧ ∀ a S', (∀ b o, S b = some o → S' b = some o) → S' a = none → Q (.ref a) (supd S' a (.lst (readsW w r)))
  | _ => False
theorem ok_reads (T : Tx K w mg) : DefV P w K mg base 2 "reads" ["line"] sp_reads := by
  refine DefV.mk' T.f_reads sc_reads (fun _ _ _ _ _ _ us hl => match us, hl with | [_], _ => rfl) (fun f cdv A outer s H E hgd hr hcd => ⟨_, (s_one (s_ret (v_sortC (c := (.one 1)) (own := [("home", 1)]) recR_mut (by simp [CT.within]) rfl hr.units rfl T.b_sorted sc_reads.nd (blkOk_by (N := n_reads) (sc := defScope s_reads) (by decide +kernel)) (i_seq (v_call (ok_parts_of T) (hr.mono (by decide)) hgd rfl (a_cons (v_var 0) (a_cons (v_gstr rfl T.c_READ) a_nil)))) (fun _ _ _ _ _ => (pg_name (i := 1) sc_reads.nd rfl (by first | exact Or.inl rfl | exact Or.inr rfl))) (fun _ _ _ _ _ => ts_nil) (fun _ _ _ _ _ => (v_var 1))))), ?_⟩)
  intro ds S Q hl h
  unfold sp_reads at h
  split at h
  · rename_i w r
    obtain ⟨he, hh, h3, k⟩ := h
    simp?! only [sp_parts_of]
    refine ⟨he, ?_⟩
    refine turns_set (fun d => [d]) (by simp only [supd_same]) (by omega) (fun d hd J acc hl hJ _ => ?_) (fun d _ => Nat.le_refl _) (fun acc nd hm hl => ?_)
    · walk_at "VX"
      exact ⟨hl, keyT_home (hh d hd), hJ⟩
    · have hm' : ∀ e, e ∈ acc ↔ e ∈ partsW w r "read" := fun e => by rw [hm]; simp
      refine ⟨srt_homes fun e he => hh e ((hm' e).mp he), fun ws pw a2 h2 => ?_⟩
      rw [sort_homes hh nd hm' pw]
      refine fin_same (k a2 _ (fun b o hb => hb) h2)
  · exact h.elim
abbrev s_reads_at : Stmt := top 50
abbrev n_reads_at : List Str := ["program", "place", "line"]
theorem sc_reads_at : FnScope n_reads_at ["program", "place"] (defScope s_reads_at) := ⟨rfl, rfl, rfl, by decide +kernel, rfl, by decide +kernel, by decide +kernel⟩
def sp_reads_at : VSp := fun ds S Q => match ds with
  | [.tup ps, .tup [.int d, .int a]] => Prog (.tup ps) ∧ (d, a) ∈ places ps ∧ ∀ p S', S p = none → (∀ b o, S b = some o → S' b = some o) → S' p = some (.lst (readsI ps (d, a))) → Q (.ref p) S'
  | _ => False
theorem ok_reads_at (T : Tx K w mg) : DefV P w K mg base 3 "reads_at" ["program", "place"] sp_reads_at := by
  refine DefV.mk' T.f_reads_at sc_reads_at (fun _ _ _ _ _ _ us hl => match us, hl with | [_, _], _ => rfl) (fun f cdv A outer s H E hgd hr hcd => ⟨_, (s_cons (s_set 2 sc_reads_at.nd rfl (by first | exact Or.inl rfl | exact Or.inr rfl) (v_call (ok_line_at T) (hr.mono (by decide)) hgd rfl (a_cons (v_var 0) (a_cons (v_var 1) a_nil))))
      (s_cons (s_if (PW.pt (w_and (t_cmp (ov_eqS hr.units0) (v_sub (v_var 2) v_int) v_str) (w_and1 (t_cmp (ov_ne hr.units) (v_sub (v_sub (v_var 0) (v_sub (v_var 1) v_int)) v_int) (v_gstr rfl T.c_WHATEVER))))) (s_one (s_ret (v_lstM (a_cons (v_gtup rfl T.c_GIVEN) a_nil)))) s_nil)
      (s_one (s_ret (v_call (ok_reads T) (hr.mono (by decide)) hgd rfl (a_cons (v_var 2) a_nil)))))), ?_⟩)
  intro ds S Q hl h
  unfold sp_reads_at at h
  split at h
  · rename_i ps d a
    obtain ⟨pr, hq, k⟩ := h
    obtain ⟨t, g, ks, b, ls, w, r, ns, ed, e1, e2, ea, el, ll, en, hn, l24⟩ := pr.place hq
    obtain ⟨w', es, r', e3, he, hf, hK, l3, _⟩ := ll.ex
    simp only [D.tup.injEq, List.cons.injEq, D.str.injEq] at e3
    obtain ⟨rfl, rfl⟩ := e3
    simp?! only [sp_line_at, el, sp_reads, ed]
    refine ⟨pr, hq, ?_⟩
    have rh : ∀ e ∈ partsW w r "read", isHome e = true := fun e m => homes_of he hf (.inl rfl) m
    have kn : ∀ (x : List D), readsI ps (d, a) = x → ∀ b S', (∀ c o, S c = some o → S' c = some o) → S' b = none → VL.Fin Q (.ref b) (supd S' b (.lst x)) := fun x ex b S' h1 h2 => by
      have nb : S b = none := by
        cases q : S b with
        | none => rfl
        | some o => rw [h1 b o q] at h2; cases h2
      refine fin_same (k b _ nb (fun c o e => ?_) (by rw [supd_same, ex]))
      rw [supd_ne (fun z => by subst z; rw [nb] at e; cases e)]
      exact h1 c o e
    have er : readsI ps (d, a) = readsP g (.tup (.str w :: r)) := by unfold readsI; rw [e2, el]
    by_cases c1 : w = "back"
    · rw [if_pos (by simpa using c1)]
      by_cases c2 : g = "-"
      · rw [if_neg (by simpa using c2)]
        exact ⟨⟨es, he, (fits_len' hf).symm⟩, rh, partsW_len _ _ _, kn _ (by rw [er]; unfold readsP; simp only; rw [if_neg (fun z => z.2 c2)]; rfl)⟩
      · rw [if_pos (by simpa using c2)]
        intro b hb
        exact kn _ (by rw [er]; unfold readsP; simp only; rw [if_pos ⟨c1, c2⟩]; rfl) b S (fun _ _ h => h) hb
    · rw [if_neg (by simpa using c1)]
      exact ⟨⟨es, he, (fits_len' hf).symm⟩, rh, partsW_len _ _ _, kn _ (by rw [er]; unfold readsP; simp only; rw [if_neg (fun z => c1 z.1)]; rfl)⟩
  · exact h.elim
abbrev s_live_places : Stmt := top 53
abbrev n_live_places : List Str := ["program", "home", "before", "waiting", "found", "here", "place"]
theorem sc_live_places : FnScope n_live_places ["program", "home"] (defScope s_live_places) := ⟨rfl, rfl, rfl, by decide +kernel, rfl, by decide +kernel, by decide +kernel⟩
def sp_live_places (w : World) : VSp := fun ds S Q => match ds with
  | [.tup ps, h] => Prog (.tup ps) ∧ isHome h = true ∧ ∀ (p : Addr) (S' : Store) (R : List Pl), S p = none → S' p = some (.dtn w p (trK R)) → (∀ b o, S b = some o → S' b = some o) → R.Nodup → (∀ q, q ∈ R ↔ q ∈ places ps ∧ Live ps h q) → Q (.ref p) S'
  | _ => False
theorem ok_live_places (T : Tx K w mg) : DefV P w K mg base 5 "live_places" ["program", "home"] (sp_live_places w) := by
  refine DefV.mk' T.f_live_places sc_live_places (fun _ _ _ _ _ _ us hl => match us, hl with | [_, _], _ => rfl) (fun f cdv A outer s H E hgd hr hcd => ⟨_, (s_cons (s_set 2 sc_live_places.nd rfl (by first | exact Or.inl rfl | exact Or.inr rfl) (v_call (ok_comes_from T) (hr.mono (by decide)) hgd rfl (a_cons (v_var 0) (a_cons (v_var 1) a_nil))))
      (s_cons (s_setLc (i := 3) (c := (.one 6)) (own := [("place", 6)]) recR_mut (by simp [CT.within]) rfl sc_live_places.nd rfl rfl (sw_true rfl rfl rfl (by decide +kernel)) (i_seq (v_call (ok_all_places T) (hr.mono (by decide)) hgd rfl (a_cons (v_var 0) a_nil))) (blkOk_by (N := n_live_places) (sc := defScope s_live_places) (by decide +kernel)) (fun _ _ _ _ _ => (pg_name (i := 6) sc_live_places.nd rfl (by first | exact Or.inl rfl | exact Or.inr rfl))) (fun _ _ _ _ _ => (ts_one (t_cmp (ov_inD (units65 hr)) (v_var 1) (v_call (ok_reads_at T) (hr.mono (by decide)) hgd rfl (a_cons (v_var 0) (a_cons (v_var 6) a_nil)))))) (fun _ _ _ _ _ => (v_var 6)))
      (s_cons (s_setDcT (i := 4) (w := w) (c := (.one 6)) (own := [("place", 6)]) rfl (by simp [CT.within]) (units65 hr) rfl sc_live_places.nd rfl rfl (sw_trueD rfl rfl rfl (by decide +kernel)) (blkOk_by (N := n_live_places) (sc := defScope s_live_places) (by decide +kernel)) (i_seq (v_var 3)) (fun _ _ _ _ _ => (pg_name (i := 6) sc_live_places.nd rfl (by first | exact Or.inl rfl | exact Or.inr rfl))) (fun _ _ _ _ _ => ts_nil) (fun _ _ _ _ _ => (v_var 6)) (fun _ _ _ _ _ => v_bl))
      (s_cons (s_while PassesOwn.never (t_cmp (ov_ne hr.units) (v_var 3) (v_lst a_nil))
      (s_cons (s_set 5 sc_live_places.nd rfl (by first | exact Or.inl rfl | exact Or.inr rfl) (v_pop (v_var 3) (pe_bm0 PySem.F.plainAttrs_list PySem.F.slot_list_pop PySem.F.type_list_pop mt_pop (v_var 3))))
      (s_one (s_for (c := (.one 6)) PassesOwn.never rfl (i_seq (v_tsub (w := w) rfl (units65 hr) (v_var 2) (v_var 5))) (pg_name (i := 6) sc_live_places.nd rfl (by first | exact Or.inl rfl | exact Or.inr rfl))
      (s_one (s_if (t_cmp (ov_tnotin (w := w) rfl (units65 hr)) (v_var 6) (v_var 4)) (s_cons (s_asg v_bl (g_sett (w := w) rfl (v_var 4) (v_var 6) (pg_sub (v_var 4) (v_var 6) (set_dictT (units65 hr)))))
      (s_one (s_expr (v_app (v_var 3) (v_var 6) (pe_bm PySem.F.plainAttrs_list PySem.F.slot_list_append PySem.F.type_list_append mt_append (v_var 3) (pa_cons (v_var 6) pa_nil)))))) s_nil))))))
      (s_one (s_ret (v_var 4))))))), ?_⟩)
  intro ds S Q hl h
  unfold sp_live_places at h
  split at h
  · rename_i ps hm
    obtain ⟨pr, hh, k⟩ := h
    have pl := places_len pr
    have nd := places_nd ps
    have sz := sizeLine_eq
    have hk := fun p S' R a b c d e => fin_same (k p S' R a b c d e)
    simp?! only [sp_comes_from]
    refine ⟨pr, hh, fun p S1 A L hp e1 kp R hL hA hl => ?_⟩
    have rdm : ∀ q ∈ places ps, (inP hm (readsI ps q) = true) = (hm ∈ readsI ps q) := fun q hq => inP_homes hh (reads_homes pr hq).1
    refine mLc_inv ((places ps).map plD) (fun i acc S2 => acc = (((places ps).take i).filter fun q => inP hm (readsI ps q)).map plD ∧ ∀ b o, S1 b = some o → S2 b = some o) (kp := fun _ => True) (S1 := S1) (fun Qi h => ?_) (by rw [List.length_map]; omega) ⟨by simp, fun _ _ h => h⟩ (fun _ _ _ _ => trivial) (fun i d acc S2 hd h => ?_) (fun acc S2 h => ?_)
    · simp?! only [sp_all_places]; exact ⟨pr, h⟩
    · obtain ⟨rfl, k2⟩ := h
      rw [List.getElem?_map] at hd
      obtain ⟨q, eq, rfl⟩ := Option.map_eq_some_iff.mp hd
      have hq := List.mem_of_getElem? eq
      have e2 : (places ps).take (i + 1) = (places ps).take i ++ [q] := by rw [List.take_succ, eq]; rfl
      simp?! only [sp_reads_at]
      refine ⟨pr, hq, fun a S3 ha k3 e3 => ?_⟩
      have r3 : rdS (.ref a) S3 = some (readsI ps q) := rdS_ref e3
      simp?! only [mInD_r e3]
      refine ⟨shaped_home hh, shaped_homes (reads_homes pr hq).1, by simp, ?_⟩
      have kk : ∀ b o, S1 b = some o → S3 b = some o := fun b o e => k3 b o (k2 b o e)
      rw [e2, List.filter_append, List.filter_cons, List.filter_nil, List.map_append]
      by_cases c : inP hm (readsI ps q) = true
      · simp only [c, if_true]; exact ⟨by simp, kk⟩
      · rw [Bool.not_eq_true] at c; simp only [c, Bool.false_eq_true, if_false]; exact ⟨by simp, kk⟩
    · obtain ⟨rfl, k2⟩ := h
      rw [List.length_map, List.take_length]
      walk_at "VX"
      intro wa hwa
      have wn : ((places ps).filter fun q => inP hm (readsI ps q)).Nodup := List.Pairwise.filter _ nd
      have wm : ∀ q, q ∈ ((places ps).filter fun q => inP hm (readsI ps q)) ↔ q ∈ places ps ∧ hm ∈ readsI ps q := fun q => by
        rw [List.mem_filter]
        constructor
        · rintro ⟨a, b⟩; exact ⟨a, by rw [← rdm q a]; exact b⟩
        · rintro ⟨a, b⟩; exact ⟨a, by rw [rdm q a]; exact b⟩
      have wl : ((places ps).filter fun q => inP hm (readsI ps q)).length ≤ 144 := Nat.le_trans (List.length_filter_le _ _) pl
      generalize ((places ps).filter fun q => inP hm (readsI ps q)) = W0 at *
      have hw1 := none_of_keep k2 hwa
      have hw0 := none_of_keep kp hw1
      have e1' := k2 _ _ e1
      have R' := R.keep k2
      have pwa : p ≠ wa := fun z => by rw [z, hwa] at e1'; cases e1'
      have Aw : ∀ q ∈ places ps, A q ≠ wa := fun q hq z => by have := R'.at_ q hq; rw [z, hwa] at this; cases this
      refine turns_inv (fun i acc S3 => acc = trK (W0.take i) ∧ S3 = supd S2 wa (.lst (W0.map plD))) ⟨rfl, rfl⟩ (fun i acc S3 h => by rw [h.2, supd_same]) (fun i d acc S3 hd h => ?_) (fun acc S3 h => ?_)
      · obtain ⟨rfl, rfl⟩ := h
        rw [List.getElem?_map] at hd
        obtain ⟨q, eq, rfl⟩ := Option.map_eq_some_iff.mp hd
        have e2 : W0.take (i + 1) = W0.take i ++ [q] := by rw [List.take_succ, eq]; rfl
        have nq : q ∉ W0.take i := fun m => by
          have n2 : (W0.take (i + 1)).Nodup := wn.sublist (List.take_sublist _ _)
          rw [e2] at n2
          exact (List.nodup_append.mp n2).2.2 q m q (by simp) rfl
        simp?! only [keyT_pl]
        refine ⟨?_, by rw [trK_put nq, e2]⟩
        unfold trK
        rw [List.length_map, List.length_take]
        omega
      · obtain ⟨rfl, rfl⟩ := h
        rw [List.length_map, List.take_length]
        intro fa hfa
        have hf2 : fa ≠ wa := fun z => by subst z; rw [supd_same] at hfa; cases hfa
        rw [supd_ne hf2] at hfa
        have hf1 := none_of_keep k2 hfa
        have hf0 := none_of_keep kp hf1
        have pfa : p ≠ fa := fun z => by rw [z, hfa] at e1'; cases e1'
        have Af : ∀ q ∈ places ps, A q ≠ fa := fun q hq z => by have := R'.at_ q hq; rw [z, hfa] at this; cases this
        refine ⟨fun m ρ S' => ∃ R W, (∃ z5 z6, ρ = [some (.tup ps), some (hm), some (.ref p), some (.ref wa), some (.ref fa), z5, z6]) ∧ S' p = some (.dtn w p (prA A (places ps))) ∧ (∀ q ∈ places ps, S' (A q) = some (.lst ((L q).map plD))) ∧ S' wa = some (.lst (W.map plD)) ∧ S' fa = some (.dtn w fa (trK R)) ∧ (∀ b o, S b = some o → S' b = some o) ∧ LvI ps hm R W ∧ (∀ q ∈ R, q ∉ W → ∀ x ∈ places ps, q ∈ goP ps x hm → x ∈ R) ∧ m = 2 * (144 - R.length) + W.length,
          ⟨_, W0, W0, ⟨_, _, rfl⟩, ?_, fun q hq => ?_, ?_, supd_same, fun b o e => ?_, ⟨wn, wn, fun q hq => ⟨((wm q).mp hq).1, .here ((wm q).mp hq).2⟩, fun _ h => h, fun q a b => (wm q).mpr ⟨a, b⟩⟩, fun q a b => absurd a b, rfl⟩, ?_⟩
        · rw [supd_ne pfa, supd_ne pwa]; exact e1'
        · rw [supd_ne (Af q hq), supd_ne (Aw q hq)]; exact R'.at_ q hq
        · rw [supd_ne hf2.symm, supd_same]
        · rw [supd_ne (fun z => by subst z; rw [hf0] at e; cases e), supd_ne (fun z => by subst z; rw [hw0] at e; cases e)]; exact k2 _ _ (kp _ _ e)
        rintro m ρ S' ⟨R, W, ⟨z5, z6, rfl⟩, ep, eA, ew, ef, ks, I, cl, em⟩
        have ln := I.len pl
        simp?! only [pl_eqq ew]
        refine ⟨pl_okq ew, nil_okq _, ?_⟩
        by_cases hW : W = []
        · subst hW
          rw [if_neg (by simp)]
          refine hk fa S' R hf0 ef ks I.nr fun q => ⟨fun hq => I.inr q hq, fun hq => live_closed I.rd (fun q hq x hx hg => cl q hq (by simp) x hx hg) pr hq.2 hq.1⟩
        · rw [if_pos (by simp [hW])]
          obtain ⟨W1, q0, rfl⟩ : ∃ W1 q0, W = W1 ++ [q0] := ⟨W.dropLast, W.getLast hW, (List.dropLast_concat_getLast hW).symm⟩
          have lst := pl_last (W := W1) (q := q0)
          simp?! only [ew, lst.1, lst.2]
          have h0 := I.inr q0 (I.inw q0 (by simp))
          have wq := Aw
          have wp := pwa
          have wf := hf2
          have pf : p ≠ fa := pfa
          have I1 : LvI ps hm R W1 := ⟨I.nr, (List.nodup_append.mp I.nw).1, I.inr, fun q hq => I.inw q (by simp [hq]), I.rd⟩
          have nw1 : q0 ∉ W1 := fun hq => (List.nodup_append.mp I.nw).2.2 q0 hq q0 (by simp) rfl
          have gl : (L q0).length ≤ 1000 := hl q0 h0.1
          have ep1 : supd S' wa (SO.lst (List.map plD W1)) p = some (.dtn w p (prA A (places ps))) := by rw [supd_ne wp]; exact ep
          have eq1 : supd S' wa (SO.lst (List.map plD W1)) (A q0) = some (.lst ((L q0).map plD)) := by rw [supd_ne (wq q0 h0.1)]; exact eA q0 h0.1
          refine mFor_draw ?_
          simp?! only [rdT_n ep1, okT_n ep1, keyT_pl, prA_val h0.1, eq1]
          refine mFor_lst ((L q0).map plD) (fun j ρ S5 => ∃ R W, (∃ z6, ρ = [some (.tup ps), some (hm), some (.ref p), some (.ref wa), some (.ref fa), some (plD q0), z6]) ∧ S5 p = some (.dtn w p (prA A (places ps))) ∧ (∀ q ∈ places ps, S5 (A q) = some (.lst ((L q).map plD))) ∧ S5 wa = some (.lst (W.map plD)) ∧ S5 fa = some (.dtn w fa (trK R)) ∧ (∀ b o, S b = some o → S5 b = some o) ∧ LvI ps hm R W ∧ q0 ∈ R ∧ (∀ x ∈ (L q0).take j, x ∈ R) ∧ (∀ q ∈ R, q ∉ W → q ≠ q0 → ∀ x ∈ places ps, q ∈ goP ps x hm → x ∈ R) ∧ 2 * (144 - R.length) + W.length < m) (kp := fun S => S (A q0) = some (.lst ((L q0).map plD))) (S1 := supd S' wa (SO.lst (List.map plD W1))) (fun Qi h => ?_) ?_ (fun j ρ S5 h => ?_) (fun j d ρ S5 hd h => ?_) (fun ρ S5 h => ?_)
          · exact h
          · refine ⟨R, W1, ⟨_, rfl⟩, ep1, fun q hq => by rw [supd_ne (wq q hq)]; exact eA q hq, supd_same, by rw [supd_ne wf]; exact ef, fun b o e => ?_, I1, I.inw q0 (by simp), by simp, fun q hq hn hne => cl q hq (by simp [hn, hne]), by rw [em, List.length_append, List.length_singleton]; omega⟩
            rw [supd_ne (fun z => by subst z; rw [hw0] at e; cases e)]; exact ks b o e
          · obtain ⟨_, _, _, _, e, _⟩ := h; exact e q0 h0.1
          · obtain ⟨R, W, ⟨z6, rfl⟩, ep, eA, ew, ef, ks, I, hqR, hp, cl, em⟩ := h
            rw [List.getElem?_map] at hd
            obtain ⟨x, ex, rfl⟩ := Option.map_eq_some_iff.mp hd
            have hxm := (hL q0 h0.1 x).mp (List.mem_of_getElem? ex)
            have e3 : (L q0).take (j + 1) = (L q0).take j ++ [x] := by rw [List.take_succ, ex]; rfl
            have ln := I.len pl
            simp?! only [keyT_pl, rdT_n ef, okT_n ef, trK_val]
            by_cases hxR : x ∈ R
            · rw [if_neg (by simp [hxR])]
              refine ⟨R, W, ⟨_, rfl⟩, ep, eA, ew, ef, ks, I, hqR, fun y hy => ?_, cl, em⟩
              rw [e3] at hy
              rcases List.mem_append.mp hy with hy | hy
              · exact hp y hy
              · rw [List.mem_singleton.mp hy]; exact hxR
            · rw [if_pos (by simp [hxR])]
              simp?! only [ef, trK_put hxR]
              have ewf : supd S5 fa (SO.dtn w fa (trK (R ++ [x]))) wa = some (.lst (W.map plD)) := by rw [supd_ne wf.symm]; exact ew
              refine ⟨by unfold trK; rw [List.length_map]; omega, ⟨_, ewf⟩, ?_⟩
              rw [ewf]
              walk_at "VX"
              have I2 := I.add hxm.1 (.on hxm.2 (I.inr q0 hqR).2) hxR
              have ln2 := I2.len pl
              rw [List.length_append, List.length_singleton] at ln2
              refine ⟨by rw [List.length_map]; omega, R ++ [x], W ++ [x], ⟨_, rfl⟩, ?_, fun q hq => ?_, by rw [List.map_append]; rfl, by rw [supd_ne wf, supd_same], fun b o e => ?_, I2, by simp [hqR], fun y hy => ?_, fun q hq hn hne y hy hg => ?_, ?_⟩
              · rw [supd_ne wp, supd_ne pf]; exact ep
              · rw [supd_ne (wq q hq), supd_ne (Af q hq)]; exact eA q hq
              · rw [supd_ne (fun z => by subst z; rw [hw0] at e; cases e), supd_ne (fun z => by subst z; rw [hf0] at e; cases e)]; exact ks b o e
              · rw [e3] at hy
                rcases List.mem_append.mp hy with hy | hy
                · simp [hp y hy]
                · simp [List.mem_singleton.mp hy]
              · have hn2 : q ∉ W ∧ q ≠ x := by simpa using hn
                have hq2 : q ∈ R := by
                  rcases List.mem_append.mp hq with hq | hq
                  · exact hq
                  · exact absurd (List.mem_singleton.mp hq) hn2.2
                exact List.mem_append_left _ (cl q hq2 hn2.1 hne y hy hg)
              · rw [List.length_append, List.length_append, List.length_singleton]
                omega
          · obtain ⟨R, W, ⟨z6, rfl⟩, ep, eA, ew, ef, ks, I, hqR, hp, cl, em⟩ := h
            rw [List.length_map, List.take_length] at hp
            refine ⟨2 * (144 - R.length) + W.length, em, R, W, ⟨_, _, rfl⟩, ep, eA, ew, ef, ks, I, fun q hq hn y hy hg => ?_, rfl⟩
            by_cases e : q = q0
            · subst e
              exact hp y ((hL q h0.1 y).mpr ⟨hy, hg⟩)
            · exact cl q hq hn e y hy hg
  · exact h.elim
abbrev s_all_live : Stmt := top 54
abbrev n_all_live : List Str := ["program", "found", "home", "place"]
theorem sc_all_live : FnScope n_all_live ["program"] (defScope s_all_live) := ⟨rfl, rfl, rfl, by decide +kernel, rfl, by decide +kernel, by decide +kernel⟩
def sp_all_live (w : World) : VSp := fun ds S Q => match ds with
  | [.tup ps] => Prog (.tup ps) ∧ ∀ (p : Addr) (S' : Store) (A : Pl → Addr), S p = none → S' p = some (.dtn w p (prA A (places ps))) → (∀ b o, S b = some o → S' b = some o) → Rows S S' A (places ps) (liveL ps) → (∀ q ∈ places ps, A q ≠ p) → Q (.ref p) S'
  | _ => False
theorem ok_all_live (T : Tx K w mg) : DefV P w K mg base 6 "all_live" ["program"] (sp_all_live w) := by
  refine DefV.mk' T.f_all_live sc_all_live (fun _ _ _ _ _ _ us hl => match us, hl with | [_], _ => rfl) (fun f cdv A outer s H E hgd hr hcd => ⟨_, (s_cons (s_setDcT (i := 1) (w := w) (c := (.one 3)) (own := [("place", 3)]) rfl (by simp [CT.within]) (units65 hr) rfl sc_all_live.nd rfl rfl (sw_trueD rfl rfl rfl (by decide +kernel)) (blkOk_by (N := n_all_live) (sc := defScope s_all_live) (by decide +kernel)) (i_seq (v_call (ok_all_places T) (hr.mono (by decide)) hgd rfl (a_cons (v_var 0) a_nil))) (fun _ _ _ _ _ => (pg_name (i := 3) sc_all_live.nd rfl (by first | exact Or.inl rfl | exact Or.inr rfl))) (fun _ _ _ _ _ => ts_nil) (fun _ _ _ _ _ => (v_var 3)) (fun _ _ _ _ _ => (v_lstM a_nil)))
      (s_cons (s_for (c := (.one 2)) PassesOwn.never rfl (i_seq (v_call0 (ok_all_homes T) (hr.mono (by decide)) hgd rfl)) (pg_name (i := 2) sc_all_live.nd rfl (by first | exact Or.inl rfl | exact Or.inr rfl))
      (s_one (s_for (c := (.one 3)) PassesOwn.never rfl (i_keysT (w := w) rfl (v_call (ok_live_places T) (hr.mono (by decide)) hgd rfl (a_cons (v_var 0) (a_cons (v_var 2) a_nil)))) (pg_name (i := 3) sc_all_live.nd rfl (by first | exact Or.inl rfl | exact Or.inr rfl))
      (s_one (s_expr (v_app (v_tsub (w := w) rfl (units65 hr) (v_var 1) (v_var 3)) (v_var 2) (pe_bm PySem.F.plainAttrs_list PySem.F.slot_list_append PySem.F.type_list_append mt_append (v_tsub (w := w) rfl (units65 hr) (v_var 1) (v_var 3)) (pa_cons (v_var 2) pa_nil))))))))
      (s_one (s_ret (v_var 1))))), ?_⟩)
  intro ds S Q hl h
  unfold sp_all_live at h
  split at h
  · rename_i ps
    obtain ⟨pr, k⟩ := h
    have pl := places_len pr
    have nd := places_nd ps
    have sz := sizeLine_eq
    have hk := fun p S' A a b c d e => fin_same (k p S' A a b c d e)
    simp?! only [sp_all_places]
    refine ⟨pr, ?_⟩
    have tk : ∀ i (q : Pl), (places ps)[i]? = some q → (places ps).take (i + 1) = (places ps).take i ++ [q] ∧ q ∉ (places ps).take i := fun i q e => by
      have e2 : (places ps).take (i + 1) = (places ps).take i ++ [q] := by rw [List.take_succ, e]; rfl
      refine ⟨e2, fun m => ?_⟩
      have n2 : ((places ps).take (i + 1)).Nodup := nd.sublist (List.take_sublist _ _)
      rw [e2] at n2
      exact (List.nodup_append.mp n2).2.2 q m q (by simp) rfl
    refine turns_inv (fun i acc S2 => ∃ A, acc = prA A ((places ps).take i) ∧ Rows S S2 A ((places ps).take i) (fun _ => []) ∧ ∀ b o, S b = some o → S2 b = some o) ⟨fun _ => 0, by simp [prA], ⟨by simp, by simp, by simp⟩, fun _ _ h => h⟩ (fun _ _ _ _ => trivial) (fun i d acc S2 hd h => ?_) (fun acc S2 h => ?_)
    · obtain ⟨A, rfl, R, kp⟩ := h
      rw [List.getElem?_map] at hd
      obtain ⟨q, eq, rfl⟩ := Option.map_eq_some_iff.mp hd
      obtain ⟨e2, nq⟩ := tk i q eq
      simp?! only [keyT_pl]
      refine ⟨?_, fun b hb => ⟨_, by rw [prA_put nq, e2], by rw [e2]; exact R.add nq hb (none_of_keep kp hb), keep_supd kp (none_of_keep kp hb)⟩⟩
      unfold prA
      rw [List.length_map, List.length_take]
      omega
    · obtain ⟨A, rfl, R, kp⟩ := h
      rw [List.length_map, List.take_length] at R
      intro p hp
      rw [List.length_map, List.take_length]
      have hp0 := none_of_keep kp hp
      have pA : ∀ q ∈ places ps, A q ≠ p := fun q hq e => by have := R.at_ q hq; rw [e, hp] at this; cases this
      refine mFor_lst homes8 (fun i ρ S3 => (∃ z2 z3, ρ = [some (.tup ps), some (.ref p), z2, z3]) ∧ Rows S S3 A (places ps) (fun q => liveT ps q i) ∧ (∀ b o, S b = some o → S3 b = some o) ∧ S3 p = some (.dtn w p (prA A (places ps)))) (kp := fun _ => True) (S1 := supd S2 p (.dtn w p (prA A (places ps)))) (fun Qi h => ?_) ?_ (fun _ _ _ _ => trivial) (fun i d ρ S3 hd h => ?_) (fun ρ S3 h => ?_)
      · simp?! only [sp_all_homes]; exact h
      · refine ⟨⟨_, _, rfl⟩, (R.keep fun c o e => ?_).congr fun q _ => rfl, keep_supd kp hp0, supd_same⟩
        rw [supd_ne (fun z => by subst z; rw [hp] at e; cases e)]; exact e
      · obtain ⟨⟨z2, z3, rfl⟩, R, kp, ep⟩ := h
        have hm := homes_all d (List.mem_of_getElem? hd)
        walk_at "VX"
        refine mFor_draw ?_
        simp?! only [sp_live_places]
        refine ⟨pr, hm, fun a S4 Rq ha e4 k4 rn rm => ?_⟩
        have Aa : ∀ q ∈ places ps, A q ≠ a := fun q hq e => by have := R.at_ q hq; rw [e, ha] at this; cases this
        have pa : p ≠ a := fun e => by rw [e, ha] at ep; cases ep
        rw [e4]
        refine ⟨⟨rfl, rfl⟩, fun S5 e5 k5 => ?_⟩
        have kk : ∀ b o, S3 b = some o → S5 b = some o := fun b o e => by
          rw [k5 b (fun z => by subst z; rw [ha] at e; cases e)]; exact k4 b o e
        have em : ((trK Rq).map fun kv => dOfN kv.1) = Rq.map plD := by unfold trK; rw [List.map_map]; rfl
        rw [em]
        have hh8 : homes8.length = 8 := rfl
        refine mFor_lst (Rq.map plD) (fun j ρ S6 => (∃ z3, ρ = [some (.tup ps), some (.ref p), some (d), z3]) ∧ Rows S S6 A (places ps) (fun q => if q ∈ Rq.take j then liveT ps q (i + 1) else liveT ps q i) ∧ (∀ b o, S b = some o → S6 b = some o) ∧ S6 p = some (.dtn w p (prA A (places ps)))) (kp := fun _ => True) (S1 := S5) (fun Qi h => h) ?_ (fun _ _ _ _ => trivial) (fun j x ρ S6 hd2 h => ?_) (fun ρ S6 h => ?_)
        · refine ⟨⟨_, rfl⟩, (R.keep kk).congr fun q _ => by simp, fun b o e => kk _ _ (kp _ _ e), kk _ _ ep⟩
        · obtain ⟨⟨z3, rfl⟩, R6, k6, e6⟩ := h
          rw [List.getElem?_map] at hd2
          obtain ⟨y, ey, rfl⟩ := Option.map_eq_some_iff.mp hd2
          have e2 : Rq.take (j + 1) = Rq.take j ++ [y] := by rw [List.take_succ, ey]; rfl
          have ny : y ∉ Rq.take j := fun m => by
            have n2 : (Rq.take (j + 1)).Nodup := rn.sublist (List.take_sublist _ _)
            rw [e2] at n2
            exact (List.nodup_append.mp n2).2.2 y m y (by simp) rfl
          have hy := (rm y).mp (List.mem_of_getElem? ey)
          have er : S6 (A y) = some (.lst (liveT ps y i)) := by rw [R6.at_ y hy.1, if_neg ny]
          simp?! only [rdT_n e6, okT_n e6, keyT_pl, prA_val hy.1, er]
          have tl := liveT_len (ps := ps) (q := y) (i := i)
          have ts := (liveT_succ (ps := ps) (q := y) hd).1 hy.2
          refine ⟨⟨_, rfl⟩, by omega, ⟨_, rfl⟩, ?_, fun b o e => ?_, ?_⟩
          · refine (R6.upd hy.1 (liveT ps y i ++ [d])).congr fun q _ => ?_
            show (if q = y then liveT ps y i ++ [d] else _) = _
            rw [e2]
            by_cases z : q = y
            · subst z; rw [if_pos rfl, if_pos (by simp), ts]
            · rw [if_neg z]
              have : (q ∈ Rq.take j ++ [y]) = (q ∈ Rq.take j) := by simp [z]
              simp only [this]
          · rw [supd_ne (fun z => by have := R6.new y hy.1; rw [← z, e] at this; cases this)]; exact k6 b o e
          · rw [supd_ne (fun z => pA y hy.1 z.symm)]; exact e6
        · obtain ⟨⟨z3, rfl⟩, R6, k6, e6⟩ := h
          rw [List.length_map, List.take_length] at R6
          refine ⟨⟨_, _, rfl⟩, R6.congr fun q hq => ?_, k6, e6⟩
          by_cases z : q ∈ Rq
          · rw [if_pos z]
          · rw [if_neg z, (liveT_succ (ps := ps) (q := q) hd).2 fun l => z ((rm q).mpr ⟨hq, l⟩)]
      · obtain ⟨⟨z2, z3, rfl⟩, R, kp, ep⟩ := h
        walk_at "VX"
        exact hk p S3 A hp0 ep kp R pA
  · exact h.elim
abbrev s_needs : Stmt := top 55
abbrev n_needs : List Str := ["program", "d", "sort", "k"]
theorem sc_needs : FnScope n_needs ["program", "d"] (defScope s_needs) := ⟨rfl, rfl, rfl, by decide +kernel, rfl, by decide +kernel, by decide +kernel⟩
def sp_needs : VSp := fun ds S Q => match ds with
  | [.tup ps, .int d] => Prog (.tup ps) ∧ 0 ≤ d ∧ d < ps.length ∧ ∀ (p : Addr) (S' : Store), S p = none → S' p = some (.lst (needsL ps d)) → (∀ b o, S b = some o → S' b = some o) → Q (.ref p) S'
  | _ => False
theorem ok_needs (T : Tx K w mg) : DefV P w K mg base 10 "needs" ["program", "d"] sp_needs := by
  refine DefV.mk' T.f_needs sc_needs (fun _ _ _ _ _ _ us hl => match us, hl with | [_, _], _ => rfl) (fun f cdv A outer s H E hgd hr hcd => ⟨_, (s_cons (s_expr (v_call (ok_want_program T) (hr.mono (by decide)) hgd rfl (a_cons (v_var 0) a_nil)))
      (s_cons (s_expr (v_call (ok_want_def T) (hr.mono (by decide)) hgd rfl (a_cons (v_var 0) (a_cons (v_var 1) a_nil))))
      (s_one (s_ret (v_lc (c := (.many [2, 3])) (own := [("sort", 2), ("k", 3)]) recR_mut (by simp [CT.within]) rfl sc_needs.nd (i_seq (v_tsub (w := w) rfl (units65 hr) (v_call (ok_all_live T) (hr.mono (by decide)) hgd rfl (a_cons (v_var 0) a_nil)) (v_tup (a_cons (v_var 1) (a_cons v_int a_nil))))) (blkOk_by (N := n_needs) (sc := defScope s_needs) (by decide +kernel)) (fun _ _ _ _ _ => (pg_tup rfl (pgs_cons (pg_name (i := 2) sc_needs.nd rfl (by first | exact Or.inl rfl | exact Or.inr rfl)) (pgs_cons (pg_name (i := 3) sc_needs.nd rfl (by first | exact Or.inl rfl | exact Or.inr rfl)) pgs_nil)))) (fun _ _ _ _ _ => (ts_one (t_cmp (ov_eqS hr.units0) (v_var 2) v_str))) (fun _ _ _ _ _ => (v_var 3))))))), ?_⟩)
  intro ds S Q hl h
  unfold sp_needs at h
  split at h
  · rename_i ps d
    obtain ⟨pr, h0, h1, k⟩ := h
    have hk := fun p S' a b c => fin_same (k p S' a b c)
    obtain ⟨t, g, ks, b, ls, e0, l1, l24, _⟩ := pr.at (d := d) h0 h1
    have el := (lines_at e0).1
    have hq : ((d, 0) : Pl) ∈ places ps := mem_places.mpr ⟨h0, h1, Int.le_refl _, by rw [el]; simp; omega⟩
    simp?! only [sp_want_program, sp_want_def, sp_all_live]
    refine ⟨pr, h0, h1, ?_⟩
    refine mLc_draw ?_
    simp?! only [sp_all_live]
    refine ⟨pr, fun p S1 A hp ep kp R hA => ?_⟩
    have ea := R.at_ _ hq
    simp?! only [rdT_n ep, okT_n ep, show (PySem.NestedKey.tup [PySem.NestedKey.num d, PySem.NestedKey.num 0]) = plK (d, 0) from rfl, prA_val hq, ea]
    obtain ⟨ms, el2, hm, hl2⟩ := liveL_ex (ps := ps) (q := (d, 0))
    refine mLc_of (liveL ps (d, 0)) fPeg (kp := fun S2 => S2 (A (d, 0)) = some (SO.lst (liveL ps (d, 0)))) (S1 := S1) (fun Qi h => h) (by rw [el2, List.length_map, sizeLine_eq]; omega) ea (fun h hd J hJ => ?_) ?_
    · rw [el2] at hd
      obtain ⟨⟨s, k⟩, _, rfl⟩ := List.mem_map.mp hd
      simp only [fPeg, hmD] at hJ ⊢
      walk_at "VX"
      by_cases z : s = "peg"
      · rw [if_pos z] at hJ; rw [if_pos (by simpa using z)]; exact hJ
      · rw [if_neg z] at hJ; rw [if_neg (by simpa using z)]; exact hJ
    · walk_at "VX"
      intro b hb
      refine hk b _ (none_of_keep kp hb) supd_same (fun c o e => ?_)
      rw [supd_ne (fun z => by subst z; rw [none_of_keep kp hb] at e; cases e)]
      exact kp c o e
  · exact h.elim
abbrev s_law_due : Stmt := top 74
abbrev n_law_due : List Str := ["_law_found", "_law_e", "_law_i", "_law_h"]
theorem sc_law_due : FnScope n_law_due ["_law_found", "_law_e", "_law_i"] (defScope s_law_due) := ⟨rfl, rfl, rfl, by decide +kernel, rfl, by decide +kernel, by decide +kernel⟩
def sp_law_due (w : World) : VSp := fun ds S Q => match ds with
  | [.ref f, .int d, .int a] => ∃ F, S f = some (.dtn w f (trG F)) ∧ Q (.lst ((homesM.filter fun m => decide (((d, a), m) ∈ F)).map hmD)) S
  | _ => False
theorem ok_law_due (T : Tx K w mg) : DefV P w K mg base 2 "_law_due" ["_law_found", "_law_e", "_law_i"] (sp_law_due w) := by
  refine DefV.mk' T.f_law_due sc_law_due (fun _ _ _ _ _ _ us hl => match us, hl with | [_, _, _], _ => rfl) (fun f cdv A outer s H E hgd hr hcd => ⟨_, (s_one (s_ret (v_lc (c := (.one 3)) (own := [("_law_h", 3)]) recR_frz (by simp [CT.within]) rfl sc_law_due.nd (i_seq (v_call0 (ok_law_all_homes T) (hr.mono (by decide)) hgd rfl)) (blkOk_by (N := n_law_due) (sc := defScope s_law_due) (by decide +kernel)) (fun _ _ _ _ _ => (pg_name (i := 3) sc_law_due.nd rfl (by first | exact Or.inl rfl | exact Or.inr rfl))) (fun _ _ _ _ _ => (ts_one (t_cmp (ov_tin (w := w) rfl (units65 hr)) (v_tup (a_cons (v_var 1) (a_cons (v_var 2) (a_cons (v_var 3) a_nil)))) (v_var 0)))) (fun _ _ _ _ _ => (v_var 3))))), ?_⟩)
  intro ds S Q hl h
  unfold sp_law_due at h
  split at h
  · rename_i f d a
    obtain ⟨F, ef, k⟩ := h
    have k' := fin_same k
    walk_at "VX"
    refine mLc_of homes8 (fun h => match h with
      | .tup [.str s, .int k] => if ((d, a), (s, k)) ∈ F then [h] else []
      | _ => []) (kp := fun _ => True) (S1 := S) (fun Qi h => ?_) (by rw [sizeLine_eq]; decide) trivial (fun h hd J hJ => ?_) ?_
    · simp?! only [sp_law_all_homes]; exact h
    · rw [homes_M] at hd
      obtain ⟨⟨s, k⟩, hm, rfl⟩ := List.mem_map.mp hd
      simp only [hmD] at hJ ⊢
      simp?! only [keyT_iih, rdT_n ef, okT_n ef, trG_val]
      by_cases z : ((d, a), (s, k)) ∈ F
      · rw [if_pos z] at hJ; rw [if_pos (by simpa using z)]; exact hJ
      · rw [if_neg z] at hJ; rw [if_neg (by simpa using z)]; exact hJ
    · rw [homes_M, List.flatMap_map]
      have e : (homesM.flatMap fun m => if ((d, a), m) ∈ F then [hmD m] else []) = (homesM.filter fun m => decide (((d, a), m) ∈ F)).map hmD := by
        induction homesM with
        | nil => rfl
        | cons m ms ih =>
          rw [List.flatMap_cons, List.filter_cons, ih]
          by_cases z : ((d, a), m) ∈ F
          · simp [z]
          · simp [z]
      rw [← e] at k'
      exact k'
  · exact h.elim
abbrev s_law_right : Stmt := top 75
abbrev n_law_right : List Str := ["_law_code_here", "_law_found", "_law_due_here", "_law_told", "_law_some", "_law_e", "_law_h"]
theorem sc_law_right : FnScope n_law_right ["_law_code_here"] (defScope s_law_right) := ⟨rfl, rfl, rfl, by decide +kernel, rfl, by decide +kernel, by decide +kernel⟩
theorem bk_needs_0_d_program : BindK "needs" s_needs ["program", "d"] 0 ["d", "program"] [1, 0] := fun _ _ _ _ _ _ us ws h1 h2 => match us, h1, ws, h2 with | [], _, [_, _], _ => by kernel_rfl
def sp_law_right : VSp := fun ds S Q => match ds with
  | [d] => ProgP d ∧ ∀ S', Q (.bl true) S'
  | _ => False
theorem ok_law_right (T : Tx K w mg) : DefV P w K mg base 11 "_law_right" ["_law_code_here"] sp_law_right := by
  refine DefV.mk' T.f_law_right sc_law_right (fun _ _ _ _ _ _ us hl => match us, hl with | [_], _ => rfl) (fun f cdv A outer s H E hgd hr hcd => ⟨_, (s_cons (s_set 1 sc_law_right.nd rfl (by first | exact Or.inl rfl | exact Or.inr rfl) (v_call (ok_law_live T) (hr.mono (by decide)) hgd rfl (a_cons (v_var 0) a_nil)))
      (s_cons (s_setLc (i := 2) (c := (.one 5)) (own := [("_law_e", 5)]) recR_frz (by simp [CT.within]) rfl sc_law_right.nd rfl rfl (sw_true rfl rfl rfl (by decide +kernel)) (i_rng1 rfl T.b_range (v_callB cv_len rfl T.b_len (by decide +kernel) (a_cons (v_var 0) a_nil)) (pi_range1 rfl T.b_range (pa_cons (v_callB cv_len rfl T.b_len (by decide +kernel) (a_cons (v_var 0) a_nil)) pa_nil))) (blkOk_by (N := n_law_right) (sc := defScope s_law_right) (by decide +kernel)) (fun _ _ _ _ _ => (pg_name (i := 5) sc_law_right.nd rfl (by first | exact Or.inl rfl | exact Or.inr rfl))) (fun _ _ _ _ _ => ts_nil) (fun _ _ _ _ _ => (v_lc (c := (.one 6)) (own := [("_law_h", 6)]) recR_frz (by simp [CT.within]) rfl sc_law_right.nd (i_seq (v_call (ok_law_due T) (hr.mono (by decide)) hgd rfl (a_cons (v_var 1) (a_cons (v_var 5) (a_cons v_int a_nil))))) (blk_nest (N := n_law_right) rfl (by decide +kernel)) (fun _ _ _ _ _ => (pg_name (i := 6) sc_law_right.nd rfl (by first | exact Or.inl rfl | exact Or.inr rfl))) (fun _ _ _ _ _ => (ts_one (t_cmp (ov_eqS hr.units0) (v_sub (v_var 6) v_int) v_str))) (fun _ _ _ _ _ => (v_sub (v_var 6) v_int)))))
      (s_cons (s_setLc (i := 3) (c := (.one 5)) (own := [("_law_e", 5)]) recR_frz (by simp [CT.within]) rfl sc_law_right.nd rfl rfl (sw_true rfl rfl rfl (by decide +kernel)) (i_rng1 rfl T.b_range (v_callB cv_len rfl T.b_len (by decide +kernel) (a_cons (v_var 0) a_nil)) (pi_range1 rfl T.b_range (pa_cons (v_callB cv_len rfl T.b_len (by decide +kernel) (a_cons (v_var 0) a_nil)) pa_nil))) (blkOk_by (N := n_law_right) (sc := defScope s_law_right) (by decide +kernel)) (fun _ _ _ _ _ => (pg_name (i := 5) sc_law_right.nd rfl (by first | exact Or.inl rfl | exact Or.inr rfl))) (fun _ _ _ _ _ => ts_nil) (fun _ _ _ _ _ => (v_call (ok_needs T) (hr.mono (by decide)) hgd rfl (a_cons (v_var 0) (a_cons (v_var 5) a_nil)))))
      (s_cons (s_if (PW.pt (w_or (t_not (t_val (v_callB (cv_all rfl) rfl T.b_all (by decide +kernel) (a_cons (v_lc (c := (.one 4)) (own := [("_law_some", 4)]) recR_frz (by simp [CT.within]) rfl sc_law_right.nd (i_seq (v_var 3)) (blkOk_by (N := n_law_right) (sc := defScope s_law_right) (by decide +kernel)) (fun _ _ _ _ _ => (pg_name (i := 4) sc_law_right.nd rfl (by first | exact Or.inl rfl | exact Or.inr rfl))) (fun _ _ _ _ _ => ts_nil) (fun _ _ _ _ _ => (v_isi "list" (by decide) rfl T.b_isinstance (by decide +kernel) rfl T.b_list (by decide +kernel) (v_var 4)))) a_nil)))) (w_or1 (t_cmp (ov_ne hr.units) (v_callB (cv_reprR hgd hr.units) rfl T.b_repr (by decide +kernel) (a_cons (v_var 3) a_nil)) (v_callB (cv_reprR hgd hr.units) rfl T.b_repr (by decide +kernel) (a_cons (v_var 2) a_nil)))))) (s_one (s_ret v_bl)) s_nil)
      (s_cons (s_for (c := (.one 4)) PassesOwn.never rfl (i_seq (v_var 3)) (pg_name (i := 4) sc_law_right.nd rfl (by first | exact Or.inl rfl | exact Or.inr rfl))
      (s_one (s_expr (v_app (v_var 4) v_int (pe_bm PySem.F.plainAttrs_list PySem.F.slot_list_append PySem.F.type_list_append mt_append (v_var 4) (pa_cons v_int pa_nil))))))
      (s_one (s_ret (v_cmp (ov_eq hr.units) (v_lc (c := (.one 5)) (own := [("_law_e", 5)]) recR_frz (by simp [CT.within]) rfl sc_law_right.nd (i_rngR rfl T.b_reversed rfl T.b_range (v_callB cv_len rfl T.b_len (by decide +kernel) (a_cons (v_var 0) a_nil))) (blkOk_by (N := n_law_right) (sc := defScope s_law_right) (by decide +kernel)) (fun _ _ _ _ _ => (pg_name (i := 5) sc_law_right.nd rfl (by first | exact Or.inl rfl | exact Or.inr rfl))) (fun _ _ _ _ _ => ts_nil) (fun _ _ _ _ _ => (v_frz (v_callK0 (ok_needs T) T.f_needs bk_needs_0_d_program (hr.mono (by decide)) hgd rfl (k_cons (v_var 5) (k_cons (v_var 0) k_nil)))))) (v_rev (v_var 2) (o_some (v_neg v_int))))))))))), ?_⟩)
  intro ds S Q hl h
  unfold sp_law_right at h
  split at h
  · rename_i d
    obtain ⟨hq, k⟩ := h
    have pr := hq.prog
    obtain ⟨ps, rfl, _⟩ := pr.l.ex
    have l6 := pr.len6
    have sz := sizeLine_eq
    simp?! only [sp_law_live]
    refine ⟨pr, fun f S1 F hf ef kp hF => ?_⟩
    have hp : ∀ i : Nat, i < ps.length → (((i : Int), (0 : Int)) : Pl) ∈ places ps := fun i hi => by
      obtain ⟨t, g, ks, b, ls, e0, l1, l24, _⟩ := pr.at (d := (i : Int)) (by omega) (by omega)
      exact mem_places.mpr ⟨by simp, by simp; omega, by simp, by rw [(lines_at e0).1]; simp; omega⟩
    refine mLc_of (rngD 0 ps.length) (fun j => match j with
      | .int j => [.lst (needsL ps j)]
      | _ => []) (kp := fun _ => True) (S1 := S1) (fun Qi h => ?_) (by rw [rng_len]; omega) trivial (fun d hd J h => ?_) ?_
    · walk_at "VX"; exact ⟨by omega, by omega, by simpa using h⟩
    · obtain ⟨j, hj, rfl⟩ := rng_mem hd
      rw [Int.zero_add] at h ⊢
      walk_at "VX"
      obtain ⟨ms, em, hm, hl2⟩ := liveL_ex (ps := ps) (q := ((j : Int), 0))
      refine mLc_of (liveL ps ((j : Int), 0)) fPeg (kp := fun _ => True) (S1 := S1) (fun Qi h => ?_) (by rw [em, List.length_map]; omega) trivial (fun h hd J hJ => ?_) ?_
      · simp?! only [sp_law_due]
        refine ⟨F, ef, ?_⟩
        rw [due_live hF (hp j hj)]
        exact h
      · rw [em] at hd
        obtain ⟨⟨s, k⟩, _, rfl⟩ := List.mem_map.mp hd
        simp only [fPeg, hmD] at hJ ⊢
        walk_at "VX"
        by_cases z : s = "peg"
        · rw [if_pos z] at hJ; rw [if_pos (by simpa using z)]; exact hJ
        · rw [if_neg z] at hJ; rw [if_neg (by simpa using z)]; exact hJ
      · exact h
    have e9 : (rngD 0 ps.length).flatMap (fun j => match j with
      | .int j => [.lst (needsL ps j)]
      | _ => []) = ((List.range ps.length).map fun (j : Nat) => needsL ps (j : Int)).map D.lst := by
      unfold rngD
      rw [List.flatMap_map, List.map_map, List.map_eq_flatMap]
      refine congrArg (fun f => List.flatMap f _) (funext fun j => ?_)
      simp
    rw [e9]
    walk_at "VX"
    have nk : ∀ r ∈ (List.range ps.length).map fun (j : Nat) => needsL ps (j : Int), ∃ ks : List Int, r = ks.map D.int ∧ ks.length ≤ 8 ∧ ∀ k ∈ ks, 0 ≤ k ∧ k ≤ 3 := fun r hr => by
      obtain ⟨j, _, rfl⟩ := List.mem_map.mp hr
      exact needsL_ints ps j
    have hok := fun S => rows_iok (S := S) nk (by rw [List.length_map, List.length_range]; omega)
    refine mLc_inv (rngD 0 ps.length) (fun i acc S4 => ∃ B, acc = refs B i ∧ RefL S4 B i fun (j : Nat) => needsL ps (j : Int)) (kp := fun _ => True) (S1 := S1) (fun Qi h => ?_) (by rw [rng_len]; omega) ⟨fun _ => 0, rfl, .nil⟩ (fun _ _ _ _ => trivial) (fun i d acc S4 hd h => ?_) (fun acc S4 h => ?_)
    · walk_at "VX"; exact ⟨by omega, by omega, by simpa using h⟩
    · obtain ⟨B, rfl, R⟩ := h
      have hi : i < ps.length := by have := getE hd; rw [rng_len] at this; omega
      have ei : d = .int i := by
        simp [rngD, hi] at hd
        exact hd.symm
      subst ei
      simp?! only [sp_needs]
      exact ⟨pr, by omega, by omega, fun p S5 hp5 e5 k5 => ⟨upB B i p, refs_up, R.up hp5 k5 e5⟩⟩
    · obtain ⟨B, rfl, R⟩ := h
      rw [rng_len] at R ⊢
      walk_at "VX"
      refine mLc_of (refs B ps.length) (fun _ => [.bl true]) (kp := fun _ => True) (S1 := S4) (fun Qi h => ?_) (by rw [refs_len]; omega) trivial (fun d hd J h => ?_) ?_
      · walk_at "VX"; exact h
      · obtain ⟨j, hj, rfl⟩ := refs_mem hd
        simp?! only [R.ty hj]
        exact h
      · have e1 : (refs B ps.length).flatMap (fun _ => [D.bl true]) = ((List.range ps.length).map fun _ => true).map D.bl := by
          unfold refs
          rw [List.flatMap_map, List.map_map, List.map_eq_flatMap]; rfl
        rw [e1]
        simp?! only [bls_map, R.rsd, rsd_rows]
        rw [if_neg (by rw [show (((List.range ps.length).map fun _ => true).all id) = true from by simp]; decide)]
        refine ⟨(hok S4).2, ?_⟩
        refine ⟨(hok S4).2, ?_⟩
        refine mFor_lst (refs B ps.length) (fun i ρ S5 => (∃ z1 z3 z4 z5 z6, ρ = [some (.tup ps), z1, some (.lst (((List.range ps.length).map fun (j : Nat) => needsL ps (j : Int)).map D.lst)), z3, z4, z5, z6]) ∧ RefL S5 B ps.length fun j => if j < i then needsL ps (j : Int) ++ [.int 4] else needsL ps (j : Int)) (kp := fun _ => True) (S1 := S4) (fun Qi h => ?_) ?_ (fun _ _ _ _ => trivial) (fun i d ρ S5 hd h => ?_) (fun ρ S5 h => ?_)
        · walk_at "VX"; exact h
        · exact ⟨⟨_, _, _, _, _, rfl⟩, R⟩
        · obtain ⟨⟨z1, z3, z4, z5, z6, rfl⟩, R5⟩ := h
          obtain ⟨hi, rfl⟩ := refs_get hd
          have ei : S5 (B i) = some (.lst (needsL ps (i : Int))) := by rw [R5.at_ i hi, if_neg (by omega)]
          obtain ⟨ks, ek, l8, _⟩ := needsL_ints ps (i : Int)
          simp?! only [ei]
          refine ⟨⟨_, rfl⟩, by rw [ek, List.length_map]; omega, ⟨_, _, _, _, _, rfl⟩, ?_⟩
          have R6 := R5.upd hi (needsL ps (i : Int) ++ [.int 4])
          refine ⟨fun j hj => ?_, R6.inj⟩
          rw [R6.at_ j hj]
          show some (SO.lst (if j = i then _ else if j < i then _ else _)) = some (SO.lst (if j < i + 1 then _ else _))
          by_cases z : j = i
          · subst z; rw [if_pos rfl, if_pos (by omega)]
          · rw [if_neg z]
            by_cases z2 : j < i
            · rw [if_pos z2, if_pos (by omega)]
            · rw [if_neg z2, if_neg (by omega)]
        · obtain ⟨⟨z1, z3, z4, z5, z6, rfl⟩, R5⟩ := h
          walk_at "VX"
          refine mLc_inv (rngR ps.length) (fun i acc S6 => acc = (List.range i).map fun (j : Nat) => D.lst (needsL ps ((ps.length : Int) - 1 - j))) (kp := fun _ => True) (S1 := S5) (fun Qi h => ?_) (by simp [rngR]; omega) rfl (fun _ _ _ _ => trivial) (fun i d acc S6 hd h => ?_) (fun acc S6 h => ?_)
          · walk_at "VX"; exact ⟨⟨by omega, by omega⟩, by simpa using h⟩
          · subst h
            have hi : i < ps.length := by have := getE hd; simpa [rngR] using this
            have ei : d = .int ((ps.length : Int) - 1 - i) := by
              simp [rngR, hi] at hd
              exact hd.symm
            subst ei
            simp?! only [sp_needs]
            refine ⟨pr, by omega, by omega, fun p S7 hp7 e7 k7 => ?_⟩
            rw [e7]
            exact fun S8 e8 k8 => by rw [List.range_succ, List.map_append]; rfl
          · subst h
            have eR : ((List.range (rngR ps.length).length).map fun (j : Nat) => D.lst (needsL ps ((ps.length : Int) - 1 - j))) = (((List.range ps.length).map fun (j : Nat) => needsL ps (j : Int)).map D.lst).reverse := by
              have l : (rngR ps.length).length = ps.length := by simp [rngR]
              rw [l, List.map_map]
              apply List.ext_getElem
              · simp
              · intro i h1 h2
                rw [List.getElem_reverse]
                simp only [List.length_map, List.length_range] at h1
                simp only [List.getElem_map, List.getElem_range, List.length_map, List.length_range, Function.comp]
                rw [show ((ps.length : Int) - 1 - (i : Int)) = ((ps.length - 1 - i : Nat) : Int) by omega]
            rw [eR, ← List.map_reverse]
            have ho : okq S6 (.lst ((((List.range ps.length).map fun (j : Nat) => needsL ps (j : Int)).reverse).map D.lst)) := (rows_iok (S := S6) (fun r hr => nk r (List.mem_reverse.mp hr)) (by rw [List.length_reverse, List.length_map, List.length_range]; omega)).1
            walk_at "VX"
            exact ⟨ho, ho, by rw [eqq_self ho]; exact fin_same (k _)⟩
  · exact h.elim
abbrev s_law : Stmt := top 76
abbrev n_law : List Str := ["_law_script", "_law_one", "_law_other"]
theorem sc_law : FnScope n_law ["_law_script"] (defScope s_law) := ⟨rfl, rfl, rfl, by decide +kernel, rfl, by decide +kernel, by decide +kernel⟩
def sp_law : VSp := fun ds S Q => match ds with
  | [.ro ds] => (∃ ns : List Int, ds = ns.map D.int ∧ ns.length < 64) ∧ ∀ S', Q (.bl true) S'
  | _ => False
theorem law_end : ∀ ns : List Int, ns.length ≤ 63 → ∀ Q : D → Store → Prop, (∀ S, Q (.bl true) S) → sp_law [.ro (ns.map D.int)] (fun _ => none) Q :=
  fun ns h Q k => ⟨⟨ns, rfl, by omega⟩, k⟩
theorem ok_law (T : Tx K w mg) : DefV P w K mg base 12 "law" ["_law_script"] sp_law := by
  refine DefV.mk' T.f_law sc_law (fun _ _ _ _ _ _ us hl => match us, hl with | [_], _ => rfl) (fun f cdv A outer s H E hgd hr hcd => ⟨_, (s_cons (s_par (i := 1) (j := 2) rfl sc_law.nd rfl rfl (by decide) rfl rfl (a_cons (v_call (ok_law_code T) (hr.mono (by decide)) hgd rfl (a_cons (v_var 0) (a_cons v_int a_nil))) (a_cons (v_call (ok_law_code T) (hr.mono (by decide)) hgd rfl (a_cons (v_var 0) (a_cons v_int a_nil))) a_nil)) (by first | rfl | kernel_rfl))
      (s_one (s_ret (v_and (v_call (ok_law_right T) (hr.mono (by decide)) hgd rfl (a_cons (v_var 1) a_nil)) (v_and (v_call (ok_law_right T) (hr.mono (by decide)) hgd rfl (a_cons (v_var 2) a_nil)) (v_one (v_call (ok_law_right T) (hr.mono (by decide)) hgd rfl (a_cons (v_var 1) a_nil)))))))), ?_⟩)
  intro ds S Q hl h
  unfold sp_law at h
  split at h
  · rename_i ds
    obtain ⟨⟨ns, rfl, hn⟩, k⟩ := h
    simp?! only [sp_law_code, sp_law_right]
    exact ⟨⟨ns, rfl⟩, fun d1 S1 h1 => ⟨⟨ns, rfl⟩, fun d2 S2 h2 => ⟨h1.p, fun S3 => ⟨h2.p, fun S4 => ⟨h1.p, fun S5 => fin_same (k _)⟩⟩⟩⟩⟩
  · exact h.elim
end
theorem tx_mk {K : PySem.W.Frag} {w : World} {h : Heap} {mg : Str → Option Value} (X : K.In h) (G : h.Ns mainGlobals mg)
    {f0 : Addr} {oc0 kV0 dc0 pm0 cd0 ct0 : Value} {od0 an0 : Option Addr} {sl0 : Array (Option Value)} (a0 : PySem.W.nsIn K mainGlobals "_law_pot" = some (some (.ref f0))) (l0 : K.lookup f0 = some ⟨oc0, od0, .func (PySem.W.fnOf "_law_pot" "_law_pot" (defArgs s_law_pot) (defBody s_law_pot) (defScope s_law_pot) .none kV0 dc0 pm0 an0 cd0 ct0), sl0⟩) (c0 : PySem.W.codeIn K cd0 "_law_pot" = true) (k0 : PySem.W.keepIn K (.ref f0) = true)
    {f1 : Addr} {oc1 kV1 dc1 pm1 cd1 ct1 : Value} {od1 an1 : Option Addr} {sl1 : Array (Option Value)} (a1 : PySem.W.nsIn K mainGlobals "_law_draw" = some (some (.ref f1))) (l1 : K.lookup f1 = some ⟨oc1, od1, .func (PySem.W.fnOf "_law_draw" "_law_draw" (defArgs s_law_draw) (defBody s_law_draw) (defScope s_law_draw) .none kV1 dc1 pm1 an1 cd1 ct1), sl1⟩) (c1 : PySem.W.codeIn K cd1 "_law_draw" = true) (k1 : PySem.W.keepIn K (.ref f1) = true)
    {f2 : Addr} {oc2 kV2 dc2 pm2 cd2 ct2 : Value} {od2 an2 : Option Addr} {sl2 : Array (Option Value)} (a2 : PySem.W.nsIn K mainGlobals "_law_homes" = some (some (.ref f2))) (l2 : K.lookup f2 = some ⟨oc2, od2, .func (PySem.W.fnOf "_law_homes" "_law_homes" (defArgs s_law_homes) (defBody s_law_homes) (defScope s_law_homes) .none kV2 dc2 pm2 an2 cd2 ct2), sl2⟩) (c2 : PySem.W.codeIn K cd2 "_law_homes" = true) (k2 : PySem.W.keepIn K (.ref f2) = true)
    {f3 : Addr} {oc3 kV3 dc3 pm3 cd3 ct3 : Value} {od3 an3 : Option Addr} {sl3 : Array (Option Value)} (a3 : PySem.W.nsIn K mainGlobals "_law_words" = some (some (.ref f3))) (l3 : K.lookup f3 = some ⟨oc3, od3, .func (PySem.W.fnOf "_law_words" "_law_words" (defArgs s_law_words) (defBody s_law_words) (defScope s_law_words) .none kV3 dc3 pm3 an3 cd3 ct3), sl3⟩) (c3 : PySem.W.codeIn K cd3 "_law_words" = true) (k3 : PySem.W.keepIn K (.ref f3) = true)
    {f4 : Addr} {oc4 kV4 dc4 pm4 cd4 ct4 : Value} {od4 an4 : Option Addr} {sl4 : Array (Option Value)} (a4 : PySem.W.nsIn K mainGlobals "_law_number" = some (some (.ref f4))) (l4 : K.lookup f4 = some ⟨oc4, od4, .func (PySem.W.fnOf "_law_number" "_law_number" (defArgs s_law_number) (defBody s_law_number) (defScope s_law_number) .none kV4 dc4 pm4 an4 cd4 ct4), sl4⟩) (c4 : PySem.W.codeIn K cd4 "_law_number" = true) (k4 : PySem.W.keepIn K (.ref f4) = true)
    {f5 : Addr} {oc5 kV5 dc5 pm5 cd5 ct5 : Value} {od5 an5 : Option Addr} {sl5 : Array (Option Value)} (a5 : PySem.W.nsIn K mainGlobals "_law_part" = some (some (.ref f5))) (l5 : K.lookup f5 = some ⟨oc5, od5, .func (PySem.W.fnOf "_law_part" "_law_part" (defArgs s_law_part) (defBody s_law_part) (defScope s_law_part) .none kV5 dc5 pm5 an5 cd5 ct5), sl5⟩) (c5 : PySem.W.codeIn K cd5 "_law_part" = true) (k5 : PySem.W.keepIn K (.ref f5) = true)
    {f6 : Addr} {oc6 kV6 dc6 pm6 cd6 ct6 : Value} {od6 an6 : Option Addr} {sl6 : Array (Option Value)} (a6 : PySem.W.nsIn K mainGlobals "_law_parts" = some (some (.ref f6))) (l6 : K.lookup f6 = some ⟨oc6, od6, .func (PySem.W.fnOf "_law_parts" "_law_parts" (defArgs s_law_parts) (defBody s_law_parts) (defScope s_law_parts) .none kV6 dc6 pm6 an6 cd6 ct6), sl6⟩) (c6 : PySem.W.codeIn K cd6 "_law_parts" = true) (k6 : PySem.W.keepIn K (.ref f6) = true)
    {f7 : Addr} {oc7 kV7 dc7 pm7 cd7 ct7 : Value} {od7 an7 : Option Addr} {sl7 : Array (Option Value)} (a7 : PySem.W.nsIn K mainGlobals "_law_line" = some (some (.ref f7))) (l7 : K.lookup f7 = some ⟨oc7, od7, .func (PySem.W.fnOf "_law_line" "_law_line" (defArgs s_law_line) (defBody s_law_line) (defScope s_law_line) .none kV7 dc7 pm7 an7 cd7 ct7), sl7⟩) (c7 : PySem.W.codeIn K cd7 "_law_line" = true) (k7 : PySem.W.keepIn K (.ref f7) = true)
    {f8 : Addr} {oc8 kV8 dc8 pm8 cd8 ct8 : Value} {od8 an8 : Option Addr} {sl8 : Array (Option Value)} (a8 : PySem.W.nsIn K mainGlobals "_law_def" = some (some (.ref f8))) (l8 : K.lookup f8 = some ⟨oc8, od8, .func (PySem.W.fnOf "_law_def" "_law_def" (defArgs s_law_def) (defBody s_law_def) (defScope s_law_def) .none kV8 dc8 pm8 an8 cd8 ct8), sl8⟩) (c8 : PySem.W.codeIn K cd8 "_law_def" = true) (k8 : PySem.W.keepIn K (.ref f8) = true)
    {f9 : Addr} {oc9 kV9 dc9 pm9 cd9 ct9 : Value} {od9 an9 : Option Addr} {sl9 : Array (Option Value)} (a9 : PySem.W.nsIn K mainGlobals "_law_code" = some (some (.ref f9))) (l9 : K.lookup f9 = some ⟨oc9, od9, .func (PySem.W.fnOf "_law_code" "_law_code" (defArgs s_law_code) (defBody s_law_code) (defScope s_law_code) .none kV9 dc9 pm9 an9 cd9 ct9), sl9⟩) (c9 : PySem.W.codeIn K cd9 "_law_code" = true) (k9 : PySem.W.keepIn K (.ref f9) = true)
    {f10 : Addr} {oc10 kV10 dc10 pm10 cd10 ct10 : Value} {od10 an10 : Option Addr} {sl10 : Array (Option Value)} (a10 : PySem.W.nsIn K mainGlobals "_law_all_homes" = some (some (.ref f10))) (l10 : K.lookup f10 = some ⟨oc10, od10, .func (PySem.W.fnOf "_law_all_homes" "_law_all_homes" (defArgs s_law_all_homes) (defBody s_law_all_homes) (defScope s_law_all_homes) .none kV10 dc10 pm10 an10 cd10 ct10), sl10⟩) (c10 : PySem.W.codeIn K cd10 "_law_all_homes" = true) (k10 : PySem.W.keepIn K (.ref f10) = true)
    {f11 : Addr} {oc11 kV11 dc11 pm11 cd11 ct11 : Value} {od11 an11 : Option Addr} {sl11 : Array (Option Value)} (a11 : PySem.W.nsIn K mainGlobals "_law_asks" = some (some (.ref f11))) (l11 : K.lookup f11 = some ⟨oc11, od11, .func (PySem.W.fnOf "_law_asks" "_law_asks" (defArgs s_law_asks) (defBody s_law_asks) (defScope s_law_asks) .none kV11 dc11 pm11 an11 cd11 ct11), sl11⟩) (c11 : PySem.W.codeIn K cd11 "_law_asks" = true) (k11 : PySem.W.keepIn K (.ref f11) = true)
    {f12 : Addr} {oc12 kV12 dc12 pm12 cd12 ct12 : Value} {od12 an12 : Option Addr} {sl12 : Array (Option Value)} (a12 : PySem.W.nsIn K mainGlobals "_law_makes" = some (some (.ref f12))) (l12 : K.lookup f12 = some ⟨oc12, od12, .func (PySem.W.fnOf "_law_makes" "_law_makes" (defArgs s_law_makes) (defBody s_law_makes) (defScope s_law_makes) .none kV12 dc12 pm12 an12 cd12 ct12), sl12⟩) (c12 : PySem.W.codeIn K cd12 "_law_makes" = true) (k12 : PySem.W.keepIn K (.ref f12) = true)
    {f13 : Addr} {oc13 kV13 dc13 pm13 cd13 ct13 : Value} {od13 an13 : Option Addr} {sl13 : Array (Option Value)} (a13 : PySem.W.nsIn K mainGlobals "_law_behind" = some (some (.ref f13))) (l13 : K.lookup f13 = some ⟨oc13, od13, .func (PySem.W.fnOf "_law_behind" "_law_behind" (defArgs s_law_behind) (defBody s_law_behind) (defScope s_law_behind) .none kV13 dc13 pm13 an13 cd13 ct13), sl13⟩) (c13 : PySem.W.codeIn K cd13 "_law_behind" = true) (k13 : PySem.W.keepIn K (.ref f13) = true)
    {f14 : Addr} {oc14 kV14 dc14 pm14 cd14 ct14 : Value} {od14 an14 : Option Addr} {sl14 : Array (Option Value)} (a14 : PySem.W.nsIn K mainGlobals "_law_is_live" = some (some (.ref f14))) (l14 : K.lookup f14 = some ⟨oc14, od14, .func (PySem.W.fnOf "_law_is_live" "_law_is_live" (defArgs s_law_is_live) (defBody s_law_is_live) (defScope s_law_is_live) .none kV14 dc14 pm14 an14 cd14 ct14), sl14⟩) (c14 : PySem.W.codeIn K cd14 "_law_is_live" = true) (k14 : PySem.W.keepIn K (.ref f14) = true)
    {f15 : Addr} {oc15 kV15 dc15 pm15 cd15 ct15 : Value} {od15 an15 : Option Addr} {sl15 : Array (Option Value)} (a15 : PySem.W.nsIn K mainGlobals "_law_round" = some (some (.ref f15))) (l15 : K.lookup f15 = some ⟨oc15, od15, .func (PySem.W.fnOf "_law_round" "_law_round" (defArgs s_law_round) (defBody s_law_round) (defScope s_law_round) .none kV15 dc15 pm15 an15 cd15 ct15), sl15⟩) (c15 : PySem.W.codeIn K cd15 "_law_round" = true) (k15 : PySem.W.keepIn K (.ref f15) = true)
    {f16 : Addr} {oc16 kV16 dc16 pm16 cd16 ct16 : Value} {od16 an16 : Option Addr} {sl16 : Array (Option Value)} (a16 : PySem.W.nsIn K mainGlobals "_law_live" = some (some (.ref f16))) (l16 : K.lookup f16 = some ⟨oc16, od16, .func (PySem.W.fnOf "_law_live" "_law_live" (defArgs s_law_live) (defBody s_law_live) (defScope s_law_live) .none kV16 dc16 pm16 an16 cd16 ct16), sl16⟩) (c16 : PySem.W.codeIn K cd16 "_law_live" = true) (k16 : PySem.W.keepIn K (.ref f16) = true)
    {f17 : Addr} {oc17 kV17 dc17 pm17 cd17 ct17 : Value} {od17 an17 : Option Addr} {sl17 : Array (Option Value)} (a17 : PySem.W.nsIn K mainGlobals "parts_of" = some (some (.ref f17))) (l17 : K.lookup f17 = some ⟨oc17, od17, .func (PySem.W.fnOf "parts_of" "parts_of" (defArgs s_parts_of) (defBody s_parts_of) (defScope s_parts_of) .none kV17 dc17 pm17 an17 cd17 ct17), sl17⟩) (c17 : PySem.W.codeIn K cd17 "parts_of" = true) (k17 : PySem.W.keepIn K (.ref f17) = true)
    {f18 : Addr} {oc18 kV18 dc18 pm18 cd18 ct18 : Value} {od18 an18 : Option Addr} {sl18 : Array (Option Value)} (a18 : PySem.W.nsIn K mainGlobals "are_signs" = some (some (.ref f18))) (l18 : K.lookup f18 = some ⟨oc18, od18, .func (PySem.W.fnOf "are_signs" "are_signs" (defArgs s_are_signs) (defBody s_are_signs) (defScope s_are_signs) .none kV18 dc18 pm18 an18 cd18 ct18), sl18⟩) (c18 : PySem.W.codeIn K cd18 "are_signs" = true) (k18 : PySem.W.keepIn K (.ref f18) = true)
    {f19 : Addr} {oc19 kV19 dc19 pm19 cd19 ct19 : Value} {od19 an19 : Option Addr} {sl19 : Array (Option Value)} (a19 : PySem.W.nsIn K mainGlobals "is_whole" = some (some (.ref f19))) (l19 : K.lookup f19 = some ⟨oc19, od19, .func (PySem.W.fnOf "is_whole" "is_whole" (defArgs s_is_whole) (defBody s_is_whole) (defScope s_is_whole) .none kV19 dc19 pm19 an19 cd19 ct19), sl19⟩) (c19 : PySem.W.codeIn K cd19 "is_whole" = true) (k19 : PySem.W.keepIn K (.ref f19) = true)
    {f20 : Addr} {oc20 kV20 dc20 pm20 cd20 ct20 : Value} {od20 an20 : Option Addr} {sl20 : Array (Option Value)} (a20 : PySem.W.nsIn K mainGlobals "is_within" = some (some (.ref f20))) (l20 : K.lookup f20 = some ⟨oc20, od20, .func (PySem.W.fnOf "is_within" "is_within" (defArgs s_is_within) (defBody s_is_within) (defScope s_is_within) .none kV20 dc20 pm20 an20 cd20 ct20), sl20⟩) (c20 : PySem.W.codeIn K cd20 "is_within" = true) (k20 : PySem.W.keepIn K (.ref f20) = true)
    {f21 : Addr} {oc21 kV21 dc21 pm21 cd21 ct21 : Value} {od21 an21 : Option Addr} {sl21 : Array (Option Value)} (a21 : PySem.W.nsIn K mainGlobals "are_keeps" = some (some (.ref f21))) (l21 : K.lookup f21 = some ⟨oc21, od21, .func (PySem.W.fnOf "are_keeps" "are_keeps" (defArgs s_are_keeps) (defBody s_are_keeps) (defScope s_are_keeps) .none kV21 dc21 pm21 an21 cd21 ct21), sl21⟩) (c21 : PySem.W.codeIn K cd21 "are_keeps" = true) (k21 : PySem.W.keepIn K (.ref f21) = true)
    {f22 : Addr} {oc22 kV22 dc22 pm22 cd22 ct22 : Value} {od22 an22 : Option Addr} {sl22 : Array (Option Value)} (a22 : PySem.W.nsIn K mainGlobals "is_home" = some (some (.ref f22))) (l22 : K.lookup f22 = some ⟨oc22, od22, .func (PySem.W.fnOf "is_home" "is_home" (defArgs s_is_home) (defBody s_is_home) (defScope s_is_home) .none kV22 dc22 pm22 an22 cd22 ct22), sl22⟩) (c22 : PySem.W.codeIn K cd22 "is_home" = true) (k22 : PySem.W.keepIn K (.ref f22) = true)
    {f23 : Addr} {oc23 kV23 dc23 pm23 cd23 ct23 : Value} {od23 an23 : Option Addr} {sl23 : Array (Option Value)} (a23 : PySem.W.nsIn K mainGlobals "is_part" = some (some (.ref f23))) (l23 : K.lookup f23 = some ⟨oc23, od23, .func (PySem.W.fnOf "is_part" "is_part" (defArgs s_is_part) (defBody s_is_part) (defScope s_is_part) .none kV23 dc23 pm23 an23 cd23 ct23), sl23⟩) (c23 : PySem.W.codeIn K cd23 "is_part" = true) (k23 : PySem.W.keepIn K (.ref f23) = true)
    {f24 : Addr} {oc24 kV24 dc24 pm24 cd24 ct24 : Value} {od24 an24 : Option Addr} {sl24 : Array (Option Value)} (a24 : PySem.W.nsIn K mainGlobals "is_line" = some (some (.ref f24))) (l24 : K.lookup f24 = some ⟨oc24, od24, .func (PySem.W.fnOf "is_line" "is_line" (defArgs s_is_line) (defBody s_is_line) (defScope s_is_line) .none kV24 dc24 pm24 an24 cd24 ct24), sl24⟩) (c24 : PySem.W.codeIn K cd24 "is_line" = true) (k24 : PySem.W.keepIn K (.ref f24) = true)
    {f25 : Addr} {oc25 kV25 dc25 pm25 cd25 ct25 : Value} {od25 an25 : Option Addr} {sl25 : Array (Option Value)} (a25 : PySem.W.nsIn K mainGlobals "are_lines" = some (some (.ref f25))) (l25 : K.lookup f25 = some ⟨oc25, od25, .func (PySem.W.fnOf "are_lines" "are_lines" (defArgs s_are_lines) (defBody s_are_lines) (defScope s_are_lines) .none kV25 dc25 pm25 an25 cd25 ct25), sl25⟩) (c25 : PySem.W.codeIn K cd25 "are_lines" = true) (k25 : PySem.W.keepIn K (.ref f25) = true)
    {f26 : Addr} {oc26 kV26 dc26 pm26 cd26 ct26 : Value} {od26 an26 : Option Addr} {sl26 : Array (Option Value)} (a26 : PySem.W.nsIn K mainGlobals "next_lines" = some (some (.ref f26))) (l26 : K.lookup f26 = some ⟨oc26, od26, .func (PySem.W.fnOf "next_lines" "next_lines" (defArgs s_next_lines) (defBody s_next_lines) (defScope s_next_lines) .none kV26 dc26 pm26 an26 cd26 ct26), sl26⟩) (c26 : PySem.W.codeIn K cd26 "next_lines" = true) (k26 : PySem.W.keepIn K (.ref f26) = true)
    {f27 : Addr} {oc27 kV27 dc27 pm27 cd27 ct27 : Value} {od27 an27 : Option Addr} {sl27 : Array (Option Value)} (a27 : PySem.W.nsIn K mainGlobals "stays_within" = some (some (.ref f27))) (l27 : K.lookup f27 = some ⟨oc27, od27, .func (PySem.W.fnOf "stays_within" "stays_within" (defArgs s_stays_within) (defBody s_stays_within) (defScope s_stays_within) .none kV27 dc27 pm27 an27 cd27 ct27), sl27⟩) (c27 : PySem.W.codeIn K cd27 "stays_within" = true) (k27 : PySem.W.keepIn K (.ref f27) = true)
    {f28 : Addr} {oc28 kV28 dc28 pm28 cd28 ct28 : Value} {od28 an28 : Option Addr} {sl28 : Array (Option Value)} (a28 : PySem.W.nsIn K mainGlobals "writes" = some (some (.ref f28))) (l28 : K.lookup f28 = some ⟨oc28, od28, .func (PySem.W.fnOf "writes" "writes" (defArgs s_writes) (defBody s_writes) (defScope s_writes) .none kV28 dc28 pm28 an28 cd28 ct28), sl28⟩) (c28 : PySem.W.codeIn K cd28 "writes" = true) (k28 : PySem.W.keepIn K (.ref f28) = true)
    {f29 : Addr} {oc29 kV29 dc29 pm29 cd29 ct29 : Value} {od29 an29 : Option Addr} {sl29 : Array (Option Value)} (a29 : PySem.W.nsIn K mainGlobals "has_own_homes" = some (some (.ref f29))) (l29 : K.lookup f29 = some ⟨oc29, od29, .func (PySem.W.fnOf "has_own_homes" "has_own_homes" (defArgs s_has_own_homes) (defBody s_has_own_homes) (defScope s_has_own_homes) .none kV29 dc29 pm29 an29 cd29 ct29), sl29⟩) (c29 : PySem.W.codeIn K cd29 "has_own_homes" = true) (k29 : PySem.W.keepIn K (.ref f29) = true)
    {f30 : Addr} {oc30 kV30 dc30 pm30 cd30 ct30 : Value} {od30 an30 : Option Addr} {sl30 : Array (Option Value)} (a30 : PySem.W.nsIn K mainGlobals "is_def" = some (some (.ref f30))) (l30 : K.lookup f30 = some ⟨oc30, od30, .func (PySem.W.fnOf "is_def" "is_def" (defArgs s_is_def) (defBody s_is_def) (defScope s_is_def) .none kV30 dc30 pm30 an30 cd30 ct30), sl30⟩) (c30 : PySem.W.codeIn K cd30 "is_def" = true) (k30 : PySem.W.keepIn K (.ref f30) = true)
    {f31 : Addr} {oc31 kV31 dc31 pm31 cd31 ct31 : Value} {od31 an31 : Option Addr} {sl31 : Array (Option Value)} (a31 : PySem.W.nsIn K mainGlobals "is_program" = some (some (.ref f31))) (l31 : K.lookup f31 = some ⟨oc31, od31, .func (PySem.W.fnOf "is_program" "is_program" (defArgs s_is_program) (defBody s_is_program) (defScope s_is_program) .none kV31 dc31 pm31 an31 cd31 ct31), sl31⟩) (c31 : PySem.W.codeIn K cd31 "is_program" = true) (k31 : PySem.W.keepIn K (.ref f31) = true)
    {f32 : Addr} {oc32 kV32 dc32 pm32 cd32 ct32 : Value} {od32 an32 : Option Addr} {sl32 : Array (Option Value)} (a32 : PySem.W.nsIn K mainGlobals "want_program" = some (some (.ref f32))) (l32 : K.lookup f32 = some ⟨oc32, od32, .func (PySem.W.fnOf "want_program" "want_program" (defArgs s_want_program) (defBody s_want_program) (defScope s_want_program) .none kV32 dc32 pm32 an32 cd32 ct32), sl32⟩) (c32 : PySem.W.codeIn K cd32 "want_program" = true) (k32 : PySem.W.keepIn K (.ref f32) = true)
    {f33 : Addr} {oc33 kV33 dc33 pm33 cd33 ct33 : Value} {od33 an33 : Option Addr} {sl33 : Array (Option Value)} (a33 : PySem.W.nsIn K mainGlobals "is_below" = some (some (.ref f33))) (l33 : K.lookup f33 = some ⟨oc33, od33, .func (PySem.W.fnOf "is_below" "is_below" (defArgs s_is_below) (defBody s_is_below) (defScope s_is_below) .none kV33 dc33 pm33 an33 cd33 ct33), sl33⟩) (c33 : PySem.W.codeIn K cd33 "is_below" = true) (k33 : PySem.W.keepIn K (.ref f33) = true)
    {f34 : Addr} {oc34 kV34 dc34 pm34 cd34 ct34 : Value} {od34 an34 : Option Addr} {sl34 : Array (Option Value)} (a34 : PySem.W.nsIn K mainGlobals "want_def" = some (some (.ref f34))) (l34 : K.lookup f34 = some ⟨oc34, od34, .func (PySem.W.fnOf "want_def" "want_def" (defArgs s_want_def) (defBody s_want_def) (defScope s_want_def) .none kV34 dc34 pm34 an34 cd34 ct34), sl34⟩) (c34 : PySem.W.codeIn K cd34 "want_def" = true) (k34 : PySem.W.keepIn K (.ref f34) = true)
    {f35 : Addr} {oc35 kV35 dc35 pm35 cd35 ct35 : Value} {od35 an35 : Option Addr} {sl35 : Array (Option Value)} (a35 : PySem.W.nsIn K mainGlobals "all_homes" = some (some (.ref f35))) (l35 : K.lookup f35 = some ⟨oc35, od35, .func (PySem.W.fnOf "all_homes" "all_homes" (defArgs s_all_homes) (defBody s_all_homes) (defScope s_all_homes) .none kV35 dc35 pm35 an35 cd35 ct35), sl35⟩) (c35 : PySem.W.codeIn K cd35 "all_homes" = true) (k35 : PySem.W.keepIn K (.ref f35) = true)
    {f36 : Addr} {oc36 kV36 dc36 pm36 cd36 ct36 : Value} {od36 an36 : Option Addr} {sl36 : Array (Option Value)} (a36 : PySem.W.nsIn K mainGlobals "lines_of" = some (some (.ref f36))) (l36 : K.lookup f36 = some ⟨oc36, od36, .func (PySem.W.fnOf "lines_of" "lines_of" (defArgs s_lines_of) (defBody s_lines_of) (defScope s_lines_of) .none kV36 dc36 pm36 an36 cd36 ct36), sl36⟩) (c36 : PySem.W.codeIn K cd36 "lines_of" = true) (k36 : PySem.W.keepIn K (.ref f36) = true)
    {f37 : Addr} {oc37 kV37 dc37 pm37 cd37 ct37 : Value} {od37 an37 : Option Addr} {sl37 : Array (Option Value)} (a37 : PySem.W.nsIn K mainGlobals "all_places" = some (some (.ref f37))) (l37 : K.lookup f37 = some ⟨oc37, od37, .func (PySem.W.fnOf "all_places" "all_places" (defArgs s_all_places) (defBody s_all_places) (defScope s_all_places) .none kV37 dc37 pm37 an37 cd37 ct37), sl37⟩) (c37 : PySem.W.codeIn K cd37 "all_places" = true) (k37 : PySem.W.keepIn K (.ref f37) = true)
    {f38 : Addr} {oc38 kV38 dc38 pm38 cd38 ct38 : Value} {od38 an38 : Option Addr} {sl38 : Array (Option Value)} (a38 : PySem.W.nsIn K mainGlobals "line_at" = some (some (.ref f38))) (l38 : K.lookup f38 = some ⟨oc38, od38, .func (PySem.W.fnOf "line_at" "line_at" (defArgs s_line_at) (defBody s_line_at) (defScope s_line_at) .none kV38 dc38 pm38 an38 cd38 ct38), sl38⟩) (c38 : PySem.W.codeIn K cd38 "line_at" = true) (k38 : PySem.W.keepIn K (.ref f38) = true)
    {f39 : Addr} {oc39 kV39 dc39 pm39 cd39 ct39 : Value} {od39 an39 : Option Addr} {sl39 : Array (Option Value)} (a39 : PySem.W.nsIn K mainGlobals "goes_on_to" = some (some (.ref f39))) (l39 : K.lookup f39 = some ⟨oc39, od39, .func (PySem.W.fnOf "goes_on_to" "goes_on_to" (defArgs s_goes_on_to) (defBody s_goes_on_to) (defScope s_goes_on_to) .none kV39 dc39 pm39 an39 cd39 ct39), sl39⟩) (c39 : PySem.W.codeIn K cd39 "goes_on_to" = true) (k39 : PySem.W.keepIn K (.ref f39) = true)
    {f40 : Addr} {oc40 kV40 dc40 pm40 cd40 ct40 : Value} {od40 an40 : Option Addr} {sl40 : Array (Option Value)} (a40 : PySem.W.nsIn K mainGlobals "comes_from" = some (some (.ref f40))) (l40 : K.lookup f40 = some ⟨oc40, od40, .func (PySem.W.fnOf "comes_from" "comes_from" (defArgs s_comes_from) (defBody s_comes_from) (defScope s_comes_from) .none kV40 dc40 pm40 an40 cd40 ct40), sl40⟩) (c40 : PySem.W.codeIn K cd40 "comes_from" = true) (k40 : PySem.W.keepIn K (.ref f40) = true)
    {f41 : Addr} {oc41 kV41 dc41 pm41 cd41 ct41 : Value} {od41 an41 : Option Addr} {sl41 : Array (Option Value)} (a41 : PySem.W.nsIn K mainGlobals "reads" = some (some (.ref f41))) (l41 : K.lookup f41 = some ⟨oc41, od41, .func (PySem.W.fnOf "reads" "reads" (defArgs s_reads) (defBody s_reads) (defScope s_reads) .none kV41 dc41 pm41 an41 cd41 ct41), sl41⟩) (c41 : PySem.W.codeIn K cd41 "reads" = true) (k41 : PySem.W.keepIn K (.ref f41) = true)
    {f42 : Addr} {oc42 kV42 dc42 pm42 cd42 ct42 : Value} {od42 an42 : Option Addr} {sl42 : Array (Option Value)} (a42 : PySem.W.nsIn K mainGlobals "reads_at" = some (some (.ref f42))) (l42 : K.lookup f42 = some ⟨oc42, od42, .func (PySem.W.fnOf "reads_at" "reads_at" (defArgs s_reads_at) (defBody s_reads_at) (defScope s_reads_at) .none kV42 dc42 pm42 an42 cd42 ct42), sl42⟩) (c42 : PySem.W.codeIn K cd42 "reads_at" = true) (k42 : PySem.W.keepIn K (.ref f42) = true)
    {f43 : Addr} {oc43 kV43 dc43 pm43 cd43 ct43 : Value} {od43 an43 : Option Addr} {sl43 : Array (Option Value)} (a43 : PySem.W.nsIn K mainGlobals "live_places" = some (some (.ref f43))) (l43 : K.lookup f43 = some ⟨oc43, od43, .func (PySem.W.fnOf "live_places" "live_places" (defArgs s_live_places) (defBody s_live_places) (defScope s_live_places) .none kV43 dc43 pm43 an43 cd43 ct43), sl43⟩) (c43 : PySem.W.codeIn K cd43 "live_places" = true) (k43 : PySem.W.keepIn K (.ref f43) = true)
    {f44 : Addr} {oc44 kV44 dc44 pm44 cd44 ct44 : Value} {od44 an44 : Option Addr} {sl44 : Array (Option Value)} (a44 : PySem.W.nsIn K mainGlobals "all_live" = some (some (.ref f44))) (l44 : K.lookup f44 = some ⟨oc44, od44, .func (PySem.W.fnOf "all_live" "all_live" (defArgs s_all_live) (defBody s_all_live) (defScope s_all_live) .none kV44 dc44 pm44 an44 cd44 ct44), sl44⟩) (c44 : PySem.W.codeIn K cd44 "all_live" = true) (k44 : PySem.W.keepIn K (.ref f44) = true)
    {f45 : Addr} {oc45 kV45 dc45 pm45 cd45 ct45 : Value} {od45 an45 : Option Addr} {sl45 : Array (Option Value)} (a45 : PySem.W.nsIn K mainGlobals "needs" = some (some (.ref f45))) (l45 : K.lookup f45 = some ⟨oc45, od45, .func (PySem.W.fnOf "needs" "needs" (defArgs s_needs) (defBody s_needs) (defScope s_needs) .none kV45 dc45 pm45 an45 cd45 ct45), sl45⟩) (c45 : PySem.W.codeIn K cd45 "needs" = true) (k45 : PySem.W.keepIn K (.ref f45) = true)
    {f46 : Addr} {oc46 kV46 dc46 pm46 cd46 ct46 : Value} {od46 an46 : Option Addr} {sl46 : Array (Option Value)} (a46 : PySem.W.nsIn K mainGlobals "_law_due" = some (some (.ref f46))) (l46 : K.lookup f46 = some ⟨oc46, od46, .func (PySem.W.fnOf "_law_due" "_law_due" (defArgs s_law_due) (defBody s_law_due) (defScope s_law_due) .none kV46 dc46 pm46 an46 cd46 ct46), sl46⟩) (c46 : PySem.W.codeIn K cd46 "_law_due" = true) (k46 : PySem.W.keepIn K (.ref f46) = true)
    {f47 : Addr} {oc47 kV47 dc47 pm47 cd47 ct47 : Value} {od47 an47 : Option Addr} {sl47 : Array (Option Value)} (a47 : PySem.W.nsIn K mainGlobals "_law_right" = some (some (.ref f47))) (l47 : K.lookup f47 = some ⟨oc47, od47, .func (PySem.W.fnOf "_law_right" "_law_right" (defArgs s_law_right) (defBody s_law_right) (defScope s_law_right) .none kV47 dc47 pm47 an47 cd47 ct47), sl47⟩) (c47 : PySem.W.codeIn K cd47 "_law_right" = true) (k47 : PySem.W.keepIn K (.ref f47) = true)
    {f48 : Addr} {oc48 kV48 dc48 pm48 cd48 ct48 : Value} {od48 an48 : Option Addr} {sl48 : Array (Option Value)} (a48 : PySem.W.nsIn K mainGlobals "law" = some (some (.ref f48))) (l48 : K.lookup f48 = some ⟨oc48, od48, .func (PySem.W.fnOf "law" "law" (defArgs s_law) (defBody s_law) (defScope s_law) .none kV48 dc48 pm48 an48 cd48 ct48), sl48⟩) (c48 : PySem.W.codeIn K cd48 "law" = true) (k48 : PySem.W.keepIn K (.ref f48) = true)
    (b0 : PySem.W.nsIn K mainGlobals "abs" = some none)
    (b1 : PySem.W.nsIn K mainGlobals "all" = some none)
    (b2 : PySem.W.nsIn K mainGlobals "any" = some none)
    (b3 : PySem.W.nsIn K mainGlobals "bool" = some none)
    (b4 : PySem.W.nsIn K mainGlobals "divmod" = some none)
    (b5 : PySem.W.nsIn K mainGlobals "enumerate" = some none)
    (b6 : PySem.W.nsIn K mainGlobals "int" = some none)
    (b7 : PySem.W.nsIn K mainGlobals "isinstance" = some none)
    (b8 : PySem.W.nsIn K mainGlobals "len" = some none)
    (b9 : PySem.W.nsIn K mainGlobals "list" = some none)
    (b10 : PySem.W.nsIn K mainGlobals "max" = some none)
    (b11 : PySem.W.nsIn K mainGlobals "range" = some none)
    (b12 : PySem.W.nsIn K mainGlobals "repr" = some none)
    (b13 : PySem.W.nsIn K mainGlobals "reversed" = some none)
    (b14 : PySem.W.nsIn K mainGlobals "sorted" = some none)
    (b15 : PySem.W.nsIn K mainGlobals "str" = some none)
    (b16 : PySem.W.nsIn K mainGlobals "tuple" = some none)
    (b17 : PySem.W.nsIn K mainGlobals "zip" = some none)
    {t0 : Tok} (d0 : PySem.W.nsIn K mainGlobals "BINS" = some (some (.int 4 t0)))
    {t1 : Tok} (d1 : PySem.W.nsIn K mainGlobals "CALLED" = some (some (.str "called" t1)))
    {ga2 : Addr} {go2 : Obj} (d2 : PySem.W.nsIn K mainGlobals "CHOOSING" = some (some (.ref ga2))) (dl2 : K.lookup ga2 = some go2) (dt2 : tupC go2 [(.str "if"), (.str "ifnone"), (.str "same")] = true)
    {t3 : Tok} (d3 : PySem.W.nsIn K mainGlobals "FEW" = some (some (.str "few" t3)))
    {t4 : Tok} (d4 : PySem.W.nsIn K mainGlobals "FIELD" = some (some (.str "field" t4)))
    {ga5 : Addr} {go5 : Obj} (d5 : PySem.W.nsIn K mainGlobals "GIVEN" = some (some (.ref ga5))) (dl5 : K.lookup ga5 = some go5) (dt5 : tupC go5 [(.str "peg"), (.int (0))] = true)
    {t6 : Tok} (d6 : PySem.W.nsIn K mainGlobals "GOAL" = some (some (.str "goal" t6)))
    {t7 : Tok} (d7 : PySem.W.nsIn K mainGlobals "LAST_FIELD" = some (some (.int 2 t7)))
    {t8 : Tok} (d8 : PySem.W.nsIn K mainGlobals "MOST_DEFS" = some (some (.int 6 t8)))
    {t9 : Tok} (d9 : PySem.W.nsIn K mainGlobals "MOST_LINES" = some (some (.int 24 t9)))
    {t10 : Tok} (d10 : PySem.W.nsIn K mainGlobals "MOST_OF_A_BOX" = some (some (.int 3 t10)))
    {t11 : Tok} (d11 : PySem.W.nsIn K mainGlobals "NUMBER" = some (some (.str "number" t11)))
    {ga12 : Addr} {ge12 : Array DictEntry} {gn12 : Nat} (d12 : PySem.W.nsIn K mainGlobals "PARTS" = some (some (.ref ga12))) (dl12 : K.lookup ga12 = some ⟨.type "dict", none, .dict ge12 gn12, #[]⟩) (dk12 : PySem.W.KeysLit w.params ge12.toList) (ds12 : (ga12 == sysModules) = false) (dr12 : strKeys ge12.toList = true) {ha12_0 : Addr} {ho12_0 : Obj} {ha12_1 : Addr} {ho12_1 : Obj} {ha12_2 : Addr} {ho12_2 : Obj} {ha12_3 : Addr} {ho12_3 : Obj} {ha12_4 : Addr} {ho12_4 : Obj} {ha12_5 : Addr} {ho12_5 : Obj} {ha12_6 : Addr} {ho12_6 : Obj} {ha12_7 : Addr} {ho12_7 : Obj} {ha12_8 : Addr} {ho12_8 : Obj} {ha12_9 : Addr} {ho12_9 : Obj} {ha12_10 : Addr} {ho12_10 : Obj} {ha12_11 : Addr} {ho12_11 : Obj} {ha12_12 : Addr} {ho12_12 : Obj} {ha12_13 : Addr} {ho12_13 : Obj} {ha12_14 : Addr} {ho12_14 : Obj} {ha12_15 : Addr} {ho12_15 : Obj} {ha12_16 : Addr} {ho12_16 : Obj} {ha12_17 : Addr} {ho12_17 : Obj} (du12 : kvOf ge12.toList = ([("put", .ref ha12_0), ("none", .ref ha12_1), ("copy", .ref ha12_2), ("add", .ref ha12_3), ("less", .ref ha12_4), ("new", .ref ha12_5), ("getn", .ref ha12_6), ("setn", .ref ha12_7), ("getb", .ref ha12_8), ("setb", .ref ha12_9), ("tell", .ref ha12_10), ("go", .ref ha12_11), ("if", .ref ha12_12), ("ifnone", .ref ha12_13), ("same", .ref ha12_14), ("call", .ref ha12_15), ("back", .ref ha12_16), ("rest", .ref ha12_17)] : List (Str × Value))) (hl12_0 : K.lookup ha12_0 = some ho12_0) (ht12_0 : tupC ho12_0 [(.str "written"), (.str "number")] = true) (hl12_1 : K.lookup ha12_1 = some ho12_1) (ht12_1 : tupC ho12_1 [(.str "written")] = true) (hl12_2 : K.lookup ha12_2 = some ho12_2) (ht12_2 : tupC ho12_2 [(.str "written"), (.str "read")] = true) (hl12_3 : K.lookup ha12_3 = some ho12_3) (ht12_3 : tupC ho12_3 [(.str "written"), (.str "read"), (.str "read")] = true) (hl12_4 : K.lookup ha12_4 = some ho12_4) (ht12_4 : tupC ho12_4 [(.str "written"), (.str "read"), (.str "read")] = true) (hl12_5 : K.lookup ha12_5 = some ho12_5) (ht12_5 : tupC ho12_5 [(.str "written"), (.str "few"), (.str "few")] = true) (hl12_6 : K.lookup ha12_6 = some ho12_6) (ht12_6 : tupC ho12_6 [(.str "written"), (.str "read"), (.str "field")] = true) (hl12_7 : K.lookup ha12_7 = some ho12_7) (ht12_7 : tupC ho12_7 [(.str "read"), (.str "field"), (.str "read")] = true) (hl12_8 : K.lookup ha12_8 = some ho12_8) (ht12_8 : tupC ho12_8 [(.str "written"), (.str "read"), (.str "field")] = true) (hl12_9 : K.lookup ha12_9 = some ho12_9) (ht12_9 : tupC ho12_9 [(.str "read"), (.str "field"), (.str "read")] = true) (hl12_10 : K.lookup ha12_10 = some ho12_10) (ht12_10 : tupC ho12_10 [(.str "read")] = true) (hl12_11 : K.lookup ha12_11 = some ho12_11) (ht12_11 : tupC ho12_11 [(.str "goal")] = true) (hl12_12 : K.lookup ha12_12 = some ho12_12) (ht12_12 : tupC ho12_12 [(.str "read"), (.str "goal")] = true) (hl12_13 : K.lookup ha12_13 = some ho12_13) (ht12_13 : tupC ho12_13 [(.str "read"), (.str "goal")] = true) (hl12_14 : K.lookup ha12_14 = some ho12_14) (ht12_14 : tupC ho12_14 [(.str "read"), (.str "read"), (.str "goal")] = true) (hl12_15 : K.lookup ha12_15 = some ho12_15) (ht12_15 : tupC ho12_15 [(.str "called")] = true) (hl12_16 : K.lookup ha12_16 = some ho12_16) (ht12_16 : tupC ho12_16 [] = true) (hl12_17 : K.lookup ha12_17 = some ho12_17) (ht12_17 : tupC ho12_17 [] = true)
    {t13 : Tok} (d13 : PySem.W.nsIn K mainGlobals "PEGS" = some (some (.int 4 t13)))
    {t14 : Tok} (d14 : PySem.W.nsIn K mainGlobals "READ" = some (some (.str "read" t14)))
    {t15 : Tok} (d15 : PySem.W.nsIn K mainGlobals "SIGNS" = some (some (.str "nb-" t15)))
    {t16 : Tok} (d16 : PySem.W.nsIn K mainGlobals "WHATEVER" = some (some (.str "-" t16)))
    {t17 : Tok} (d17 : PySem.W.nsIn K mainGlobals "WRITTEN" = some (some (.str "written" t17))) : Tx K w mg :=
  ⟨⟨_, _, PySem.W.mg_of X G a0, fun_mk (st := s_law_pot) l0 c0 k0⟩, ⟨_, _, PySem.W.mg_of X G a1, fun_mk (st := s_law_draw) l1 c1 k1⟩, ⟨_, _, PySem.W.mg_of X G a2, fun_mk (st := s_law_homes) l2 c2 k2⟩, ⟨_, _, PySem.W.mg_of X G a3, fun_mk (st := s_law_words) l3 c3 k3⟩, ⟨_, _, PySem.W.mg_of X G a4, fun_mk (st := s_law_number) l4 c4 k4⟩, ⟨_, _, PySem.W.mg_of X G a5, fun_mk (st := s_law_part) l5 c5 k5⟩, ⟨_, _, PySem.W.mg_of X G a6, fun_mk (st := s_law_parts) l6 c6 k6⟩, ⟨_, _, PySem.W.mg_of X G a7, fun_mk (st := s_law_line) l7 c7 k7⟩, ⟨_, _, PySem.W.mg_of X G a8, fun_mk (st := s_law_def) l8 c8 k8⟩, ⟨_, _, PySem.W.mg_of X G a9, fun_mk (st := s_law_code) l9 c9 k9⟩, ⟨_, _, PySem.W.mg_of X G a10, fun_mk (st := s_law_all_homes) l10 c10 k10⟩, ⟨_, _, PySem.W.mg_of X G a11, fun_mk (st := s_law_asks) l11 c11 k11⟩, ⟨_, _, PySem.W.mg_of X G a12, fun_mk (st := s_law_makes) l12 c12 k12⟩, ⟨_, _, PySem.W.mg_of X G a13, fun_mk (st := s_law_behind) l13 c13 k13⟩, ⟨_, _, PySem.W.mg_of X G a14, fun_mk (st := s_law_is_live) l14 c14 k14⟩, ⟨_, _, PySem.W.mg_of X G a15, fun_mk (st := s_law_round) l15 c15 k15⟩, ⟨_, _, PySem.W.mg_of X G a16, fun_mk (st := s_law_live) l16 c16 k16⟩, ⟨_, _, PySem.W.mg_of X G a17, fun_mk (st := s_parts_of) l17 c17 k17⟩, ⟨_, _, PySem.W.mg_of X G a18, fun_mk (st := s_are_signs) l18 c18 k18⟩, ⟨_, _, PySem.W.mg_of X G a19, fun_mk (st := s_is_whole) l19 c19 k19⟩, ⟨_, _, PySem.W.mg_of X G a20, fun_mk (st := s_is_within) l20 c20 k20⟩, ⟨_, _, PySem.W.mg_of X G a21, fun_mk (st := s_are_keeps) l21 c21 k21⟩, ⟨_, _, PySem.W.mg_of X G a22, fun_mk (st := s_is_home) l22 c22 k22⟩, ⟨_, _, PySem.W.mg_of X G a23, fun_mk (st := s_is_part) l23 c23 k23⟩, ⟨_, _, PySem.W.mg_of X G a24, fun_mk (st := s_is_line) l24 c24 k24⟩, ⟨_, _, PySem.W.mg_of X G a25, fun_mk (st := s_are_lines) l25 c25 k25⟩, ⟨_, _, PySem.W.mg_of X G a26, fun_mk (st := s_next_lines) l26 c26 k26⟩, ⟨_, _, PySem.W.mg_of X G a27, fun_mk (st := s_stays_within) l27 c27 k27⟩, ⟨_, _, PySem.W.mg_of X G a28, fun_mk (st := s_writes) l28 c28 k28⟩, ⟨_, _, PySem.W.mg_of X G a29, fun_mk (st := s_has_own_homes) l29 c29 k29⟩, ⟨_, _, PySem.W.mg_of X G a30, fun_mk (st := s_is_def) l30 c30 k30⟩, ⟨_, _, PySem.W.mg_of X G a31, fun_mk (st := s_is_program) l31 c31 k31⟩, ⟨_, _, PySem.W.mg_of X G a32, fun_mk (st := s_want_program) l32 c32 k32⟩, ⟨_, _, PySem.W.mg_of X G a33, fun_mk (st := s_is_below) l33 c33 k33⟩, ⟨_, _, PySem.W.mg_of X G a34, fun_mk (st := s_want_def) l34 c34 k34⟩, ⟨_, _, PySem.W.mg_of X G a35, fun_mk (st := s_all_homes) l35 c35 k35⟩, ⟨_, _, PySem.W.mg_of X G a36, fun_mk (st := s_lines_of) l36 c36 k36⟩, ⟨_, _, PySem.W.mg_of X G a37, fun_mk (st := s_all_places) l37 c37 k37⟩, ⟨_, _, PySem.W.mg_of X G a38, fun_mk (st := s_line_at) l38 c38 k38⟩, ⟨_, _, PySem.W.mg_of X G a39, fun_mk (st := s_goes_on_to) l39 c39 k39⟩, ⟨_, _, PySem.W.mg_of X G a40, fun_mk (st := s_comes_from) l40 c40 k40⟩, ⟨_, _, PySem.W.mg_of X G a41, fun_mk (st := s_reads) l41 c41 k41⟩, ⟨_, _, PySem.W.mg_of X G a42, fun_mk (st := s_reads_at) l42 c42 k42⟩, ⟨_, _, PySem.W.mg_of X G a43, fun_mk (st := s_live_places) l43 c43 k43⟩, ⟨_, _, PySem.W.mg_of X G a44, fun_mk (st := s_all_live) l44 c44 k44⟩, ⟨_, _, PySem.W.mg_of X G a45, fun_mk (st := s_needs) l45 c45 k45⟩, ⟨_, _, PySem.W.mg_of X G a46, fun_mk (st := s_law_due) l46 c46 k46⟩, ⟨_, _, PySem.W.mg_of X G a47, fun_mk (st := s_law_right) l47 c47 k47⟩, ⟨_, _, PySem.W.mg_of X G a48, fun_mk (st := s_law) l48 c48 k48⟩, PySem.W.mg_none_of X G b0, PySem.W.mg_none_of X G b1, PySem.W.mg_none_of X G b2, PySem.W.mg_none_of X G b3, PySem.W.mg_none_of X G b4, PySem.W.mg_none_of X G b5, PySem.W.mg_none_of X G b6, PySem.W.mg_none_of X G b7, PySem.W.mg_none_of X G b8, PySem.W.mg_none_of X G b9, PySem.W.mg_none_of X G b10, PySem.W.mg_none_of X G b11, PySem.W.mg_none_of X G b12, PySem.W.mg_none_of X G b13, PySem.W.mg_none_of X G b14, PySem.W.mg_none_of X G b15, PySem.W.mg_none_of X G b16, PySem.W.mg_none_of X G b17, ⟨_, PySem.W.mg_of X G d0⟩, ⟨_, PySem.W.mg_of X G d1⟩, ⟨_, PySem.W.mg_of X G d2, tupC_ok dl2 dt2⟩, ⟨_, PySem.W.mg_of X G d3⟩, ⟨_, PySem.W.mg_of X G d4⟩, ⟨_, PySem.W.mg_of X G d5, tupC_ok dl5 dt5⟩, ⟨_, PySem.W.mg_of X G d6⟩, ⟨_, PySem.W.mg_of X G d7⟩, ⟨_, PySem.W.mg_of X G d8⟩, ⟨_, PySem.W.mg_of X G d9⟩, ⟨_, PySem.W.mg_of X G d10⟩, ⟨_, PySem.W.mg_of X G d11⟩, kd_mk (PySem.W.mg_of X G d12) dl12 dk12 ds12 dr12 du12 (.cons (kv_tup hl12_0 ht12_0) (.cons (kv_tup hl12_1 ht12_1) (.cons (kv_tup hl12_2 ht12_2) (.cons (kv_tup hl12_3 ht12_3) (.cons (kv_tup hl12_4 ht12_4) (.cons (kv_tup hl12_5 ht12_5) (.cons (kv_tup hl12_6 ht12_6) (.cons (kv_tup hl12_7 ht12_7) (.cons (kv_tup hl12_8 ht12_8) (.cons (kv_tup hl12_9 ht12_9) (.cons (kv_tup hl12_10 ht12_10) (.cons (kv_tup hl12_11 ht12_11) (.cons (kv_tup hl12_12 ht12_12) (.cons (kv_tup hl12_13 ht12_13) (.cons (kv_tup hl12_14 ht12_14) (.cons (kv_tup hl12_15 ht12_15) (.cons (kv_tup hl12_16 ht12_16) (.cons (kv_tup hl12_17 ht12_17) .nil)))))))))))))))))), ⟨_, PySem.W.mg_of X G d13⟩, ⟨_, PySem.W.mg_of X G d14⟩, ⟨_, PySem.W.mg_of X G d15⟩, ⟨_, PySem.W.mg_of X G d16⟩, ⟨_, PySem.W.mg_of X G d17⟩⟩
theorem walk {l : PySem.W.OpenLaw} {q : Program} {loose : List Str} {XP : (Str → Option Value) → Heap → Prop} {YP : World → Heap → Prop} {d : DefRec} {K : Params → PySem.W.Frag} (hn : l.most = some 63) (hdf : d.params.defaults = []) (hd : d.name = "law")
    (hY : ∀ (w : World) (h : Heap), YP w h → (K w.params).In h) (F : ∀ (w : World) (mg : Str → Option Value) (h : Heap), (K w.params).In h → h.Ns mainGlobals mg → Tx (K w.params) w mg) :
    PySem.W.WalkO q loose XP YP l.row.toRowW d [] (fun f vs => PySem.call f vs) :=
  vwalk (n := 63) (k := 12) (x := "_law_script") (sp := sp_law) hn (by decide) hdf ⟨rfl, by decide, by decide⟩ hY (fun w mg h X G base _ _ => by rw [hd]; exact ok_law (F w mg h X G)) law_end
end Lw
open PySem PySem.W PyProof.Rows
set_option maxRecDepth 100000 in
set_option maxHeartbeats 0 in
theorem PySem.Challenge.cw_livepoints_k43_needs_through_rings_holds : PySem.Challenge.rw_livepoints_k43_needs_through_rings.Holds := by
  w_on; o_law; k_head; (case hw => w_witness2)
  k_fill
  refine Lw.walk (l := PySem.Challenge.rw_livepoints_k43_needs_through_rings) rfl rfl rfl (fun w h Y => PySem.W.kIn_of Y) ?F
  case F =>
    intro w mg h KX G
    refine' Lw.tx_mk KX G ?a0 ?l0 ?c0 ?k0 ?a1 ?l1 ?c1 ?k1 ?a2 ?l2 ?c2 ?k2 ?a3 ?l3 ?c3 ?k3 ?a4 ?l4 ?c4 ?k4 ?a5 ?l5 ?c5 ?k5 ?a6 ?l6 ?c6 ?k6 ?a7 ?l7 ?c7 ?k7 ?a8 ?l8 ?c8 ?k8 ?a9 ?l9 ?c9 ?k9 ?a10 ?l10 ?c10 ?k10 ?a11 ?l11 ?c11 ?k11 ?a12 ?l12 ?c12 ?k12 ?a13 ?l13 ?c13 ?k13 ?a14 ?l14 ?c14 ?k14 ?a15 ?l15 ?c15 ?k15 ?a16 ?l16 ?c16 ?k16 ?a17 ?l17 ?c17 ?k17 ?a18 ?l18 ?c18 ?k18 ?a19 ?l19 ?c19 ?k19 ?a20 ?l20 ?c20 ?k20 ?a21 ?l21 ?c21 ?k21 ?a22 ?l22 ?c22 ?k22 ?a23 ?l23 ?c23 ?k23 ?a24 ?l24 ?c24 ?k24 ?a25 ?l25 ?c25 ?k25 ?a26 ?l26 ?c26 ?k26 ?a27 ?l27 ?c27 ?k27 ?a28 ?l28 ?c28 ?k28 ?a29 ?l29 ?c29 ?k29 ?a30 ?l30 ?c30 ?k30 ?a31 ?l31 ?c31 ?k31 ?a32 ?l32 ?c32 ?k32 ?a33 ?l33 ?c33 ?k33 ?a34 ?l34 ?c34 ?k34 ?a35 ?l35 ?c35 ?k35 ?a36 ?l36 ?c36 ?k36 ?a37 ?l37 ?c37 ?k37 ?a38 ?l38 ?c38 ?k38 ?a39 ?l39 ?c39 ?k39 ?a40 ?l40 ?c40 ?k40 ?a41 ?l41 ?c41 ?k41 ?a42 ?l42 ?c42 ?k42 ?a43 ?l43 ?c43 ?k43 ?a44 ?l44 ?c44 ?k44 ?a45 ?l45 ?c45 ?k45 ?a46 ?l46 ?c46 ?k46 ?a47 ?l47 ?c47 ?k47 ?a48 ?l48 ?c48 ?k48 ?b0 ?b1 ?b2 ?b3 ?b4 ?b5 ?b6 ?b7 ?b8 ?b9 ?b10 ?b11 ?b12 ?b13 ?b14 ?b15 ?b16 ?b17 ?d0 ?d1 ?d2 ?dl2 ?dt2 ?d3 ?d4 ?d5 ?dl5 ?dt5 ?d6 ?d7 ?d8 ?d9 ?d10 ?d11 ?d12 ?dl12 ?dk12 ?ds12 ?dr12 ?du12 ?hl12_0 ?ht12_0 ?hl12_1 ?ht12_1 ?hl12_2 ?ht12_2 ?hl12_3 ?ht12_3 ?hl12_4 ?ht12_4 ?hl12_5 ?ht12_5 ?hl12_6 ?ht12_6 ?hl12_7 ?ht12_7 ?hl12_8 ?ht12_8 ?hl12_9 ?ht12_9 ?hl12_10 ?ht12_10 ?hl12_11 ?ht12_11 ?hl12_12 ?ht12_12 ?hl12_13 ?ht12_13 ?hl12_14 ?ht12_14 ?hl12_15 ?ht12_15 ?hl12_16 ?ht12_16 ?hl12_17 ?ht12_17 ?d13 ?d14 ?d15 ?d16 ?d17
    (case a0 => k_is); (case l0 => k_is); (case c0 => k_is); (case k0 => k_is); (case a1 => k_is); (case l1 => k_is); (case c1 => k_is); (case k1 => k_is)
    (case a2 => k_is); (case l2 => k_is); (case c2 => k_is); (case k2 => k_is); (case a3 => k_is); (case l3 => k_is); (case c3 => k_is); (case k3 => k_is)
    (case a4 => k_is); (case l4 => k_is); (case c4 => k_is); (case k4 => k_is); (case a5 => k_is); (case l5 => k_is); (case c5 => k_is); (case k5 => k_is)
    (case a6 => k_is); (case l6 => k_is); (case c6 => k_is); (case k6 => k_is); (case a7 => k_is); (case l7 => k_is); (case c7 => k_is); (case k7 => k_is)
    (case a8 => k_is); (case l8 => k_is); (case c8 => k_is); (case k8 => k_is); (case a9 => k_is); (case l9 => k_is); (case c9 => k_is); (case k9 => k_is)
    (case a10 => k_is); (case l10 => k_is); (case c10 => k_is); (case k10 => k_is); (case a11 => k_is); (case l11 => k_is); (case c11 => k_is); (case k11 => k_is)
    (case a12 => k_is); (case l12 => k_is); (case c12 => k_is); (case k12 => k_is); (case a13 => k_is); (case l13 => k_is); (case c13 => k_is); (case k13 => k_is)
    (case a14 => k_is); (case l14 => k_is); (case c14 => k_is); (case k14 => k_is); (case a15 => k_is); (case l15 => k_is); (case c15 => k_is); (case k15 => k_is)
    (case a16 => k_is); (case l16 => k_is); (case c16 => k_is); (case k16 => k_is); (case a17 => k_is); (case l17 => k_is); (case c17 => k_is); (case k17 => k_is)
    (case a18 => k_is); (case l18 => k_is); (case c18 => k_is); (case k18 => k_is); (case a19 => k_is); (case l19 => k_is); (case c19 => k_is); (case k19 => k_is)
    (case a20 => k_is); (case l20 => k_is); (case c20 => k_is); (case k20 => k_is); (case a21 => k_is); (case l21 => k_is); (case c21 => k_is); (case k21 => k_is)
    (case a22 => k_is); (case l22 => k_is); (case c22 => k_is); (case k22 => k_is); (case a23 => k_is); (case l23 => k_is); (case c23 => k_is); (case k23 => k_is)
    (case a24 => k_is); (case l24 => k_is); (case c24 => k_is); (case k24 => k_is); (case a25 => k_is); (case l25 => k_is); (case c25 => k_is); (case k25 => k_is)
    (case a26 => k_is); (case l26 => k_is); (case c26 => k_is); (case k26 => k_is); (case a27 => k_is); (case l27 => k_is); (case c27 => k_is); (case k27 => k_is)
    (case a28 => k_is); (case l28 => k_is); (case c28 => k_is); (case k28 => k_is); (case a29 => k_is); (case l29 => k_is); (case c29 => k_is); (case k29 => k_is)
    (case a30 => k_is); (case l30 => k_is); (case c30 => k_is); (case k30 => k_is); (case a31 => k_is); (case l31 => k_is); (case c31 => k_is); (case k31 => k_is)
    (case a32 => k_is); (case l32 => k_is); (case c32 => k_is); (case k32 => k_is); (case a33 => k_is); (case l33 => k_is); (case c33 => k_is); (case k33 => k_is)
    (case a34 => k_is); (case l34 => k_is); (case c34 => k_is); (case k34 => k_is); (case a35 => k_is); (case l35 => k_is); (case c35 => k_is); (case k35 => k_is)
    (case a36 => k_is); (case l36 => k_is); (case c36 => k_is); (case k36 => k_is); (case a37 => k_is); (case l37 => k_is); (case c37 => k_is); (case k37 => k_is)
    (case a38 => k_is); (case l38 => k_is); (case c38 => k_is); (case k38 => k_is); (case a39 => k_is); (case l39 => k_is); (case c39 => k_is); (case k39 => k_is)
    (case a40 => k_is); (case l40 => k_is); (case c40 => k_is); (case k40 => k_is); (case a41 => k_is); (case l41 => k_is); (case c41 => k_is); (case k41 => k_is)
    (case a42 => k_is); (case l42 => k_is); (case c42 => k_is); (case k42 => k_is); (case a43 => k_is); (case l43 => k_is); (case c43 => k_is); (case k43 => k_is)
    (case a44 => k_is); (case l44 => k_is); (case c44 => k_is); (case k44 => k_is); (case a45 => k_is); (case l45 => k_is); (case c45 => k_is); (case k45 => k_is)
    (case a46 => k_is); (case l46 => k_is); (case c46 => k_is); (case k46 => k_is); (case a47 => k_is); (case l47 => k_is); (case c47 => k_is); (case k47 => k_is)
    (case a48 => k_is); (case l48 => k_is); (case c48 => k_is); (case k48 => k_is); (case b0 => k_is); (case b1 => k_is); (case b2 => k_is); (case b3 => k_is)
    (case b4 => k_is); (case b5 => k_is); (case b6 => k_is); (case b7 => k_is); (case b8 => k_is); (case b9 => k_is); (case b10 => k_is); (case b11 => k_is)
    (case b12 => k_is); (case b13 => k_is); (case b14 => k_is); (case b15 => k_is); (case b16 => k_is); (case b17 => k_is); (case d0 => k_is); (case d1 => k_is)
    (case d2 => k_is); (case dl2 => k_is); (case dt2 => first | decide +kernel | (dsimp only; decide +kernel)); (case d3 => k_is); (case d4 => k_is); (case d5 => k_is); (case dl5 => k_is); (case dt5 => first | decide +kernel | (dsimp only; decide +kernel))
    (case d6 => k_is); (case d7 => k_is); (case d8 => k_is); (case d9 => k_is); (case d10 => k_is); (case d11 => k_is); (case d12 => k_is); (case dl12 => k_is)
    (case dk12 => repeat' first | exact trivial | refine ⟨⟨_, _, rfl, rfl⟩, ?_⟩); (case ds12 => first | decide +kernel | (dsimp only; decide +kernel)); (case dr12 => rfl); (case du12 => rfl); (case hl12_0 => k_is); (case ht12_0 => first | decide +kernel | (dsimp only; decide +kernel)); (case hl12_1 => k_is); (case ht12_1 => first | decide +kernel | (dsimp only; decide +kernel))
    (case hl12_2 => k_is); (case ht12_2 => first | decide +kernel | (dsimp only; decide +kernel)); (case hl12_3 => k_is); (case ht12_3 => first | decide +kernel | (dsimp only; decide +kernel)); (case hl12_4 => k_is); (case ht12_4 => first | decide +kernel | (dsimp only; decide +kernel)); (case hl12_5 => k_is); (case ht12_5 => first | decide +kernel | (dsimp only; decide +kernel))
    (case hl12_6 => k_is); (case ht12_6 => first | decide +kernel | (dsimp only; decide +kernel)); (case hl12_7 => k_is); (case ht12_7 => first | decide +kernel | (dsimp only; decide +kernel)); (case hl12_8 => k_is); (case ht12_8 => first | decide +kernel | (dsimp only; decide +kernel)); (case hl12_9 => k_is); (case ht12_9 => first | decide +kernel | (dsimp only; decide +kernel))
    (case hl12_10 => k_is); (case ht12_10 => first | decide +kernel | (dsimp only; decide +kernel)); (case hl12_11 => k_is); (case ht12_11 => first | decide +kernel | (dsimp only; decide +kernel)); (case hl12_12 => k_is); (case ht12_12 => first | decide +kernel | (dsimp only; decide +kernel)); (case hl12_13 => k_is); (case ht12_13 => first | decide +kernel | (dsimp only; decide +kernel))
    (case hl12_14 => k_is); (case ht12_14 => first | decide +kernel | (dsimp only; decide +kernel)); (case hl12_15 => k_is); (case ht12_15 => first | decide +kernel | (dsimp only; decide +kernel)); (case hl12_16 => k_is); (case ht12_16 => first | decide +kernel | (dsimp only; decide +kernel)); (case hl12_17 => k_is); (case ht12_17 => first | decide +kernel | (dsimp only; decide +kernel))
    (case d13 => k_is); (case d14 => k_is); (case d15 => k_is); (case d16 => k_is); (case d17 => k_is)

