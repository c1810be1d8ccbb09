import PyProof.Rows.All
import Wide.All
import OpenK.AllK
import Wide.FinOn
import HandS.ForMost
import HandS.IsInst
import HandS.Wide
import HandS.Strs
import HandS.SetIn
import HandS.More
import HandS.Zip
import HandS.RaiseMore
import HandS.ExcIs
import HandS.ExcOwn
import HandS.WordsExc
import HandS.TryOnly
import KE.KUnpackStar
import KE.GoesMore
import KE.GoesZip
import KE.GoesEnum
import HandS.TupMul
import PyProof.TupleOfStr
import HandS.TupAny
import HandS.TupLe
import HandS.TupSets
import KE.KeyNested
import KE.KDictKeyed
import KE.KDictWalk
import KE.KDictDisplayH
import KE.SortData
import HandS.SetBool
import PyProof.Transfer
import HandS.Deep
import HandS.WideBits
import HandS.Style
import KE.KRevSl
import KE.IntTextLaws
import HandS.Small
import HandS.SetKeys
import HandS.DictComp
import KE.DataMinMax
import HandS.SortKw
import HandS.SortInts
import HandS.SetFor
import HandS.Defaults
import PyProof.EqKinds
import PyProof.NeKinds
import PyProof.Rows.IntBool
import PyProof.TwoTypesSub
import PyProof.ListStr
import KE.RegKIsAll
import KE.RegKTryMore
import PyProof.FactsAll.dict_1
import PyProof.FactsAll.subtypes_3
import PyProof.FactsAll.subtypes_4
import PySem.Challenge.RW_livepoints_k51_boxes
set_option Elab.async false
set_option linter.all false
set_option maxRecDepth 100000
set_option maxHeartbeats 2000000
namespace VL
open PySem PySem.Spec L2
open PyProof.Rows hiding St
/-- a value as data: what never changes by its whole, what may change by its address -/
inductive D where
  | non | bl (b : Bool) | int (i : Int) | str (s : Str)
  | tup (ds : List D) | lst (ds : List D) | ro (ds : List D) | dct (kvs : List (Key × D))
  | ref (a : Addr)
  deriving Inhabited
mutual
/-- the value v is the data d; G: what is frozen -/
inductive Rp (K : PySem.W.Frag) (G : Hp) : V → D → Prop
  | non : Rp K G .non .non
  | bl (b : Bool) : Rp K G (.bl b) (.bl b)
  | int (i : Int) : Rp K G (.int i) (.int i)
  | str (x : Str) : Rp K G (.str x) (.str x)
  | ref (a : Addr) : Rp K G (.ref a) (.ref a)
  | tup {a : Addr} {xs : List V} {ds : List D} (h : SqT K G a xs) (r : RpL K G xs ds) : Rp K G (.ref a) (.tup ds)
  | lst {a : Addr} {xs : List V} {ds : List D} (h : G a = some (.lst xs)) (r : RpL K G xs ds) : Rp K G (.ref a) (.lst ds)
  | ro {a : Addr} {xs : List V} {ds : List D} (h : SqL K G a xs) (r : RpL K G xs ds) : Rp K G (.ref a) (.ro ds)
  | dct {a : Addr} {ob : Obj} {kvs : List (Key × V)} {ds : List (Key × D)} (h : G a = some (.frz ob (.dK kvs))) (r : RpK K G kvs ds) : Rp K G (.ref a) (.dct ds)
inductive RpL (K : PySem.W.Frag) (G : Hp) : List V → List D → Prop
  | nil : RpL K G [] []
  | cons {v : V} {vs : List V} {d : D} {ds : List D} (h : Rp K G v d) (t : RpL K G vs ds) : RpL K G (v :: vs) (d :: ds)
inductive RpK (K : PySem.W.Frag) (G : Hp) : List (Key × V) → List (Key × D) → Prop
  | nil : RpK K G [] []
  | cons {k : Key} {v : V} {vs : List (Key × V)} {d : D} {ds : List (Key × D)} (h : Rp K G v d) (t : RpK K G vs ds) : RpK K G ((k, v) :: vs) ((k, d) :: ds)
end
section
variable {K : PySem.W.Frag} {G G' : Hp}
theorem same_t {a : Addr} {xs : List V} (e : Same G G') (h : SqT K G a xs) : SqT K G' a xs := by
  rcases h with (h | ⟨o, h⟩) | h
  · exact .inl (.inl (e _ _ h))
  · exact .inl (.inr ⟨o, e _ _ h⟩)
  · exact .inr h
mutual
theorem Rp.mono (e : Same G G') : ∀ {v : V} {d : D}, Rp K G v d → Rp K G' v d
  | _, _, .non => .non
  | _, _, .bl b => .bl b
  | _, _, .int i => .int i
  | _, _, .str x => .str x
  | _, _, .ref a => .ref a
  | _, _, .tup h r => .tup (same_t e h) (RpL.mono e r)
  | _, _, .lst h r => .lst (e _ _ h) (RpL.mono e r)
  | _, _, .ro h r => .ro (e.seq h) (RpL.mono e r)
  | _, _, .dct h r => .dct (e _ _ h) (RpK.mono e r)
theorem RpL.mono (e : Same G G') : ∀ {vs : List V} {ds : List D}, RpL K G vs ds → RpL K G' vs ds
  | _, _, .nil => .nil
  | _, _, .cons h t => .cons (Rp.mono e h) (RpL.mono e t)
theorem RpK.mono (e : Same G G') : ∀ {vs : List (Key × V)} {ds : List (Key × D)}, RpK K G vs ds → RpK K G' vs ds
  | _, _, .nil => .nil
  | _, _, .cons h t => .cons (Rp.mono e h) (RpK.mono e t)
end
theorem RpL.length : ∀ {vs : List V} {ds : List D}, RpL K G vs ds → vs.length = ds.length
  | _, _, .nil => rfl
  | _, _, .cons _ t => by simp [t.length]
theorem RpL.get : ∀ {vs : List V} {ds : List D} {i : Nat} {d : D}, RpL K G vs ds → ds[i]? = some d → ∃ v, vs[i]? = some v ∧ Rp K G v d
  | _, _, _, _, .nil, e => by simp at e
  | _, _, 0, _, .cons h _, e => by simp at e; subst e; exact ⟨_, rfl, h⟩
  | _, _, i + 1, d, .cons _ t, e => by
    obtain ⟨u, h1, h2⟩ := t.get (i := i) (d := d) (by simpa using e)
    exact ⟨u, by simpa using h1, h2⟩
theorem RpL.getV : ∀ {vs : List V} {ds : List D} {i : Nat} {v : V}, RpL K G vs ds → vs[i]? = some v → ∃ d, ds[i]? = some d ∧ Rp K G v d
  | _, _, _, _, .nil, e => by simp at e
  | _, _, 0, _, .cons h _, e => by simp at e; subst e; exact ⟨_, rfl, h⟩
  | _, _, i + 1, d, .cons _ t, e => by
    obtain ⟨u, h1, h2⟩ := t.getV (i := i) (v := d) (by simpa using e)
    exact ⟨u, by simpa using h1, h2⟩
theorem RpL.append : ∀ {xs ys : List V} {us ws : List D}, RpL K G xs us → RpL K G ys ws → RpL K G (xs ++ ys) (us ++ ws)
  | _, _, _, _, .nil, s => s
  | _, _, _, _, .cons r t, s => .cons r (RpL.append t s)
theorem RpL.set {x : V} {u : D} (r : Rp K G x u) : ∀ {xs : List V} {us : List D} (i : Nat), RpL K G xs us → RpL K G (xs.set i x) (us.set i u)
  | _, _, _, .nil => .nil
  | _, _, 0, .cons _ t => .cons r t
  | _, _, i + 1, .cons q t => .cons q (RpL.set r i t)
theorem RpL.take : ∀ {xs : List V} {us : List D} (n : Nat), RpL K G xs us → RpL K G (xs.take n) (us.take n)
  | _, _, 0, _ => .nil
  | _, _, _ + 1, .nil => .nil
  | _, _, n + 1, .cons r t => .cons r (RpL.take n t)
theorem RpL.drop : ∀ {xs : List V} {us : List D} (n : Nat), RpL K G xs us → RpL K G (xs.drop n) (us.drop n)
  | _, _, 0, r => r
  | _, _, _ + 1, .nil => .nil
  | _, _, n + 1, .cons _ t => RpL.drop n t
theorem RpL.replicate {x : V} {u : D} (r : Rp K G x u) : ∀ n : Nat, RpL K G (List.replicate n x) (List.replicate n u)
  | 0 => .nil
  | n + 1 => by rw [List.replicate_succ, List.replicate_succ]; exact .cons r (RpL.replicate r n)
end
abbrev NK := PySem.NestedKey
mutual
def keyN : D → Option NK
  | .non => some .none
  | .int i => some (.num i)
  | .str x => some (.text x)
  | .tup ds => (keysN ds).map .tup
  | _ => none
def keysN : List D → Option (List NK)
  | [] => some []
  | d :: ds => match keyN d, keysN ds with
    | some k, some ks => some (k :: ks)
    | _, _ => none
end
mutual
def dOfN : NK → D
  | .none => .non
  | .num i => .int i
  | .text x => .str x
  | .tup ks => .tup (dsOfN ks)
def dsOfN : List NK → List D
  | [] => []
  | k :: ks => dOfN k :: dsOfN ks
end
/-- a dict whose keys are tuples, by its entries -/
def dtPhi (w : World) (p : Addr) (xs : List (NK × Addr × Value)) (h : Heap) : Prop :=
  (p == sysModules) = false ∧ xs.length ≤ sizeLine ∧ (xs.map (·.1)).Nodup ∧ ∃ (o : Obj) (es : Array DictEntry) (ep : Nat), h.get? p = some o ∧ o.ExactDict ∧ o.data = .dict es ep ∧ es.toList = xs.map fun x => (⟨x.1.hash w, .ref x.2.1, x.2.2⟩ : DictEntry)
inductive EntR (K : PySem.W.Frag) (G : Hp) : List (NK × Addr × Value) → List (NK × D) → Prop
  | nil : EntR K G [] []
  | cons {k : NK} {q : Addr} {u : Value} {d : D} {xs : List (NK × Addr × Value)} {kvs : List (NK × D)} (hk : k.depth ≤ 8 ∧ keyN (dOfN k) = some k) (rk : Rp K G (.ref q) (dOfN k)) (rv : ∃ v, RelV v u ∧ Rp K G v d) (t : EntR K G xs kvs) : EntR K G ((k, q, u) :: xs) ((k, d) :: kvs)
theorem EntR.mono {K : PySem.W.Frag} {G G' : Hp} (e : Same G G') : ∀ {xs : List (NK × Addr × Value)} {kvs : List (NK × D)}, EntR K G xs kvs → EntR K G' xs kvs
  | _, _, .nil => .nil
  | _, _, .cons hk rk ⟨v, r1, r2⟩ t => .cons hk (rk.mono e) ⟨v, r1, r2.mono e⟩ (t.mono e)
inductive SO where
  | lst (ds : List D) | dct (kvs : List (Key × D)) | ins (C : Addr) (fs : List (Str × D))
  | dtn (w : World) (p : Addr) (kvs : List (NK × D)) | dtl (w : World) (p : Addr) (kvs : List (NK × D)) | dcl (kvs : List (Key × D))
abbrev Store := Addr → Option SO
def supd (S : Store) (a : Addr) (o : SO) : Store := fun b => if b = a then some o else S b
def sdel (S : Store) (a : Addr) : Store := fun b => if b = a then none else S b
theorem supd_same {S : Store} {a : Addr} {o : SO} : supd S a o a = some o := by unfold supd; rw [if_pos rfl]
theorem supd_ne {S : Store} {a b : Addr} {o : SO} (h : b ≠ a) : supd S a o b = S b := by unfold supd; rw [if_neg h]
theorem supd_supd {S : Store} {a : Addr} {o u : SO} : supd (supd S a o) a u = supd S a u := by
  funext b; unfold supd; split <;> rfl
inductive RpF (K : PySem.W.Frag) (G : Hp) : List (Str × V) → List (Str × D) → Prop
  | nil : RpF K G [] []
  | cons {k : Str} {v : V} {vs : List (Str × V)} {d : D} {ds : List (Str × D)} (h : Rp K G v d) (t : RpF K G vs ds) : RpF K G ((k, v) :: vs) ((k, d) :: ds)
theorem RpF.mono {K : PySem.W.Frag} {G G' : Hp} (e : Same G G') : ∀ {vs : List (Str × V)} {ds : List (Str × D)}, RpF K G vs ds → RpF K G' vs ds
  | _, _, .nil => .nil
  | _, _, .cons h t => .cons (h.mono e) (RpF.mono e t)
inductive SOk (K : PySem.W.Frag) (G : Hp) : SO → HO → Prop
  | lst {xs : List V} {ds : List D} (r : RpL K G xs ds) : SOk K G (.lst ds) (.lst xs)
  | dct {kvs : List (Key × V)} {ds : List (Key × D)} (r : RpK K G kvs ds) : SOk K G (.dct ds) (.dK kvs)
  | ins {C dx : Addr} {fs : List (Str × V)} {ds : List (Str × D)} (r : RpF K G fs ds) : SOk K G (.ins C ds) (.ins C dx fs)
  | dtn {w : World} {p : Addr} {xs : List (NK × Addr × Value)} {kvs : List (NK × D)} (r : EntR K G xs kvs) : SOk K G (.dtn w p kvs) (.ext (dtPhi w p xs))
  | dtl {w : World} {p : Addr} {ob : Obj} {xs : List (NK × Addr × Value)} {kvs : List (NK × D)} (r : EntR K G xs kvs) : SOk K G (.dtl w p kvs) (.frz ob (.ext (dtPhi w p xs)))
  | dcl {ob : Obj} {kvs : List (Key × V)} {ds : List (Key × D)} (r : RpK K G kvs ds) : SOk K G (.dcl ds) (.frz ob (.dK kvs))
theorem SOk.mono {K : PySem.W.Frag} {G G' : Hp} (e : Same G G') {o : SO} {u : HO} (h : SOk K G o u) : SOk K G' o u := by
  cases h with
  | lst r => exact .lst (r.mono e)
  | dct r => exact .dct (r.mono e)
  | ins r => exact .ins (r.mono e)
  | dtn r => exact .dtn (r.mono e)
  | dtl r => exact .dtl (r.mono e)
  | dcl r => exact .dcl (r.mono e)
/-- the heap H as frozen things G and a store S -/
structure View (K : PySem.W.Frag) (G : Hp) (S : Store) (H : Hp) : Prop where
  gh : Same G H
  st : ∀ a o, S a = some o → G a = none ∧ ∃ u, H a = some u ∧ SOk K G o u
/-- from (G, S, H) to (G', S', H') -/
structure Aft (K : PySem.W.Frag) (G : Hp) (S : Store) (H : Hp) (S' : Store) (H' : Hp) (G' : Hp) : Prop where
  fr : ∀ a o, S a = none → H a = some o → H' a = some o ∧ S' a = none ∧ G' a = G a
  gg : Same G G'
  vw : View K G' S' H'
section
variable {K : PySem.W.Frag} {G G1 G2 : Hp} {S S1 S2 : Store} {H H1 H2 : Hp}
theorem Aft.refl (v : View K G S H) : Aft K G S H S H G := ⟨fun _ _ h e => ⟨e, h, rfl⟩, Same.refl G, v⟩
theorem Aft.trans (a : Aft K G S H S1 H1 G1) (b : Aft K G1 S1 H1 S2 H2 G2) : Aft K G S H S2 H2 G2 :=
  ⟨fun x o h e => let ⟨e1, h1, g1⟩ := a.fr x o h e; let ⟨e2, h2, g2⟩ := b.fr x o h1 e1; ⟨e2, h2, g2.trans g1⟩, a.gg.trans b.gg, b.vw⟩
theorem View.none (v : View K G S H) {a : Addr} (h : H a = none) : G a = none ∧ S a = none := by
  constructor
  · cases e : G a with
    | none => rfl
    | some o => have := v.gh a o e; rw [h] at this; cases this
  · cases e : S a with
    | none => rfl
    | some o => obtain ⟨_, u, hu, _⟩ := v.st a o e; rw [h] at hu; cases hu
/-- a thing that nobody tells of is laid, or changed -/
theorem Aft.junk (x : Aft K G S H S1 H1 G1) {a : Addr} {u : HO} (h : H a = Option.none) (hs : S1 a = Option.none) (hg : G1 a = Option.none) : Aft K G S H S1 (upd H1 a u) G1 := by
  refine ⟨fun b o hb e => ?_, x.gg, ⟨fun b o e => ?_, fun b o e => ?_⟩⟩
  · obtain ⟨e1, h1, g1⟩ := x.fr b o hb e
    exact ⟨by rw [upd_ne (ne_of_none e h)]; exact e1, h1, g1⟩
  · have hb : b ≠ a := by intro z; subst z; rw [hg] at e; cases e
    rw [upd_ne hb]; exact x.vw.gh b o e
  · have hb : b ≠ a := by intro z; subst z; rw [hs] at e; cases e
    obtain ⟨g, w, hw, k⟩ := x.vw.st b o e
    exact ⟨g, w, by rw [upd_ne hb]; exact hw, k⟩
/-- a new frozen thing -/
theorem View.froze (v : View K G S H) {a : Addr} {o : HO} (h : H a = Option.none) : Aft K G S H S (upd H a o) (upd G a o) := by
  have n := v.none h
  refine ⟨fun b u hs e => ⟨by rw [upd_ne (ne_of_none e h)]; exact e, hs, by rw [upd_ne (ne_of_none e h)]⟩, fun b u e => by rw [upd_ne (ne_of_none e n.1)]; exact e, ⟨fun b u e => ?_, fun b u e => ?_⟩⟩
  · by_cases hb : b = a
    · subst hb; rw [upd_same] at e ⊢; exact e
    · rw [upd_ne hb] at e ⊢; exact v.gh b u e
  · obtain ⟨g, x, hx, k⟩ := v.st b u e
    have hb : b ≠ a := by intro z; subst z; rw [n.2] at e; cases e
    refine ⟨by rw [upd_ne hb]; exact g, x, by rw [upd_ne hb]; exact hx, k.mono fun c w e => by rw [upd_ne (ne_of_none e n.1)]; exact e⟩
/-- a new thing of the store -/
theorem View.stored (v : View K G S H) {a : Addr} {o : SO} {u : HO} (h : H a = Option.none) (k : SOk K G o u) : Aft K G S H (supd S a o) (upd H a u) G := by
  have n := v.none h
  refine ⟨fun b x hs e => ?_, Same.refl G, ⟨fun b x e => ?_, fun b x e => ?_⟩⟩
  · have hb := ne_of_none e h
    exact ⟨by rw [upd_ne hb]; exact e, by rw [supd_ne hb]; exact hs, rfl⟩
  · have hb : b ≠ a := by intro z; subst z; rw [n.1] at e; cases e
    rw [upd_ne hb]; exact v.gh b x e
  · by_cases hb : b = a
    · subst hb; rw [supd_same] at e; cases e; exact ⟨n.1, u, upd_same, k⟩
    · rw [supd_ne hb] at e
      obtain ⟨g, x, hx, k⟩ := v.st b _ e
      exact ⟨g, x, by rw [upd_ne hb]; exact hx, k⟩
/-- a thing of the store is changed -/
theorem View.wrote (v : View K G S H) {a : Addr} {o o' : SO} {u : HO} (h : S a = some o) (k : SOk K G o' u) : Aft K G S H (supd S a o') (upd H a u) G := by
  obtain ⟨g, _⟩ := v.st a o h
  refine ⟨fun b x hs e => ?_, Same.refl G, ⟨fun b x e => ?_, fun b x e => ?_⟩⟩
  · have hb : b ≠ a := by intro z; subst z; rw [h] at hs; cases hs
    exact ⟨by rw [upd_ne hb]; exact e, by rw [supd_ne hb]; exact hs, rfl⟩
  · have hb : b ≠ a := by intro z; subst z; rw [g] at e; cases e
    rw [upd_ne hb]; exact v.gh b x e
  · by_cases hb : b = a
    · subst hb; rw [supd_same] at e; cases e; exact ⟨g, u, upd_same, k⟩
    · rw [supd_ne hb] at e
      obtain ⟨g, x, hx, k⟩ := v.st b _ e
      exact ⟨g, x, by rw [upd_ne hb]; exact hx, k⟩
/-- nothing of the store, but a smaller part of it is told -/
theorem View.drops (v : View K G S H) (h : ∀ a o, S1 a = some o → S a = some o) : Aft K G S H S1 H G := by
  refine ⟨fun b x hs e => ⟨e, ?_, rfl⟩, Same.refl G, ⟨v.gh, fun b x e => v.st b x (h b x e)⟩⟩
  cases q : S1 b with
  | none => rfl
  | some o => rw [h b o q] at hs; cases hs
/-- a thing of the store is frozen -/
theorem View.freezes (v : View K G S H) {a : Addr} {o : SO} {u : HO} (h : S a = some o) (hu : H a = some u) (hn : S1 a = Option.none) (hs : ∀ b x, S1 b = some x → S b = some x) : Aft K G S H S1 H (upd G a u) := by
  obtain ⟨g, _⟩ := v.st a o h
  have gg : Same G (upd G a u) := fun c w e => by rw [upd_ne (ne_of_none e g)]; exact e
  refine ⟨fun b x hS e => ⟨e, ?_, by rw [upd_ne (show b ≠ a from fun z => by subst z; rw [h] at hS; cases hS)]⟩, gg, ⟨fun b x e => ?_, fun b x e => ?_⟩⟩
  · cases q : S1 b with
    | none => rfl
    | some o => rw [hs b o q] at hS; cases hS
  · by_cases hb : b = a
    · subst hb; rw [upd_same] at e; cases e; exact hu
    · rw [upd_ne hb] at e; exact v.gh b x e
  · have hb : b ≠ a := by intro z; subst z; rw [hn] at e; cases e
    obtain ⟨g, x, hx, k⟩ := v.st b _ (hs b _ e)
    exact ⟨by rw [upd_ne hb]; exact g, x, hx, k.mono gg⟩
end
abbrev Sl := List (Option D)
def REnv (K : PySem.W.Frag) (G : Hp) (σ : St) (ρ : Sl) : Prop := σ.length = ρ.length ∧ ∀ (i : Nat) (d : D), ρ[i]? = some (some d) → ∃ v, σ[i]? = some (some v) ∧ Rp K G v d
section
variable {K : PySem.W.Frag} {G G' : Hp} {σ : St} {ρ : Sl}
theorem REnv.mono (e : Same G G') (r : REnv K G σ ρ) : REnv K G' σ ρ := ⟨r.1, fun i d h => let ⟨v, h1, h2⟩ := r.2 i d h; ⟨v, h1, h2.mono e⟩⟩
theorem REnv.set {i : Nat} {v : V} {d : D} (r : REnv K G σ ρ) (h : Rp K G v d) : REnv K G (σ.set i (some v)) (ρ.set i (some d)) := by
  refine ⟨by rw [List.length_set, List.length_set]; exact r.1, fun j e hj => ?_⟩
  by_cases hi : i = j
  · subst hi
    rw [List.getElem?_set] at hj ⊢
    simp only [if_pos] at hj ⊢
    by_cases hl : i < ρ.length
    · rw [if_pos hl] at hj
      rw [if_pos (by rw [r.1]; exact hl)]
      cases hj
      exact ⟨v, rfl, h⟩
    · rw [if_neg hl] at hj; cases hj
  · rw [List.getElem?_set_ne hi] at hj ⊢
    exact r.2 j e hj
theorem REnv.unset {i : Nat} (r : REnv K G σ ρ) : REnv K G (σ.set i none) (ρ.set i none) := by
  refine ⟨by rw [List.length_set, List.length_set]; exact r.1, fun j e hj => ?_⟩
  by_cases hi : i = j
  · subst hi
    rw [List.getElem?_set] at hj
    simp only [if_pos] at hj
    split at hj <;> cases hj
  · rw [List.getElem?_set_ne hi] at hj ⊢
    exact r.2 j e hj
def wipeD (ρ : Sl) : List Nat → Sl
  | [] => ρ
  | v :: vs => (wipeD ρ vs).set v none
theorem REnv.wipe (r : REnv K G σ ρ) : ∀ vs : List Nat, REnv K G (L2.wipe σ vs) (wipeD ρ vs)
  | [] => r
  | v :: vs => (r.wipe vs).unset
def setAll (σ : List (Option α)) : List Nat → List α → List (Option α)
  | i :: is, d :: ds => setAll (σ.set i (some d)) is ds
  | _, _ => σ
theorem REnv.setAll : ∀ {is : List Nat} {vs : List V} {ds : List D} {σ : St} {ρ : Sl}, REnv K G σ ρ → RpL K G vs ds → REnv K G (VL.setAll σ is vs) (VL.setAll ρ is ds)
  | [], _, _, _, _, r, .nil => r
  | [], _, _, _, _, r, .cons _ _ => r
  | _ :: _, _, _, _, _, r, .nil => r
  | i :: is, _, _, _, _, r, .cons h t => (REnv.setAll (is := is) (r.set h) t)
/-- what stands in a slot -/
def gv : Sl → Nat → Option D
  | [], _ => none
  | x :: _, 0 => x
  | _ :: r, n + 1 => gv r n
theorem gv_eq : ∀ {ρ : Sl} {i : Nat} {d : D}, gv ρ i = some d → ρ[i]? = some (some d)
  | [], _, _, h => by simp [gv] at h
  | x :: r, 0, d, h => by simp only [gv] at h; simp [h]
  | x :: r, n + 1, d, h => by simp only [gv] at h; simpa using gv_eq h
end
abbrev VE := Sl → Store → (D → Store → Prop) → Prop
abbrev VT := Sl → Store → (Bool → Store → Prop) → Prop
abbrev VA := Sl → Store → (List D → Store → Prop) → Prop
structure VEnds where
  nx : Sl → Store → Prop
  rt : D → Store → Prop
  bk : Sl → Store → Prop := fun _ _ => False
  ct : Sl → Store → Prop := fun _ _ => False
abbrev VS := VEnds → Sl → Store → Prop
def LE (K : PySem.W.Frag) (m : VE) : TE := fun σ H Q' => ∃ ρ S G Q, View K G S H ∧ REnv K G σ ρ ∧ m ρ S Q ∧ ∀ d S' v H' G', Aft K G S H S' H' G' → Rp K G' v d → Q d S' → Q' v H'
def LT (K : PySem.W.Frag) (m : VT) : TT := fun σ H Q' => ∃ ρ S G Q, View K G S H ∧ REnv K G σ ρ ∧ m ρ S Q ∧ ∀ b S' H' G', Aft K G S H S' H' G' → Q b S' → Q' b H'
def LA (K : PySem.W.Frag) (m : VA) : TA := fun σ H Q' => ∃ ρ S G Q, View K G S H ∧ REnv K G σ ρ ∧ m ρ S Q ∧ ∀ ds S' vs H' G', Aft K G S H S' H' G' → RpL K G' vs ds → Q ds S' → Q' vs H'
structure EndsOk (K : PySem.W.Frag) (G : Hp) (S : Store) (H : Hp) (E : VEnds) (D' : Ends) : Prop where
  nx : ∀ ρ S' σ H' G', Aft K G S H S' H' G' → REnv K G' σ ρ → E.nx ρ S' → D'.nx σ H'
  rt : ∀ d S' v H' G', Aft K G S H S' H' G' → Rp K G' v d → E.rt d S' → D'.rt v H'
  bk : ∀ ρ S' σ H' G', Aft K G S H S' H' G' → REnv K G' σ ρ → E.bk ρ S' → D'.bk σ H'
  ct : ∀ ρ S' σ H' G', Aft K G S H S' H' G' → REnv K G' σ ρ → E.ct ρ S' → D'.ct σ H'
theorem EndsOk.after {K : PySem.W.Frag} {G : Hp} {S : Store} {H : Hp} {E : VEnds} {D' : Ends} {S1 : Store} {H1 G1 : Hp} (o : EndsOk K G S H E D') (a : Aft K G S H S1 H1 G1) : EndsOk K G1 S1 H1 E D' :=
  ⟨fun _ _ _ _ _ b => o.nx _ _ _ _ _ (a.trans b), fun _ _ _ _ _ b => o.rt _ _ _ _ _ (a.trans b), fun _ _ _ _ _ b => o.bk _ _ _ _ _ (a.trans b), fun _ _ _ _ _ b => o.ct _ _ _ _ _ (a.trans b)⟩
def LS (K : PySem.W.Frag) (m : VS) : TS := fun D' σ H => ∃ ρ S G E, View K G S H ∧ REnv K G σ ρ ∧ m E ρ S ∧ EndsOk K G S H E D'
section
variable {X : Cx}
theorem PE.imp {e : Expr} {t t' : TE} (h : PE X e t) (i : ∀ σ H Q, t' σ H Q → t σ H Q) : PE X e t' := ⟨fun pins s σ H Q I q => h.run pins s σ H Q I (i σ H Q q)⟩
theorem PT.imp {e : Expr} {t t' : TT} (h : PT X e t) (i : ∀ σ H Q, t' σ H Q → t σ H Q) : PT X e t' := ⟨fun pins s σ H Q I q => h.run pins s σ H Q I (i σ H Q q)⟩
theorem PW.imp {e : Expr} {t t' : TT} (h : PW X e t) (i : ∀ σ H Q, t' σ H Q → t σ H Q) : PW X e t' := ⟨fun w pins s σ H Q I q => h.run w pins s σ H Q I (i σ H Q q)⟩
theorem PA.imp {e : List Expr} {t t' : TA} (h : PA X e t) (i : ∀ σ H Q, t' σ H Q → t σ H Q) : PA X e t' := ⟨fun p pins s σ H Q I q => h.run p pins s σ H Q I (i σ H Q q)⟩
theorem PS.imp {e : Stmt} {t t' : TS} (h : PS X e t) (i : ∀ D σ H, t' D σ H → t D σ H) : PS X e t' := ⟨fun pins s σ H D I q => h.run pins s σ H D I (i D σ H q)⟩
theorem PSs.imp {e : List Stmt} {t t' : TS} (h : PSs X e t) (i : ∀ D σ H, t' D σ H → t D σ H) : PSs X e t' := ⟨fun pins s σ H D I q => h.run pins s σ H D I (i D σ H q)⟩
end
end VL
set_option maxHeartbeats 2000000
namespace VL
open PySem PySem.Spec L2
open PyProof.Rows hiding St
section
variable {X : Cx}
def mVar (i : Nat) : VE := fun ρ S Q => match gv ρ i with
  | some d => Q d S
  | none => False
theorem v_var (i : Nat) {x : Str} {pos : Pos} (hN : X.N[i]? = some x := by rfl) (hv : Vis X.env.scope x := by first | exact Or.inl rfl | exact Or.inr (Or.inl rfl) | exact Or.inr (Or.inr rfl)) (hd : (x == ("__debug__" : Str)) = false := by decide)
    (hcd : (x == ("__classdict__" : Str)) = false := by decide) : PE X (.Name x pos) (LE X.K (mVar i)) := by
  refine PE.imp (pe_var hN hv hd hcd) fun σ H Q' ⟨ρ, S, G, Q, vw, re, hm, k⟩ => ?_
  unfold mVar at hm
  cases e : gv ρ i with
  | none => rw [e] at hm; exact hm.elim
  | some d =>
    rw [e] at hm
    obtain ⟨v, hv, r⟩ := re.2 i d (gv_eq e)
    exact ⟨v, hv, k d S v H G (Aft.refl vw) r hm⟩
def mC (d : D) : VE := fun _ S Q => Q d S
theorem v_c {e : Expr} {v : V} {d : D} (h : PE X e (tC v)) (r : ∀ G, Rp X.K G v d) : PE X e (LE X.K (mC d)) :=
  PE.imp h fun σ H Q' ⟨ρ, S, G, Q, vw, re, hm, k⟩ => k d S v H G (Aft.refl vw) (r G) hm
theorem v_int {i j pos} : PE X (.Constant (.int i) j pos) (LE X.K (mC (.int i))) := v_c pe_int fun _ => .int i
theorem v_bl {b j pos} : PE X (.Constant (.bool b) j pos) (LE X.K (mC (.bl b))) := v_c pe_bl fun _ => .bl b
theorem v_non {j pos} : PE X (.Constant .none j pos) (LE X.K (mC .non)) := v_c pe_non fun _ => .non
abbrev R2V := D → D → Store → (D → Store → Prop) → Prop
def LR2 (K : PySem.W.Frag) (r : R2) (m : R2V) : Prop := ∀ (x y : D) (v1 v2 : V) (G : Hp) (S : Store) (H : Hp) (Q : D → Store → Prop) (Q' : VK), View K G S H → Rp K G v1 x → Rp K G v2 y → m x y S Q →
  (∀ d S' v H' G', Aft K G S H S' H' G' → Rp K G' v d → Q d S' → Q' v H') → r v1 v2 H Q'
def OpV (X : Cx) (f : Value → Value → Sem Value) (m : R2V) : Prop := ∃ r, OpR X f r ∧ LR2 X.K r m
def mOp (m : R2V) (ma mb : VE) : VE := fun ρ S Q => ma ρ S fun x S1 => mb ρ S1 fun y S2 => m x y S2 Q
theorem le_op {K : PySem.W.Frag} {r : R2} {m : R2V} {ma mb : VE} (h : LR2 K r m) (σ : St) (H : Hp) (Q' : VK) (q : LE K (mOp m ma mb) σ H Q') : tOp r (LE K ma) (LE K mb) σ H Q' := by
  obtain ⟨ρ, S, G, Q, vw, re, hm, k⟩ := q
  refine ⟨ρ, S, G, _, vw, re, hm, fun x S1 v1 H1 G1 a1 r1 h1 => ?_⟩
  refine ⟨ρ, S1, G1, _, a1.vw, re.mono a1.gg, h1, fun y S2 v2 H2 G2 a2 r2 h2 => ?_⟩
  exact h x y v1 v2 G2 S2 H2 Q Q' a2.vw (r1.mono a2.gg) r2 h2 fun d S' v H' G' a3 r3 q => k d S' v H' G' (a1.trans (a2.trans a3)) r3 q
theorem v_op {op : Operator} {m : R2V} {a b : Expr} {ma mb : VE} {pos : Pos} (ho : OpV X (binaryOp op) m) (ha : PE X a (LE X.K ma)) (hb : PE X b (LE X.K mb)) : PE X (.BinOp a op b pos) (LE X.K (mOp m ma mb)) := by
  obtain ⟨r, h1, h2⟩ := ho
  exact PE.imp (pe_op h1 ha hb) fun σ H Q' q => le_op h2 σ H Q' q
theorem v_ix {m : R2V} {r : R2} {a b : Expr} {ma mb : VE} {pos : Pos} (h1 : IxR X r) (h2 : LR2 X.K r m) (ha : PE X a (LE X.K ma)) (hb : PE X b (LE X.K mb)) (hs : PlainIx b := by exact fun _ _ => rfl) : PE X (.Subscript a b pos) (LE X.K (mOp m ma mb)) :=
  PE.imp (pe_ix h1 ha hb hs) fun σ H Q' q => le_op h2 σ H Q' q
/-- two ints, under C -/
def mNum (C : Int → Int → Prop) (g : Int → Int → D) : R2V := fun x y S Q => match x, y with
  | .int i, .int j => C i j ∧ Q (g i j) S
  | _, _ => False
theorem LR2.num {K : PySem.W.Frag} {C : Int → Int → Prop} {g : Int → Int → V} {g' : Int → Int → D} (hg : ∀ i j G, Rp K G (g i j) (g' i j)) : LR2 K (rI C g) (mNum C g') := by
  intro x y v1 v2 G S H Q Q' vw r1 r2 h k
  cases r1 <;> try exact h.elim
  cases r2 <;> try exact h.elim
  rename_i i j
  exact ⟨i, j, rfl, rfl, h.1, k _ S _ H G (Aft.refl vw) (hg i j G) h.2⟩
theorem rI_of0 {f : Value → Value → Sem Value} {g : Int → Int → V} (h : OpR X f (rI0 g)) : OpR X f (rI (fun _ _ => True) g) := fun pins s σ H x y v u Q I r1 r2 ⟨i, j, e1, e2, _, q⟩ => h pins s σ H x y v u Q I r1 r2 ⟨i, j, e1, e2, q⟩
def mInt0 (g : Int → Int → D) : R2V := fun x y S Q => match x, y with
  | .int i, .int j => Q (g i j) S
  | _, _ => False
theorem LR2.int0 {K : PySem.W.Frag} {g : Int → Int → V} {g' : Int → Int → D} (hg : ∀ i j G, Rp K G (g i j) (g' i j)) : LR2 K (rI0 g) (mInt0 g') := by
  intro x y v1 v2 G S H Q Q' vw r1 r2 h k
  cases r1 <;> try exact h.elim
  cases r2 <;> try exact h.elim
  rename_i i j
  exact ⟨i, j, rfl, rfl, k _ S _ H G (Aft.refl vw) (hg i j G) h⟩
theorem ov_sub : OpV X (binaryOp .Sub) (mInt0 fun i j => .int (i - j)) := ⟨_, op_sub, .int0 fun _ _ _ => .int _⟩
theorem ov_fdiv : OpV X (binaryOp .FloorDiv) (mNum CDivW fun i j => .int (i / j)) := ⟨_, op_fdivW, .num fun _ _ _ => .int _⟩
theorem ov_mod : OpV X (binaryOp .Mod) (mNum (fun _ j => 0 < j) fun i j => .int (i % j)) := ⟨_, op_mod, .num fun _ _ _ => .int _⟩
theorem ov_pow : OpV X (binaryOp .Pow) (mNum CPow fun i j => .int (i ^ j.toNat)) := ⟨_, op_pow, .num fun _ _ _ => .int _⟩
theorem ov_lt : OpV X (compareOp .Lt) (mInt0 fun i j => .bl (decide (i < j))) := ⟨_, op_lt, .int0 fun _ _ _ => .bl _⟩
theorem ov_gt : OpV X (compareOp .Gt) (mInt0 fun i j => .bl (decide (j < i))) := ⟨_, op_gt, .int0 fun _ _ _ => .bl _⟩
/-- a list, frozen or of the store -/
def rdL (d : D) (S : Store) : Option (List D) := match d with
  | .lst ds => some ds
  | .ref a => match S a with
    | some (.lst ds) => some ds
    | _ => none
  | _ => none
theorem rdL_ok {K : PySem.W.Frag} {G H : Hp} {S : Store} {d : D} {v : V} {ds : List D} (vw : View K G S H) (r : Rp K G v d) (h : rdL d S = some ds) : ∃ a xs, v = .ref a ∧ H a = some (.lst xs) ∧ RpL K G xs ds := by
  cases r with
  | lst e r => simp only [rdL, Option.some.injEq] at h; subst h; exact ⟨_, _, rfl, vw.gh _ _ e, r⟩
  | ref a =>
    simp only [rdL] at h
    split at h
    · rename_i ds' e
      cases h
      obtain ⟨_, u, hu, k⟩ := vw.st a _ e
      cases k with
      | lst r => exact ⟨a, _, rfl, hu, r⟩
    · cases h
  | _ => simp [rdL] at h
/-- a list or a read-only one -/
def rdR (d : D) (S : Store) : Option (List D) := match d with
  | .ro ds => some ds
  | d => rdL d S
theorem rdR_ok {K : PySem.W.Frag} {G H : Hp} {S : Store} {d : D} {v : V} {ds : List D} (vw : View K G S H) (r : Rp K G v d) (h : rdR d S = some ds) : ∃ a xs, v = .ref a ∧ SqL K H a xs ∧ RpL K G xs ds := by
  have main : ∀ {d : D}, Rp K G v d → rdL d S = some ds → ∃ a xs, v = .ref a ∧ SqL K H a xs ∧ RpL K G xs ds := fun r h => by
    obtain ⟨a, xs, e, q, l⟩ := rdL_ok vw r h
    exact ⟨a, xs, e, SqL.of q, l⟩
  cases r with
  | ro e r => simp only [rdR, Option.some.injEq] at h; subst h; exact ⟨_, _, rfl, vw.gh.seq e, r⟩
  | non => exact main .non h
  | bl b => exact main (.bl b) h
  | int i => exact main (.int i) h
  | str x => exact main (.str x) h
  | ref a => exact main (.ref a) h
  | tup e r => exact main (.tup e r) h
  | lst e r => exact main (.lst e r) h
  | dct e r => exact main (.dct e r) h
/-- a + b: ints, texts, tuples, lists (a new frozen list) -/
def mAdd : R2V := fun x y S Q => match x, y with
  | .int i, .int j => Q (.int (i + j)) S
  | .str i, .str j => i.length + j.length ≤ sizeLine ∧ Q (.str (i ++ j)) S
  | .tup a, .tup b => a.length + b.length ≤ sizeLine ∧ Q (.tup (a ++ b)) S
  | x, y => match rdL x S, rdL y S with
    | some a, some b => a.length + b.length ≤ sizeLine ∧ Q (.lst (a ++ b)) S
    | _, _ => False
end
end VL
set_option maxHeartbeats 2000000
namespace VL
open PySem PySem.Spec L2
open PyProof.Rows hiding St
section
variable {X : Cx}
theorem ov_add : OpV X (binaryOp .Add) mAdd := by
  refine ⟨_, (rI_of0 op_add).or (op_add_str.or (op_catA.or op_cat)), ?_⟩
  intro x y v1 v2 G S H Q Q' vw r1 r2 h k
  unfold mAdd at h
  split at h
  · cases r1; cases r2
    exact .inl ⟨_, _, rfl, rfl, trivial, k _ S _ H G (Aft.refl vw) (.int _) h⟩
  · cases r1; cases r2
    exact .inr (.inl ⟨_, _, rfl, rfl, h.1, k _ S _ H G (Aft.refl vw) (.str _) h.2⟩)
  · cases r1 with
    | @tup a xs _ e1 l1 =>
    cases r2 with
    | @tup b ys _ e2 l2 =>
    obtain ⟨hz, q⟩ := h
    refine .inr (.inr (.inl ⟨a, b, xs, ys, rfl, rfl, same_t vw.gh e1, same_t vw.gh e2, by rw [l1.length, l2.length]; exact hz, fun z => ?_, fun n z => ?_, fun _ _ p hp => ?_⟩))
    · subst z; cases l1; exact k _ S _ H G (Aft.refl vw) (.tup e2 l2) q
    · subst z; cases l2; exact k _ S _ H G (Aft.refl vw) (.tup e1 (by simpa using l1)) q
    · have a3 := vw.froze (o := .tup (xs ++ ys)) hp
      exact k _ S _ _ _ a3 (.tup (SqT.of upd_same) ((l1.append l2).mono a3.gg)) q
  · split at h
    · rename_i a b e1 e2
      obtain ⟨p, xs, rfl, h1, l1⟩ := rdL_ok vw r1 e1
      obtain ⟨q, ys, rfl, h2, l2⟩ := rdL_ok vw r2 e2
      refine .inr (.inr (.inr ⟨p, q, xs, ys, rfl, rfl, h1, h2, by rw [l1.length, l2.length]; exact h.1, fun t ht => ?_⟩))
      have a3 := vw.froze (o := .lst (xs ++ ys)) ht
      exact k _ S _ _ _ a3 (.lst upd_same ((l1.append l2).mono a3.gg)) h.2
    · exact h.elim
/-- a * b: ints, a list and an int (a new frozen list) -/
def mMul : R2V := fun x y S Q => match x, y with
  | .int i, .int j => CMul i j ∧ Q (.int (i * j)) S
  | x, .int k => match rdL x S with
    | some ds => -(2 ^ 63) ≤ k ∧ k < 2 ^ 63 ∧ ds.length * k.toNat ≤ sizeLine ∧ Q (.lst (List.replicate k.toNat ds).flatten) S
    | none => False
  | _, _ => False
theorem RpL.flat {K : PySem.W.Frag} {G : Hp} {xs : List V} {ds : List D} (r : RpL K G xs ds) : ∀ n : Nat, RpL K G (List.replicate n xs).flatten (List.replicate n ds).flatten
  | 0 => .nil
  | n + 1 => by rw [List.replicate_succ, List.replicate_succ, List.flatten_cons, List.flatten_cons]; exact r.append (r.flat n)
theorem ov_mulL : OpV X (binaryOp .Mult) mMul := by
  refine ⟨_, op_mul.or op_rep, ?_⟩
  intro x y v1 v2 G S H Q Q' vw r1 r2 h k
  unfold mMul at h
  split at h
  · cases r1; cases r2
    exact .inl ⟨_, _, rfl, rfl, h.1, k _ S _ H G (Aft.refl vw) (.int _) h.2⟩
  · split at h
    · rename_i j _ _ ds e1
      obtain ⟨p, xs, rfl, h1, l1⟩ := rdL_ok vw r1 e1
      cases r2
      refine .inr ⟨p, _, xs, rfl, rfl, h1, h.1, h.2.1, by rw [l1.length]; exact h.2.2.1, fun t ht => ?_⟩
      have a3 := vw.froze (o := .lst (List.replicate j.toNat xs).flatten) ht
      exact k _ S _ _ _ a3 (.lst upd_same ((l1.flat _).mono a3.gg)) h.2.2.2
    · exact h.elim
  · exact h.elim
mutual
def py : D → PyData
  | .non => .none | .bl b => .bool b | .int i => .int i | .str s => .str s
  | .tup ds => .tuple (pyL ds) | .lst ds => .list (pyL ds) | .ro ds => .list (pyL ds) | .dct _ => .dict [] | .ref _ => .dict []
def pyL : List D → List PyData
  | [] => []
  | d :: ds => py d :: pyL ds
end
mutual
theorem dp_of {K : PySem.W.Frag} {G H : Hp} (g : Same G H) : ∀ (d : D) {v : V}, (py d).canLay0 = true → Rp K G v d → Dp K H v (py d)
  | .non, _, _, .non => .non
  | .bl _, _, _, .bl _ => .bl _
  | .int _, _, _, .int _ => .int _
  | .str _, _, _, .str _ => .str _
  | .tup ds, _, c, .tup h r => .tup (same_t g h) (dpAll_of g ds (by simpa [py, PyData.canLay0] using c) r)
  | .lst ds, _, c, .lst h r => .lst (SqL.of (g _ _ h)) (dpAll_of g ds (by simpa [py, PyData.canLay0] using c) r)
  | .ro ds, _, c, .ro h r => .lst (g.seq h) (dpAll_of g ds (by simpa [py, PyData.canLay0] using c) r)
  | .dct _, _, c, _ => by simp [py, PyData.canLay0] at c
  | .ref _, _, c, _ => by simp [py, PyData.canLay0] at c
theorem dpAll_of {K : PySem.W.Frag} {G H : Hp} (g : Same G H) : ∀ (ds : List D) {vs : List V}, PyData.canLayAll0 (pyL ds) = true → RpL K G vs ds → DpAll K H vs (pyL ds)
  | [], _, _, .nil => .nil
  | d :: ds, _, c, .cons h t => by
    have c' : (py d).canLay0 = true ∧ PyData.canLayAll0 (pyL ds) = true := by simpa [pyL, PyData.canLayAll0] using c
    exact .cons (dp_of g d c'.1 h) (dpAll_of g ds c'.2 t)
end
/-- what stands at an address of the store, where it is a list -/
def rsv (S : Store) (d : D) : D := match d with
  | .ref a => match S a with
    | some (.lst ds) => .lst ds
    | _ => d
  | d => d
theorem dp_rsv {K : PySem.W.Frag} {G H : Hp} {S : Store} {d : D} {v : V} (vw : View K G S H) (c : (py (rsv S d)).canLay0 = true) (r : Rp K G v d) : Dp K H v (py (rsv S d)) := by
  cases d with
  | ref a =>
    cases r
    cases e : S a with
    | none => simp [rsv, e, py, PyData.canLay0] at c
    | some o =>
      obtain ⟨_, u, hu, k⟩ := vw.st a _ e
      cases k with
      | lst r =>
        simp only [rsv, e] at c ⊢
        exact .lst (SqL.of hu) (dpAll_of vw.gh _ (by simpa [py, PyData.canLay0] using c) r)
      | dct r => simp [rsv, e, py, PyData.canLay0] at c
      | _ => simp [rsv, e, py, PyData.canLay0] at c
  | non => exact dp_of vw.gh _ c r
  | bl b => exact dp_of vw.gh _ c r
  | int b => exact dp_of vw.gh _ c r
  | str b => exact dp_of vw.gh _ c r
  | tup b => exact dp_of vw.gh _ c r
  | lst b => exact dp_of vw.gh _ c r
  | ro b => exact dp_of vw.gh _ c r
  | dct b => exact dp_of vw.gh _ c r
def okq (S : Store) (d : D) : Prop := SeqAt.shaped (py (rsv S d)) = true
def eqq (S : Store) (x y : D) : Bool := PyData.eqv (py (rsv S x)) (py (rsv S y))
def mEq : R2V := fun x y S Q => match x, y with
  | .str a, .str b => Q (.bl (decide (a = b))) S
  | x, y => okq S x ∧ okq S y ∧ Q (.bl (eqq S x y)) S
def mNe : R2V := fun x y S Q => match x, y with
  | .str a, .str b => Q (.bl (!decide (a = b))) S
  | x, y => okq S x ∧ okq S y ∧ Q (.bl (!eqq S x y)) S
theorem decS {a b : Str} : decide (V.str a = V.str b) = decide (a = b) := by
  by_cases h : a = b
  · subst h; simp
  · simp [h]
theorem ov_eq (hu : X.A.units + 64 < cLine) : OpV X (compareOp .Eq) mEq := by
  refine ⟨_, (op_eqD hu).or op_eq, ?_⟩
  intro x y v1 v2 G S H Q Q' vw r1 r2 h k
  unfold mEq at h
  split at h
  · cases r1; cases r2
    exact .inr ⟨rfl, k _ S _ H G (Aft.refl vw) (.bl _) (by rw [decS]; exact h)⟩
  · exact .inl ⟨_, _, dp_rsv vw (SeqAt.canLay_of_shaped h.1) r1, dp_rsv vw (SeqAt.canLay_of_shaped h.2.1) r2, h.1, h.2.1, k _ S _ H G (Aft.refl vw) (.bl _) h.2.2⟩
theorem ov_ne (hu : X.A.units + 64 < cLine) : OpV X (compareOp .NotEq) mNe := by
  refine ⟨_, (op_neD hu).or op_ne, ?_⟩
  intro x y v1 v2 G S H Q Q' vw r1 r2 h k
  unfold mNe at h
  split at h
  · cases r1; cases r2
    exact .inr ⟨rfl, k _ S _ H G (Aft.refl vw) (.bl _) (by rw [decS]; exact h)⟩
  · exact .inl ⟨_, _, dp_rsv vw (SeqAt.canLay_of_shaped h.1) r1, dp_rsv vw (SeqAt.canLay_of_shaped h.2.1) r2, h.1, h.2.1, k _ S _ H G (Aft.refl vw) (.bl _) h.2.2⟩
/-- the items of what stands in a row -/
def rdS (d : D) (S : Store) : Option (List D) := match d with
  | .tup ds => some ds
  | d => rdR d S
theorem rdS_ok {K : PySem.W.Frag} {G H : Hp} {S : Store} {d : D} {v : V} {ds : List D} (vw : View K G S H) (r : Rp K G v d) (h : rdS d S = some ds) : ∃ a xs, v = .ref a ∧ (SqL K H a xs ∨ SqT K H a xs) ∧ RpL K G xs ds := by
  have main : rdR d S = some ds → ∃ a xs, v = .ref a ∧ (SqL K H a xs ∨ SqT K H a xs) ∧ RpL K G xs ds := fun h => by
    obtain ⟨a, xs, e, q, l⟩ := rdR_ok vw r h
    exact ⟨a, xs, e, .inl q, l⟩
  cases d with
  | tup es =>
    simp only [rdS, Option.some.injEq] at h
    subst h
    cases r with
    | tup ht l => exact ⟨_, _, rfl, .inr (same_t vw.gh ht), l⟩
  | non => exact main h
  | bl => exact main h
  | int => exact main h
  | str => exact main h
  | lst => exact main h
  | ro => exact main h
  | dct => exact main h
  | ref => exact main h
def mIx : R2V := fun x y S Q => match x, y with
  | .str z, .int i => z.length ≤ sizeLine ∧ (match atI z.cps.toList i with
    | some c => Q (.str ⟨#[c]⟩) S
    | none => False)
  | x, .int i => match rdS x S with
    | some ds => (match atI ds i with
      | some d => Q d S
      | none => False)
    | none => False
  | _, _ => False
theorem RpL.atI {K : PySem.W.Frag} {G : Hp} {xs : List V} {ds : List D} {i : Int} {d : D} (r : RpL K G xs ds) (h : L2.atI ds i = some d) : ∃ v, L2.atI xs i = some v ∧ Rp K G v d := by
  unfold L2.atI at h ⊢
  rw [r.length]
  cases e : ixN ds.length i with
  | none => rw [e] at h; cases h
  | some j =>
    rw [e] at h
    exact r.get h
theorem lr_ix : LR2 X.K (rIx X.K) mIx := by
  intro x y v1 v2 G S H Q Q' vw r1 r2 h k
  unfold mIx at h
  split at h
  · cases r1; cases r2
    obtain ⟨hz, h⟩ := h
    split at h
    · rename_i c e
      exact .inr (.inr ⟨_, _, c, rfl, rfl, hz, e, k _ S _ H G (Aft.refl vw) (.str _) h⟩)
    · exact h.elim
  · cases r2
    split at h
    · rename_i ds e
      split at h
      · rename_i d e2
        obtain ⟨a, xs, ev, q, l⟩ := rdS_ok vw r1 e
        obtain ⟨v, hv, rv⟩ := l.atI e2
        rcases q with q | q
        · exact .inl ⟨_, _, _, v, ev, rfl, q, hv, k d S v H G (Aft.refl vw) rv h⟩
        · exact .inr (.inl ⟨_, _, _, v, ev, rfl, q, hv, k d S v H G (Aft.refl vw) rv h⟩)
      · exact h.elim
    · exact h.elim
  · exact h.elim
theorem v_sub {a b : Expr} {ma mb : VE} {pos : Pos} (ha : PE X a (LE X.K ma)) (hb : PE X b (LE X.K mb)) (hs : PlainIx b := by exact fun _ _ => rfl) : PE X (.Subscript a b pos) (LE X.K (mOp mIx ma mb)) := v_ix ix_seq lr_ix ha hb hs
def mNil : VA := fun _ S Q => Q [] S
def mCons (m : VE) (ms : VA) : VA := fun ρ S Q => m ρ S fun d S1 => ms ρ S1 fun ds S2 => Q (d :: ds) S2
theorem a_nil : PA X [] (LA X.K mNil) := PA.imp pa_nil fun σ H Q' ⟨ρ, S, G, Q, vw, re, hm, k⟩ => k [] S [] H G (Aft.refl vw) .nil hm
theorem a_cons {e : Expr} {es : List Expr} {m : VE} {ms : VA} (ha : PE X e (LE X.K m)) (hr : PA X es (LA X.K ms)) (hs : starEach (e :: es) X.env = (false, eval e X.env) :: starEach es X.env := by rfl) : PA X (e :: es) (LA X.K (mCons m ms)) := by
  refine PA.imp (pa_cons ha hr hs) fun σ H Q' ⟨ρ, S, G, Q, vw, re, hm, k⟩ => ?_
  refine ⟨ρ, S, G, _, vw, re, hm, fun d S1 v1 H1 G1 a1 r1 h1 => ?_⟩
  refine ⟨ρ, S1, G1, _, a1.vw, re.mono a1.gg, h1, fun ds S2 vs H2 G2 a2 r2 h2 => ?_⟩
  exact k _ S2 _ H2 G2 (a1.trans a2) (.cons (r1.mono a2.gg) r2) h2
/-- (a, b); [a, b] frozen; [a, b] of the store -/
def mTup (ms : VA) : VE := fun ρ S Q => ms ρ S fun ds S1 => ds.length ≤ sizeLine ∧ Q (.tup ds) S1
def mLst (ms : VA) : VE := fun ρ S Q => ms ρ S fun ds S1 => ds.length ≤ sizeLine ∧ Q (.lst ds) S1
def mLstM (ms : VA) : VE := fun ρ S Q => ms ρ S fun ds S1 => ds.length ≤ sizeLine ∧ ∀ a, S1 a = none → Q (.ref a) (supd S1 a (.lst ds))
theorem v_tup {es : List Expr} {ms : VA} {x1 : Nat} {pos : Pos} (h : PA X es (LA X.K ms)) : PE X (.Tuple es x1 pos) (LE X.K (mTup ms)) := by
  refine PE.imp (pe_tup h) fun σ H Q' ⟨ρ, S, G, Q, vw, re, hm, k⟩ => ?_
  refine ⟨ρ, S, G, _, vw, re, hm, fun ds S1 vs H1 G1 a1 r1 h1 => ⟨by rw [r1.length]; exact h1.1, fun p hp => ?_⟩⟩
  have a2 := a1.vw.froze (o := .tup vs) hp
  exact k _ S1 _ _ _ (a1.trans a2) (.tup (SqT.of upd_same) (r1.mono a2.gg)) h1.2
theorem v_lst {es : List Expr} {ms : VA} {pos : Pos} (h : PA X es (LA X.K ms)) : PE X (.List es pos) (LE X.K (mLst ms)) := by
  refine PE.imp (pe_lst h) fun σ H Q' ⟨ρ, S, G, Q, vw, re, hm, k⟩ => ?_
  refine ⟨ρ, S, G, _, vw, re, hm, fun ds S1 vs H1 G1 a1 r1 h1 => ⟨by rw [r1.length]; exact h1.1, fun p hp => ?_⟩⟩
  have a2 := a1.vw.froze (o := .lst vs) hp
  exact k _ S1 _ _ _ (a1.trans a2) (.lst upd_same (r1.mono a2.gg)) h1.2
theorem v_lstM {es : List Expr} {ms : VA} {pos : Pos} (h : PA X es (LA X.K ms)) : PE X (.List es pos) (LE X.K (mLstM ms)) := by
  refine PE.imp (pe_lst h) fun σ H Q' ⟨ρ, S, G, Q, vw, re, hm, k⟩ => ?_
  refine ⟨ρ, S, G, _, vw, re, hm, fun ds S1 vs H1 G1 a1 r1 h1 => ⟨by rw [r1.length]; exact h1.1, fun p hp => ?_⟩⟩
  have a2 := a1.vw.stored (o := .lst ds) (u := .lst vs) hp (.lst r1)
  exact k _ _ _ _ _ (a1.trans a2) (.ref p) (h1.2 p (a1.vw.none hp).2)
def mTest (m : VE) : VT := fun ρ S Q => m ρ S fun d S1 => match d with
  | .bl b => Q b S1
  | _ => False
theorem lt_B {K : PySem.W.Frag} {m : VE} {σ : L2.St} {H : Hp} {Q' : Bool → Hp → Prop} (q : LT K (mTest m) σ H Q') : LE K m σ H fun x H1 => ∃ c, x = .bl c ∧ Q' c H1 := by
  obtain ⟨ρ, S, G, Q, vw, re, hm, k⟩ := q
  refine ⟨ρ, S, G, _, vw, re, hm, fun d S1 v1 H1 G1 a1 r1 h1 => ?_⟩
  cases r1 <;> try exact h1.elim
  exact ⟨_, rfl, k _ S1 H1 G1 a1 h1⟩
/-- a value that is a truth, as a test -/
theorem t_val {e : Expr} {m : VE} (h : PE X e (LE X.K m)) (he : ∀ whole, isTrue e X.env whole = (do let v ← whole; standAt e.pos; holding [v] (truthy v)) := by intro _; rfl) : PT X e (LT X.K (mTest m)) :=
  PT.imp (pt_val h he) fun σ H Q' q => lt_B q
theorem t_cmp {op : CmpOp} {m : R2V} {a b : Expr} {ma mb : VE} {pos : Pos} (ho : OpV X (compareOp op) m) (ha : PE X a (LE X.K ma)) (hb : PE X b (LE X.K mb)) (hm : behindInMarks op b = false := by first | exact nomark _ | rfl) : PT X (.Compare a [op] [b] pos) (LT X.K (mTest (mOp m ma mb))) := by
  obtain ⟨r, h1, h2⟩ := ho
  refine PT.imp (pt_cmpR h1 ha hb hm) fun σ H Q' q => ?_
  exact le_op h2 σ H _ (lt_B q)
def mNot (m : VT) : VT := fun ρ S Q => m ρ S fun b S1 => Q (!b) S1
def mOr (m n : VT) : VT := fun ρ S Q => m ρ S fun b S1 => if b = true then Q true S1 else n ρ S1 Q
theorem t_not {a : Expr} {m : VT} {pos : Pos} (h : PT X a (LT X.K m)) : PT X (.UnaryOp .Not a pos) (LT X.K (mNot m)) :=
  PT.imp (pt_not h) fun σ H Q' ⟨ρ, S, G, Q, vw, re, hm, k⟩ => ⟨ρ, S, G, _, vw, re, hm, fun b S1 H1 G1 a1 h1 => k _ S1 H1 G1 a1 h1⟩
theorem w_or1 {a : Expr} {m : VT} {pos : Pos} (h : PT X a (LT X.K m)) : PW X (.BoolOp .Or [a] pos) (LT X.K m) := pw_or1 h
theorem w_or {a b : Expr} {rest : List Expr} {m n : VT} {pos : Pos} (h : PT X a (LT X.K m)) (hb : PW X (.BoolOp .Or (b :: rest) pos) (LT X.K n)) : PW X (.BoolOp .Or (a :: b :: rest) pos) (LT X.K (mOr m n)) := by
  refine PW.imp (pw_or h hb) fun σ H Q' ⟨ρ, S, G, Q, vw, re, hm, k⟩ => ⟨ρ, S, G, _, vw, re, hm, fun c S1 H1 G1 a1 h1 => ?_⟩
  cases c with
  | false => exact ⟨ρ, S1, G1, Q, a1.vw, re.mono a1.gg, h1, fun b S2 H2 G2 a2 h2 => k b S2 H2 G2 (a1.trans a2) h2⟩
  | true => exact k _ S1 H1 G1 a1 h1
/-- a if t else b -/
def mIfE (t : VT) (m n : VE) : VE := fun ρ S Q => t ρ S fun b S1 => if b = true then m ρ S1 Q else n ρ S1 Q
theorem v_if {c a b : Expr} {t : VT} {m n : VE} {pos : Pos} (hc : PT X c (LT X.K t)) (ha : PE X a (LE X.K m)) (hb : PE X b (LE X.K n)) : PE X (.IfExp c a b pos) (LE X.K (mIfE t m n)) := by
  refine PE.imp (pe_ifExp hc ha hb) fun σ H Q' ⟨ρ, S, G, Q, vw, re, hm, k⟩ => ⟨ρ, S, G, _, vw, re, hm, fun c S1 H1 G1 a1 h1 => ?_⟩
  cases c with
  | true => exact ⟨ρ, S1, G1, Q, a1.vw, re.mono a1.gg, h1, fun d S2 v H2 G2 a2 r2 h2 => k d S2 v H2 G2 (a1.trans a2) r2 h2⟩
  | false => exact ⟨ρ, S1, G1, Q, a1.vw, re.mono a1.gg, h1, fun d S2 v H2 G2 a2 r2 h2 => k d S2 v H2 G2 (a1.trans a2) r2 h2⟩
end
end VL
set_option maxHeartbeats 2000000
namespace VL
open PySem PySem.Spec L2
open PyProof.Rows hiding St
section
variable {X : Cx}
abbrev CV := List D → Store → (D → Store → Prop) → Prop
def LRC (K : PySem.W.Frag) (r : List V → Hp → VK → Prop) (m : CV) : Prop := ∀ (ds : List D) (vs : List V) (G : Hp) (S : Store) (H : Hp) (Q : D → Store → Prop) (Q' : VK), View K G S H → RpL K G vs ds → m ds S Q →
  (∀ d S' v H' G', Aft K G S H S' H' G' → Rp K G' v d → Q d S' → Q' v H') → r vs H Q'
def CallV (X : Cx) (f : Value) (m : CV) : Prop := ∃ r, CallR X f r ∧ LRC X.K r m
def mCB (m : CV) (ms : VA) : VE := fun ρ S Q => ms ρ S fun ds S1 => m ds S1 Q
theorem le_cb {K : PySem.W.Frag} {r : List V → Hp → VK → Prop} {m : CV} {ms : VA} (h : LRC K r m) (σ : L2.St) (H : Hp) (Q' : VK) (q : LE K (mCB m ms) σ H Q') : tCB r (LA K ms) σ H Q' := by
  obtain ⟨ρ, S, G, Q, vw, re, hm, k⟩ := q
  exact ⟨ρ, S, G, _, vw, re, hm, fun ds S1 vs H1 G1 a1 r1 h1 => h ds vs G1 S1 H1 Q Q' a1.vw r1 h1 fun d S' v H' G' a2 r2 q => k d S' v H' G' (a1.trans a2) r2 q⟩
theorem v_callB {id : String} {x : Str} {p pos : Pos} {e : Expr} {es : List Expr} {m : CV} {ms : VA} (hc : CallV X (.builtin id) m) (hg : Gl X x) (hm : X.mg x = none) (hv : bootBuiltins x = some (.builtin id)) (ha : PA X (e :: es) (LA X.K ms)) (hn : x ≠ "__name__" := by decide) (hdb : (x == ("__debug__" : Str)) = false := by decide)
    (he : starEach (e :: es) X.env = (false, eval e X.env) :: starEach es X.env := by rfl) (hpl : (backTo pos (starEach es X.env)).any (·.1) = false := by rfl) : PE X (.Call (.Name x p) (e :: es) [] pos) (LE X.K (mCB m ms)) := by
  obtain ⟨r, h1, h2⟩ := hc
  exact PE.imp (pe_callB h1 hg hm hv ha hn hdb he hpl) fun σ H Q' q => le_cb h2 σ H Q' q
theorem v_callT {T : String} {x : Str} {p pos : Pos} {e : Expr} {es : List Expr} {m : CV} {ms : VA} (hc : CallV X (.type T) m) (hg : Gl X x) (hm : X.mg x = none) (hv : bootBuiltins x = some (.type T)) (ha : PA X (e :: es) (LA X.K ms)) (hn : x ≠ "__name__" := by decide) (hdb : (x == ("__debug__" : Str)) = false := by decide)
    (he : starEach (e :: es) X.env = (false, eval e X.env) :: starEach es X.env := by rfl) (hpl : (backTo pos (starEach es X.env)).any (·.1) = false := by rfl) : PE X (.Call (.Name x p) (e :: es) [] pos) (LE X.K (mCB m ms)) := by
  obtain ⟨r, h1, h2⟩ := hc
  exact PE.imp (pe_callTy h1 hg hm hv ha hn hdb he hpl) fun σ H Q' q => le_cb h2 σ H Q' q
def mLen : CV := fun ds S Q => match ds with
  | [.str z] => z.length ≤ sizeLine ∧ Q (.int z.length) S
  | [d] => match rdS d S with
    | some ds => Q (.int ds.length) S
    | none => False
  | _ => False
theorem cv_len : CallV X (.builtin "len") mLen := by
  refine ⟨_, call_len, ?_⟩
  intro ds vs G S H Q Q' vw rl h k
  unfold mLen at h
  split at h
  · cases rl with
    | cons r t =>
      cases t; cases r
      exact ⟨_, _, rfl, ⟨h.1, rfl⟩, k _ S _ H G (Aft.refl vw) (.int _) h.2⟩
  · rename_i d _
    cases rl with
    | cons r t =>
      cases t
      split at h
      · rename_i es e
        obtain ⟨a, xs, rfl, q, l⟩ := rdS_ok vw r e
        refine ⟨_, es.length, rfl, ?_, k _ S _ H G (Aft.refl vw) (.int _) h⟩
        rcases q with q | q
        · exact .inl ⟨xs, q, l.length.symm⟩
        · exact .inr ⟨xs, q, l.length.symm⟩
      · exact h.elim
  · exact h.elim
def mInt1 (g : Int → Int) : CV := fun ds S Q => match ds with
  | [.int i] => Q (.int (g i)) S
  | _ => False
def mInt2 (g : Int → Int → Int) : CV := fun ds S Q => match ds with
  | [.int i, .int j] => Q (.int (g i j)) S
  | _ => False
theorem cv_abs : CallV X (.builtin "abs") (mInt1 fun i => if i < 0 then -i else i) := by
  refine ⟨_, call_abs, ?_⟩
  intro ds vs G S H Q Q' vw rl h k
  unfold mInt1 at h
  split at h
  · cases rl with
    | cons r t => cases t; cases r; exact ⟨_, rfl, k _ S _ H G (Aft.refl vw) (.int _) h⟩
  · exact h.elim
theorem cv_max2 (hc : X.calm = true) : CallV X (.builtin "max") (mInt2 fun i j => if j > i then j else i) := by
  refine ⟨_, call_max2 hc, ?_⟩
  intro ds vs G S H Q Q' vw rl h k
  unfold mInt2 at h
  split at h
  · cases rl with
    | cons r t =>
      cases t with
      | cons r2 t => cases t; cases r; cases r2; exact ⟨_, _, rfl, k _ S _ H G (Aft.refl vw) (.int _) h⟩
  · exact h.elim
theorem cv_min2 (hc : X.calm = true) : CallV X (.builtin "min") (mInt2 fun i j => if j < i then j else i) := by
  refine ⟨_, call_min2 hc, ?_⟩
  intro ds vs G S H Q Q' vw rl h k
  unfold mInt2 at h
  split at h
  · cases rl with
    | cons r t =>
      cases t with
      | cons r2 t => cases t; cases r; cases r2; exact ⟨_, _, rfl, k _ S _ H G (Aft.refl vw) (.int _) h⟩
  · exact h.elim
/-- tuple(xs), list(xs) -/
def mTupOf : CV := fun ds S Q => match ds with
  | [.tup es] => Q (.tup es) S
  | [d] => match rdR d S with
    | some es => Q (.tup es) S
    | none => False
  | _ => False
theorem cv_tuple : CallV X (.type "tuple") mTupOf := by
  refine ⟨_, call_tuple_of, ?_⟩
  intro ds vs G S H Q Q' vw rl h k
  unfold mTupOf at h
  split at h
  · cases rl with
    | cons r t =>
      cases t
      cases r with
      | tup ht l => exact ⟨_, _, rfl, .inr ⟨same_t vw.gh ht, k _ S _ H G (Aft.refl vw) (.tup ht l) h⟩⟩
  · cases rl with
    | cons r t =>
      cases t
      split at h
      · rename_i es e
        obtain ⟨a, xs, rfl, q, l⟩ := rdR_ok vw r e
        refine ⟨_, _, rfl, .inl ⟨q, fun p hp => ?_⟩⟩
        have a3 := vw.froze (o := .tup xs) hp
        exact k _ S _ _ _ a3 (.tup (SqT.of upd_same) (l.mono a3.gg)) h
      · exact h.elim
  · exact h.elim
def tyn (d : D) (S : Store) : String := match d with
  | .non => "NoneType" | .bl _ => "bool" | .int _ => "int" | .str _ => "str" | .tup _ => "tuple" | .lst _ => "list" | .ro _ => "list" | .dct _ => "dict"
  | .ref a => match S a with
    | some (.lst _) => "list"
    | some (.dct _) => "dict"
    | _ => "?"
def isT (t n : String) : Bool := decide (t = n) || (decide (t = "bool") && decide (n = "int"))
def mIsi (n : String) (m : VE) : VE := fun ρ S Q => m ρ S fun d S1 => tyn d S1 ≠ "?" ∧ Q (.bl (isT (tyn d S1) n)) S1
theorem kit_isT : ∀ t ∈ ["NoneType", "bool", "int", "str", "tuple", "list", "dict"], ∀ n ∈ ["bool", "int", "str", "tuple", "list", "dict"], kitB t n = some (isT t n) := by decide +kernel
theorem tyn_mem (d : D) (S : Store) (h : tyn d S ≠ "?") : tyn d S ∈ ["NoneType", "bool", "int", "str", "tuple", "list", "dict"] := by
  cases d <;> try (simp [tyn]; done)
  rename_i a
  simp only [tyn] at h ⊢
  split <;> simp_all
theorem tyx_of {K : PySem.W.Frag} {G H : Hp} {S : Store} {d : D} {v : V} (vw : View K G S H) (h : tyn d S ≠ "?") (r : Rp K G v d) : TyX K H v (.type (tyn d S)) := by
  have lst : ∀ {a xs}, SqL K H a xs → TyX K H (.ref a) (.type "list") := fun q => by
    rcases q with (q | ⟨o, q⟩) | ⟨o, its, n, q, c, _⟩
    · exact .base (.lst q)
    · exact .base (.frz q)
    · exact .kList q c
  cases r with
  | non => exact .base .non
  | bl b => exact .base (.bl b)
  | int i => exact .base (.int i)
  | str x => exact .base (.str x)
  | tup q _ =>
    rcases same_t vw.gh q with (q | ⟨o, q⟩) | ⟨o, its, n, q, c, _⟩
    · exact .base (.tup q)
    · exact .fTuple q
    · exact .kTuple q c
  | lst q _ => exact .base (.lst (vw.gh _ _ q))
  | ro q _ => exact lst (vw.gh.seq q)
  | dct q _ =>
    exact .fDict (vw.gh _ _ q)
  | ref a =>
    simp only [tyn] at h ⊢
    split
    · rename_i e
      obtain ⟨_, u, hu, k⟩ := vw.st a _ e
      cases k with
      | lst _ => exact .base (.lst hu)
    · rename_i e
      obtain ⟨_, u, hu, k⟩ := vw.st a _ e
      cases k with
      | dct _ => exact .base (.dK hu)
    · rename_i n1 n2
      exfalso
      revert h
      split
      · rename_i e; exact fun _ => n1 _ e
      · rename_i e; exact fun _ => n2 _ e
      · exact fun z => z rfl
theorem v_isi (n : String) {x y : Str} {p p2 pos : Pos} {e : Expr} {m : VE} (hn : n ∈ ["bool", "int", "str", "tuple", "list", "dict"]) (hg : Gl X x) (hm : X.mg x = none) (hv : bootBuiltins x = some (.builtin "isinstance")) (hg2 : Gl X y) (hm2 : X.mg y = none) (hv2 : bootBuiltins y = some (.type n)) (he : PE X e (LE X.K m))
    (hst : starEach [e, .Name y p2] X.env = (false, eval e X.env) :: starEach [.Name y p2] X.env := by rfl) (hx : x ≠ "__name__" := by decide) (hdb : (x == ("__debug__" : Str)) = false := by decide) (hy : y ≠ "__name__" := by decide) (hdb2 : (y == ("__debug__" : Str)) = false := by decide) :
    PE X (.Call (.Name x p) [e, .Name y p2] [] pos) (LE X.K (mIsi n m)) := by
  refine PE.imp (pe_callB call_isi hg hm hv (pa_cons he (pa_cons (pe_bltn (v := .ty n) hg2 hm2 hv2 rfl hy hdb2) pa_nil) hst) hx hdb hst) fun σ H Q' ⟨ρ, S, G, Q, vw, re, hm, k⟩ => ?_
  refine ⟨ρ, S, G, _, vw, re, hm, fun d S1 v1 H1 G1 a1 r1 h1 => ?_⟩
  refine ⟨v1, .ty n, _, _, isT (tyn d S1) n, rfl, .ty n, tyx_of a1.vw h1.1 r1, kit_ty (kit_isT _ (tyn_mem d S1 h1.1) n hn), k _ S1 _ H1 G1 a1 (.bl _) h1.2⟩
structure FnG (P : Program) (w : World) (K : PySem.W.Frag) (mg : Str → Option Value) (base : Heap) (CX : CXT) (k : Nat) (f : Addr) (fd : FuncData) (ps : List Str) (sp : Sp) : Prop where
  len : ∀ vs H Q E, sp vs H Q E → vs.length = ps.length
  go : ∀ (A : Around) (outer : List Env) (s : Shared) (H : Hp) (args : Args) (us : List Value) (vs : List V) (Q : VK) (E : XK), Room k A → A.guards = some [] → Env0 P w K mg base A outer s H → BindsTo s fd args (ps.zip us) → Vals vs us →
    sp vs H Q E → codeAny (model P w) A (.call (.ref f) args) (CR CX outer P w H s Q E) s
theorem FnG.mono {P : Program} {w : World} {K : PySem.W.Frag} {mg : Str → Option Value} {base : Heap} {CX : CXT} {j k : Nat} {f : Addr} {fd : FuncData} {ps : List Str} {sp : Sp} (F : FnG P w K mg base CX j f fd ps sp) (h : j ≤ k) : FnG P w K mg base CX k f fd ps sp :=
  ⟨F.len, fun A outer s H args us vs Q E hr hg => F.go A outer s H args us vs Q E (hr.mono h) hg⟩
section
variable {CX : CXT} {k : Nat} {f : Addr} {fd : FuncData} {ps : List Str} {sp : Sp} {dvs : List V} {ds : List Value} {E : XK} {x : Str} {p pos : Pos} {e : Expr} {es : List Expr} {t : TA}
theorem go_fn {pins : List (Addr × Obj)} {σ : L2.St} {H : Hp} {s : Shared} {Q : VK} {us : List Value} {vs : List V} (F : FnG X.prog X.w X.K X.mg X.base CX k f fd ps sp) (hr : Room k X.A) (hgd : X.A.guards = some []) (hb : Binds X.K fd ps ds) (hd : Vals dvs ds) (hx : Passes CX X E)
    (I : Inv X pins σ H s) (r : Vals vs us) (h : sp (vs ++ dvs) H Q E) : wpAny (model X.prog X.w) X.A (call (.ref f) us) (EP X pins σ Q) X.xe s := by
  have r' := r.append hd
  have len : (us ++ ds).length = ps.length := r'.length.symm.trans (F.len _ _ _ _ h)
  refine wpAny_call (codeAny_mono (F.go X.A X.stack s H _ _ _ Q E hr hgd I.env0 (hb s us I.kIn len) r' h) fun res s' hq => ?_)
  match res, hq with
  | .error e, hq => exact hx pins σ H s e s' I hq
  | .ok (.ret u), hq => exact I.after hq
  | .ok .next, hq => exact (show False from hq).elim
  | .ok .brk, hq => exact (show False from hq).elim
  | .ok .cont, hq => exact (show False from hq).elim
theorem pg_call (F : FnG X.prog X.w X.K X.mg X.base CX k f fd ps sp) (hr : Room k X.A) (hgd : X.A.guards = some []) (hg : Gl X x) (hm : X.mg x = some (.ref f)) (hk : PySem.W.keepIn X.K (.ref f) = true) (hb : Binds X.K fd ps ds) (hd : Vals dvs ds) (hx : Passes CX X E)
    (ha : PA X (e :: es) t) (hdb : (x == ("__debug__" : Str)) = false := by decide) (he : starEach (e :: es) X.env = (false, eval e X.env) :: starEach es X.env := by rfl) (hpl : (backTo pos (starEach es X.env)).any (·.1) = false := by rfl) :
    PE X (.Call (.Name x p) (e :: es) [] pos) (tCall sp dvs E t) :=
  ⟨fun pins s σ H Q I h => wpAny_Call_Name_kw (ld_glob I hg hm
    (PySem.W.callWith_K (h₀ := X.base) I.ok.mod.kin hk (thn (ha.run pos pins s σ H _ I h) fun us s1 ⟨vs, H1, I1, r, q⟩ => ⟨I1.kIn, go_fn F hr hgd hb hd hx I1 r q⟩) he hpl) hdb)⟩
end
/-- what is handed back may be locked -/
def tEnd (Q : VK) : VK := fun v H' => Q v H' ∨ ∃ d u, v = .ref d ∧ H' d = some u ∧ Mut (some u) ∧ ∀ od, Q v (upd H' d (.frz od u))
theorem g_of {CX : CXT} {P : Program} {w : World} {K : PySem.W.Frag} {mg : Str → Option Value} {base : Heap} {k : Nat} {f : Addr} {name qual : Str} {params : Arguments} {body : List Stmt} {scope : Scope} {dV kV doc pm cdv ct oc : Value} {an od : Option Addr}
    {osl : Array (Option Value)} {N ps : List Str} {sp : Sp} (lk : K.lookup f = some ⟨oc, od, .func (PySem.W.fnOf name qual params body scope dV kV doc pm an cdv ct), osl⟩) (hcd : PySem.W.codeIn K cdv qual = true) (S : FnScope N ps scope)
    (len : ∀ vs H Q E, sp vs H Q E → vs.length = ps.length)
    (hbody : ∀ (A : Around) (outer : List Env) (s : Shared) (H : Hp) (E : XK), Room k (A.deeper (envOfC qual scope s.heap.objs.size f cdv)) → A.guards = some [] →
      ∃ t, PSs (cxOf CX P w K mg base N qual scope f cdv A outer s H E) body t ∧ ∀ vs Q, sp vs H Q E → t { nx := fun _ H' => Q .non H', rt := tEnd Q } (L2.start N vs) H) :
    FnG P w K mg base CX (k + 1) f (PySem.W.fnOf name qual params body scope dV kV doc pm an cdv ct) ps sp := by
  refine ⟨len, fun A outer s H args us vs Q E hr hgd e0 hb r hsp => ?_⟩
  obtain ⟨t, ht, hq⟩ := hbody A outer s H E (hr.deeper _) hgd
  have stays : ∀ b o, base.get? b = some o → s.heap.get? b = some o := fun b o e => (e0.bs b o e).1
  refine codeAny_call_function hr.depth (e0.mod.kin.keeps stays _ _ lk) rfl S.co S.gen rfl (PySem.W.codeRec_of (e0.mod.kin.keeps stays) hcd) (hb _ _ _ _ ?_)
  refine wpAny_newFunctionEnv_cells S.kind (fun ⟨n, v⟩ hy => (S.par n (List.of_mem_zip hy).1).elim .inl fun q => .inr ⟨q, PySem.W.cellsFrom_some _ _ _ (.inl q)⟩) fun env he s1 x => ?_
  subst he
  refine ⟨(e0.mod.nolimit.keeps stays).keeps x.toInCall.keep, codeAny_func ?_⟩
  refine wpAny_mono (ht.run [] s1 (L2.start N vs) H _ (inv_start (CX := CX) (E := E) S hr.hd e0 (len _ _ _ _ hsp) r x) (hq vs Q hsp)) (fun fl s' hs => ?_) fun _ _ z => z
  match fl, hs with
  | .ret u, ⟨v, σ', H', J, rv, q⟩ =>
    rcases q with q | ⟨d, w, ev, hd, mu, q⟩
    · exact ⟨v, H', J.os, J.bare, J.base, J.hok, rv, q⟩
    · obtain ⟨od, J2⟩ := J.lock hd mu
      exact ⟨v, _, J2.os, J2.bare, J2.base, J2.hok, rv, q od⟩
  | .next, ⟨σ', H', J, q⟩ => exact ⟨V.non, H', J.os, J.bare, J.base, J.hok, (rfl : RelV .non Value.none), q⟩
  | .brk, ⟨_, _, _, q⟩ => exact q.elim
  | .cont, ⟨_, _, _, q⟩ => exact q.elim
abbrev VSp := List D → Store → (D → Store → Prop) → Prop
def LSp (K : PySem.W.Frag) (n : Nat) (sp : VSp) : Sp := fun vs H Q _ => vs.length = n ∧ ∃ ds S G Qv, View K G S H ∧ RpL K G vs ds ∧ sp ds S Qv ∧ ∀ d S' v H' G', Aft K G S H S' H' G' → Rp K G' v d → Qv d S' → Q v H'
/-- the def of that name keeps its promise (it lets no exception out) -/
structure DefV (P : Program) (w : World) (K : PySem.W.Frag) (mg : Str → Option Value) (base : Heap) (k : Nat) (x : Str) (ps : List Str) (sp : VSp) : Prop where
  ex : ∃ (f : Addr) (fd : FuncData), mg x = some (.ref f) ∧ PySem.W.keepIn K (.ref f) = true ∧ Binds K fd ps [] ∧ FnG P w K mg base CX0 k f fd ps (LSp K ps.length sp)
  run : ∀ (st : Stmt) (f : Addr) (fd : FuncData), mg x = some (.ref f) → Fun K x x st f fd → FnG P w K mg base CX0 k f fd ps (LSp K ps.length sp)
def mCall (n : Nat) (sp : VSp) (ms : VA) : VE := fun ρ S Q => ms ρ S fun ds S1 => ds.length = n ∧ sp ds S1 Q
theorem v_call {k : Nat} {x : Str} {ps : List Str} {sp : VSp} {p pos : Pos} {e : Expr} {es : List Expr} {ms : VA} (F : DefV X.prog X.w X.K X.mg X.base k x ps sp) (hr : Room k X.A) (hgd : X.A.guards = some []) (hg : Gl X x)
    (ha : PA X (e :: es) (LA X.K ms)) (hdb : (x == ("__debug__" : Str)) = false := by decide) (he : starEach (e :: es) X.env = (false, eval e X.env) :: starEach es X.env := by rfl) (hpl : (backTo pos (starEach es X.env)).any (·.1) = false := by rfl) :
    PE X (.Call (.Name x p) (e :: es) [] pos) (LE X.K (mCall ps.length sp ms)) := by
  obtain ⟨f, fd, hm, hk, hb, G⟩ := F.ex
  refine PE.imp (pg_call G hr hgd hg hm hk hb .nil pass0 ha hdb he hpl) fun σ H Q' ⟨ρ, S, G, Q, vw, re, hm, k⟩ => ?_
  refine ⟨ρ, S, G, _, vw, re, hm, fun ds S1 vs H1 G1 a1 r1 h1 => ?_⟩
  exact ⟨by rw [List.append_nil, r1.length]; exact h1.1, ds, S1, G1, Q, a1.vw, by rw [List.append_nil]; exact r1, h1.2, fun d S' v H' G' a2 r2 q => k d S' v H' G' (a1.trans a2) r2 q⟩
/-- what a def hands back may be told less of: a new thing frozen, or forgotten -/
inductive Settle : D → Store → D → Store → Prop
  | drop {d : D} {S S1 : Store} (h : ∀ a o, S1 a = some o → S a = some o) : Settle d S d S1
  | lst {a : Addr} {ds : List D} {S S1 : Store} (h : S a = some (.lst ds)) (n : S1 a = none) (s : ∀ b o, S1 b = some o → S b = some o) : Settle (.ref a) S (.lst ds) S1
  | dct {a : Addr} {ds : List (Key × D)} {S S1 : Store} (h : S a = some (.dct ds)) (n : S1 a = none) (s : ∀ b o, S1 b = some o → S b = some o) : Settle (.ref a) S (.dct ds) S1
theorem View.locks {K : PySem.W.Frag} {G H : Hp} {S S1 : Store} (v : View K G S H) {a : Addr} {o : SO} {u' : HO} (h : S a = some o) (hn : S1 a = Option.none) (hs : ∀ b x, S1 b = some x → S b = some x) : Aft K G S H S1 (upd H a u') (upd G a u') := by
  obtain ⟨g, _⟩ := v.st a o h
  have gg : Same G (upd G a u') := fun c w e => by rw [upd_ne (ne_of_none e g)]; exact e
  refine ⟨fun b x hS e => ?_, gg, ⟨fun b x e => ?_, fun b x e => ?_⟩⟩
  · have hb : b ≠ a := fun z => by subst z; rw [h] at hS; cases hS
    refine ⟨by rw [upd_ne hb]; exact e, ?_, by rw [upd_ne hb]⟩
    cases q : S1 b with
    | none => rfl
    | some o => rw [hs b o q] at hS; cases hS
  · by_cases hb : b = a
    · subst hb; rw [upd_same] at e ⊢; exact e
    · rw [upd_ne hb] at e ⊢; exact v.gh b x e
  · have hb : b ≠ a := by intro z; subst z; rw [hn] at e; cases e
    obtain ⟨g, x, hx, k⟩ := v.st b _ (hs b _ e)
    exact ⟨by rw [upd_ne hb]; exact g, x, by rw [upd_ne hb]; exact hx, k.mono gg⟩
theorem Settle.ok {K : PySem.W.Frag} {G H : Hp} {S S1 : Store} {d d1 : D} {v : V} (x : Settle d S d1 S1) (vw : View K G S H) (r : Rp K G v d) : (∃ G', Aft K G S H S1 H G' ∧ Rp K G' v d1) ∨ ∃ a u, v = .ref a ∧ H a = some u ∧ Mut (some u) ∧ ∀ od, ∃ G', Aft K G S H S1 (upd H a (.frz od u)) G' ∧ Rp K G' v d1 := by
  cases x with
  | drop h => exact .inl ⟨G, vw.drops h, r⟩
  | @lst a ds _ _ h n s =>
    cases r
    obtain ⟨_, u, hu, k⟩ := vw.st _ _ h
    cases k with
    | lst l => exact .inl ⟨_, vw.freezes h hu n s, .lst upd_same (l.mono (vw.freezes h hu n s).gg)⟩
  | @dct a ds _ _ h n s =>
    cases r
    obtain ⟨_, u, hu, k⟩ := vw.st _ _ h
    cases k with
    | dct l => exact .inr ⟨a, _, rfl, hu, trivial, fun od => ⟨_, vw.locks h n s, .dct upd_same (l.mono (vw.locks h n s).gg)⟩⟩
theorem Settle.okN {K : PySem.W.Frag} {G H : Hp} {S S1 : Store} {d1 : D} (x : Settle .non S d1 S1) (vw : View K G S H) : ∃ G', Aft K G S H S1 H G' ∧ Rp K G' .non d1 := by
  cases x with
  | drop h => exact ⟨G, vw.drops h, .non⟩
def Fin (Q : D → Store → Prop) : D → Store → Prop := fun d S => ∃ d1 S1, Settle d S d1 S1 ∧ Q d1 S1
theorem fin_same {Q : D → Store → Prop} {d : D} {S : Store} (h : Q d S) : Fin Q d S := ⟨d, S, .drop fun _ _ h => h, h⟩
theorem Settle.refl (d : D) (S : Store) : Settle d S d S := .drop fun _ _ h => h
/-- the slots at the entry -/
def startD (N : List Str) (ds : List D) : Sl := ds.map some ++ List.replicate (N.length - ds.length) none
theorem getE {α : Type} {l : List α} {i : Nat} {a : α} : l[i]? = some a → i < l.length := fun h => (List.getElem?_eq_some_iff.mp h).1
theorem REnv.start {K : PySem.W.Frag} {G : Hp} {N : List Str} {vs : List V} {ds : List D} (r : RpL K G vs ds) : REnv K G (L2.start N vs) (startD N ds) := by
  have e := r.length
  refine ⟨by simp [L2.start, startD, e], fun i d h => ?_⟩
  have hi : i < ds.length := by
    by_cases hi : i < ds.length
    · exact hi
    · unfold startD at h
      rw [List.getElem?_append_right (by simpa using hi), List.getElem?_replicate] at h
      split at h <;> cases h
  unfold startD at h
  rw [List.getElem?_append_left (by simpa using hi), List.getElem?_map] at h
  cases q : ds[i]? with
  | none => rw [q] at h; cases h
  | some d' =>
    rw [q] at h
    cases h
    obtain ⟨v, hv, rv⟩ := r.get q
    refine ⟨v, ?_, rv⟩
    unfold L2.start
    rw [List.getElem?_append_left (by simpa [e] using hi), List.getElem?_map, hv]
    rfl
/-- a def of the top as it stands behind it -/
def Has (K : PySem.W.Frag) (mg : Str → Option Value) (x : Str) (st : Stmt) : Prop := ∃ f fd, mg x = some (.ref f) ∧ Fun K x x st f fd
/-- the context of a def's body from which no exception goes out -/
abbrev XC (P : Program) (w : World) (K : PySem.W.Frag) (mg : Str → Option Value) (base : Heap) (N : List Str) (x : Str) (sc : Scope) (f : Addr) (cdv : Value) (A : Around) (outer : List Env) (s : Shared) (H : Hp) (E : XK) : Cx := (cxOf CX0 P w K mg base N x sc f cdv A outer s H E).nox
theorem DefV.mk' {P : Program} {w : World} {K : PySem.W.Frag} {mg : Str → Option Value} {base : Heap} {k : Nat} {x : Str} {N ps : List Str} {st : Stmt} {sp : VSp} (h : Has K mg x st) (Sc : FnScope N ps (defScope st))
    (hb : ∀ (kV doc pm : Value) (an : Option Addr) (cdv ct : Value) (us : List Value), us.length = ps.length → bindArgs (PySem.W.fnOf x x (defArgs st) (defBody st) (defScope st) .none kV doc pm an cdv ct) ⟨us, []⟩ = pure (ps.zip us))
    (hbody : ∀ (f : Addr) (cdv : Value) (A : Around) (outer : List Env) (s : Shared) (H : Hp) (E : XK), A.guards = some [] → Room k (A.deeper (envOfC x (defScope st) s.heap.objs.size f cdv)) → PySem.W.codeIn K cdv x = true →
      ∃ m, PSs (XC P w K mg base N x (defScope st) f cdv A outer s H E) (defBody st) (LS K m) ∧ ∀ ds S Q, ds.length = ps.length → sp ds S Q → m { nx := fun _ S' => Fin Q .non S', rt := Fin Q } (startD N ds) S) : DefV P w K mg base (k + 1) x ps sp := by
  obtain ⟨f, fd, hm, F⟩ := h
  obtain ⟨oc, od, kV, doc, pm, an, cdv, ct, osl, rfl, lk, hcd⟩ := F.ex
  have main : FnG P w K mg base CX0 (k + 1) f (PySem.W.fnOf x x (defArgs st) (defBody st) (defScope st) .none kV doc pm an cdv ct) ps (LSp K ps.length sp) := by
   refine g_of lk hcd Sc (fun vs H Q E h => h.1) fun A outer s H E hr hg => ?_
   obtain ⟨m, hs, hm'⟩ := hbody f cdv A outer s H E hg hr hcd
   refine ⟨_, PSs.nox hs, fun vs Q h => ?_⟩
   obtain ⟨hl, ds, S, G, Qv, vw, r, q, k'⟩ := h
   refine ⟨startD N ds, S, G, _, vw, REnv.start r, hm' ds S Qv (by rw [← r.length]; exact hl) q, ⟨?_, ?_, ?_, ?_⟩⟩
   · rintro ρ S' σ H' G' a re ⟨d1, S1, st, q1⟩
     obtain ⟨G1, a1, r1⟩ := st.okN a.vw
     exact k' d1 S1 _ H' G1 (a.trans a1) r1 q1
   · rintro d S' v H' G' a rv ⟨d1, S1, st, q1⟩
     rcases st.ok a.vw rv with ⟨G1, a1, r1⟩ | ⟨b, u, ev, hu, mu, k2⟩
     · exact .inl (k' d1 S1 _ H' G1 (a.trans a1) r1 q1)
     · exact .inr ⟨b, u, ev, hu, mu, fun od => let ⟨G1, a1, r1⟩ := k2 od; k' d1 S1 _ _ G1 (a.trans a1) r1 q1⟩
   · intro ρ S' σ H' G' a re q; exact q.elim
   · intro ρ S' σ H' G' a re q; exact q.elim
  refine ⟨⟨f, _, hm, F.kp, F.binds hb, main⟩, fun st2 f2 fd2 hm2 F2 => ?_⟩
  have ef : f2 = f := by rw [hm] at hm2; injection hm2 with e; injection e with e; exact e.symm
  subst ef
  obtain ⟨_, _, _, _, _, _, _, _, _, e2, lk2, _⟩ := F2.ex
  rw [lk] at lk2
  have efd : fd2 = PySem.W.fnOf x x (defArgs st) (defBody st) (defScope st) .none kV doc pm an cdv ct := by
    injection lk2 with e
    injection e with _ _ e _
    injection e with e
    exact e.symm
  rw [efd]
  exact main
end
end VL
set_option maxHeartbeats 2000000
namespace VL
open PySem PySem.Spec L2
open PyProof.Rows hiding St
section
variable {X : Cx}
def mNx : VS := fun E ρ S => E.nx ρ S
def VEnds.on (E : VEnds) (f : Sl → Store → Prop) : VEnds := { E with nx := f }
theorem on_nx {E : VEnds} {f : Sl → Store → Prop} : (E.on f).nx = f := rfl
theorem on_rt {E : VEnds} {f : Sl → Store → Prop} : (E.on f).rt = E.rt := rfl
theorem on_bk {E : VEnds} {f : Sl → Store → Prop} : (E.on f).bk = E.bk := rfl
theorem on_ct {E : VEnds} {f : Sl → Store → Prop} : (E.on f).ct = E.ct := rfl
def VEnds.loop (E : VEnds) (f : Sl → Store → Prop) : VEnds := { E with nx := f, ct := f, bk := E.nx }
theorem lo_nx {E : VEnds} {f : Sl → Store → Prop} : (E.loop f).nx = f := rfl
theorem lo_rt {E : VEnds} {f : Sl → Store → Prop} : (E.loop f).rt = E.rt := rfl
theorem lo_bk {E : VEnds} {f : Sl → Store → Prop} : (E.loop f).bk = E.nx := rfl
theorem lo_ct {E : VEnds} {f : Sl → Store → Prop} : (E.loop f).ct = f := rfl
def mSeq (t u : VS) : VS := fun E ρ S => t (E.on fun ρ' S' => u E ρ' S') ρ S
theorem s_nil : PSs X [] (LS X.K mNx) := PSs.imp pss_nil fun D' σ H ⟨ρ, S, G, E, vw, re, hm, ok⟩ => ok.nx ρ S σ H G (Aft.refl vw) re hm
theorem s_cons {st : Stmt} {rest : List Stmt} {t u : VS} (h1 : PS X st (LS X.K t)) (h2 : PSs X rest (LS X.K u)) : PSs X (st :: rest) (LS X.K (mSeq t u)) :=
  PSs.imp (pss_cons h1 h2) fun D' σ H ⟨ρ, S, G, E, vw, re, hm, ok⟩ => ⟨ρ, S, G, _, vw, re, hm, ⟨fun ρ' S' σ' H' G' a r q => ⟨ρ', S', G', E, a.vw, r, q, ok.after a⟩, ok.rt, ok.bk, ok.ct⟩⟩
theorem s_one {st : Stmt} {t : VS} (h1 : PS X st (LS X.K t)) : PSs X [st] (LS X.K t) := pss_one h1
def mDrop (m : VE) : VS := fun E ρ S => m ρ S fun _ S' => E.nx ρ S'
theorem s_expr {e : Expr} {m : VE} {pos : Pos} (he : PE X e (LE X.K m)) (hs : swapsWith e none pos.line X.env = pure false := by rfl) : PS X (.Expr e pos) (LS X.K (mDrop m)) :=
  PS.imp (ps_expr he hs) fun D' σ H ⟨ρ, S, G, E, vw, re, hm, ok⟩ => ⟨ρ, S, G, _, vw, re, hm, fun d S' v H' G' a r q => ok.nx ρ S' σ H' G' a (re.mono a.gg) q⟩
def mRet (m : VE) : VS := fun E ρ S => m ρ S E.rt
theorem s_ret {e : Expr} {m : VE} {pos : Pos} (he : PE X e (LE X.K m)) : PS X (.Return (some e) pos) (LS X.K (mRet m)) :=
  PS.imp (ps_ret he) fun D' σ H ⟨ρ, S, G, E, vw, re, hm, ok⟩ => ⟨ρ, S, G, _, vw, re, hm, fun d S' v H' G' a r q => ok.rt d S' v H' G' a r q⟩
def mIf (c : VT) (t u : VS) : VS := fun E ρ S => c ρ S fun b S1 => if b = true then t E ρ S1 else u E ρ S1
theorem s_if {c : Expr} {a b : List Stmt} {mc : VT} {t u : VS} {pos : Pos} (hc : PT X c (LT X.K mc)) (ha : PSs X a (LS X.K t)) (hb : PSs X b (LS X.K u)) : PS X (.If c a b pos) (LS X.K (mIf mc t u)) := by
  refine PS.imp (ps_if hc ha hb) fun D' σ H ⟨ρ, S, G, E, vw, re, hm, ok⟩ => ⟨ρ, S, G, _, vw, re, hm, fun d S' H' G' a q => ?_⟩
  cases d with
  | true => exact ⟨ρ, S', G', E, a.vw, re.mono a.gg, q, ok.after a⟩
  | false => exact ⟨ρ, S', G', E, a.vw, re.mono a.gg, q, ok.after a⟩
abbrev VG := D → Sl → Store → (Sl → Store → Prop) → Prop
def LG (K : PySem.W.Frag) (m : VG) : TG := fun v σ H Q' => ∃ ρ S G d Q, View K G S H ∧ REnv K G σ ρ ∧ Rp K G v d ∧ m d ρ S Q ∧ ∀ ρ' S' σ' H' G', Aft K G S H S' H' G' → REnv K G' σ' ρ' → Q ρ' S' → Q' σ' H'
theorem PG.imp {tg : Expr} {t t' : TG} (h : PG X tg t) (i : ∀ v σ H Q, t' v σ H Q → t v σ H Q) : PG X tg t' := ⟨fun pins s σ H v u Q I r q => h.run pins s σ H v u Q I r (i v σ H Q q)⟩
def mAsg (m : VE) (g : VG) : VS := fun E ρ S => m ρ S fun d S1 => g d ρ S1 E.nx
theorem s_asg {tg e : Expr} {m : VE} {g : VG} {pos : Pos} (he : PE X e (LE X.K m)) (hg : PG X tg (LG X.K g)) (hs : swapsWithSole [tg] e pos.line X.env = pure false := by rfl) (hw : swappedStores [tg] e X.env = pure none := by rfl) (h1 : (assignEach [tg] X.env).map (·.2) = [assign tg X.env] := by rfl) : PS X (.Assign [tg] e pos) (LS X.K (mAsg m g)) :=
  PS.imp (ps_asg he hg hs hw h1) fun D' σ H ⟨ρ, S, G, E, vw, re, hm, ok⟩ => ⟨ρ, S, G, _, vw, re, hm, fun d S' v H' G' a r q => ⟨ρ, S', G', d, _, a.vw, re.mono a.gg, r, q, fun ρ' S2 σ' H2 G2 a2 r2 q2 => ok.nx ρ' S2 σ' H2 G2 (a.trans a2) r2 q2⟩⟩
def mSet (i : Nat) (m : VE) : VS := fun E ρ S => m ρ S fun d S1 => E.nx (ρ.set i (some d)) S1
theorem s_set (i : Nat) {x : Str} {e : Expr} {m : VE} {pos pos' : Pos} (hN : X.N.Nodup) (hi : X.N[i]? = some x) (hx : Loc X.env.scope x) (he : PE X e (LE X.K m)) (hs : swapsWith e (some (.Name x pos')) pos.line X.env = pure false := by rfl) (hf : X.fn x = true ∨ X.env.scope.names.lookup x = some .local := by first | exact .inl rfl | exact .inr rfl | assumption) :
    PS X (.Assign [.Name x pos'] e pos) (LS X.K (mSet i m)) :=
  PS.imp (ps_set hN hi hx he hs hf) fun D' σ H ⟨ρ, S, G, E, vw, re, hm, ok⟩ => ⟨ρ, S, G, _, vw, re, hm, fun d S' v H' G' a r q => ok.nx _ S' _ H' G' a ((re.mono a.gg).set r) q⟩
/-- names, or a tuple of names -/
inductive CT where
  | one (i : Nat) | many (is : List Nat)
def gNames : List Nat → TGs
  | [] => gNil
  | i :: is => gCons (gName i) (gNames is)
def gCT (K : PySem.W.Frag) : CT → TG
  | .one i => gName i
  | .many is => gTup K is.length (gNames is)
def mCT (c : CT) (d : D) (ρ : Sl) : Option Sl := match c, d with
  | .one i, d => some (ρ.set i (some d))
  | .many is, .tup ds => if ds.length = is.length then some (setAll ρ is ds) else none
  | .many _, _ => none
def CT.within (vs : List Nat) : CT → Prop
  | .one i => i ∈ vs
  | .many is => ∀ i ∈ is, i ∈ vs
theorem gNames_ok {H : Hp} : ∀ {is : List Nat} {vs : List V} {σ : L2.St} {Qt : L2.St → Hp → Prop}, vs.length = is.length → Qt (setAll σ is vs) H → gNames is vs σ H Qt
  | [], [], _, _, _, q => ⟨rfl, q⟩
  | i :: is, v :: vs, _, _, h, q => ⟨v, vs, rfl, gNames_ok (is := is) (by simpa using h) q⟩
  | [], _ :: _, _, _, h, _ => by simp at h
  | _ :: _, [], _, _, h, _ => by simp at h
theorem wipe_get {σ : L2.St} (j : Nat) : ∀ vs : List Nat, (L2.wipe σ vs)[j]? = if j ∈ vs ∧ j < σ.length then some none else σ[j]?
  | [] => by simp [L2.wipe]
  | v :: vs => by
    have ih := wipe_get (σ := σ) j vs
    unfold L2.wipe
    rw [List.getElem?_set]
    by_cases hv : v = j
    · subst hv
      rw [if_pos rfl, wipe_length]
      by_cases hl : v < σ.length
      · rw [if_pos hl, if_pos ⟨List.mem_cons_self, hl⟩]
      · rw [if_neg hl, if_neg (fun z => hl z.2), List.getElem?_eq_none (Nat.le_of_not_lt hl)]
    · rw [if_neg hv, ih]
      by_cases hm : j ∈ vs
      · simp [hm]
      · simp [hm, Ne.symm hv]
theorem wipe_eq {σ σ' : L2.St} {vs : List Nat} (hl : σ.length = σ'.length) (h : ∀ j, j ∉ vs → σ[j]? = σ'[j]?) : L2.wipe σ vs = L2.wipe σ' vs := by
  apply List.ext_getElem?
  intro j
  rw [wipe_get, wipe_get, hl]
  by_cases hj : j ∈ vs
  · by_cases hl2 : j < σ'.length
    · rw [if_pos ⟨hj, hl2⟩, if_pos ⟨hj, hl2⟩]
    · rw [if_neg (fun z => hl2 z.2), if_neg (fun z => hl2 z.2), List.getElem?_eq_none (by omega), List.getElem?_eq_none (by omega)]
  · rw [if_neg (fun z => hj z.1), if_neg (fun z => hj z.1), h j hj]
theorem setAll_length {α : Type} : ∀ {is : List Nat} {vs : List α} {σ : List (Option α)}, (setAll σ is vs).length = σ.length
  | [], _, _ => rfl
  | _ :: _, [], _ => rfl
  | i :: is, v :: vs, σ => by unfold setAll; rw [setAll_length (is := is)]; simp
theorem setAll_out {α : Type} {j : Nat} : ∀ {is : List Nat} {vs : List α} {σ : List (Option α)}, j ∉ is → (setAll σ is vs)[j]? = σ[j]?
  | [], _, _, _ => rfl
  | _ :: _, [], _, _ => rfl
  | i :: is, v :: vs, σ, h => by
    unfold setAll
    rw [setAll_out (is := is) (fun z => h (List.mem_cons_of_mem _ z)), List.getElem?_set_ne (fun z => h (by rw [z]; exact List.mem_cons_self))]
theorem gCT_ok {K : PySem.W.Frag} {G H : Hp} {c : CT} {d : D} {v : V} {σ : L2.St} {ρ ρ3 : Sl} (g : Same G H) (re : REnv K G σ ρ) (r : Rp K G v d) (h : mCT c d ρ = some ρ3) :
    ∃ σ3, REnv K G σ3 ρ3 ∧ (∀ vs, c.within vs → L2.wipe σ3 vs = L2.wipe σ vs) ∧ ∀ Qt, Qt σ3 H → gCT K c v σ H Qt := by
  cases c with
  | one i =>
    simp only [mCT, Option.some.injEq] at h
    subst h
    refine ⟨_, re.set r, fun vs hi => wipe_eq (by simp) fun j hj => ?_, fun Qt q => q⟩
    rw [List.getElem?_set_ne (fun z => hj (by rw [← z]; exact hi))]
  | many is =>
    cases r with
    | @tup a xs ds ht l =>
      simp only [mCT] at h
      split at h
      · rename_i hl
        cases h
        refine ⟨setAll σ is xs, re.setAll l, fun vs hi => wipe_eq setAll_length fun j hj => setAll_out fun z => hj (hi j z), fun Qt q => ⟨a, xs, rfl, same_t g ht, by rw [l.length]; exact hl, gNames_ok (by rw [l.length]; exact hl) q⟩⟩
      · cases h
    | _ => simp [mCT] at h
/-- o[i] = e, o a list of the store -/
def gSetIx (mo mi : VE) : VG := fun d ρ S Q => mo ρ S fun o S1 => mi ρ S1 fun i S2 => match o, i with
  | .ref a, .int i => match S2 a with
    | some (.lst ds) => match ixN ds.length i with
      | some j => Q ρ (supd S2 a (.lst (ds.set j d)))
      | none => False
    | _ => False
  | _, _ => False
theorem g_setix {o i : Expr} {mo mi : VE} {pos : Pos} (ho : PE X o (LE X.K mo)) (hi : PE X i (LE X.K mi))
    (hg : PG X (.Subscript o i pos) (gSub (LE X.K mo) (LE X.K mi) rSetL)) : PG X (.Subscript o i pos) (LG X.K (gSetIx mo mi)) := by
  refine PG.imp hg fun v σ H Q' ⟨ρ, S, G, d, Q, vw, re, rd, hm, k⟩ => ?_
  refine ⟨ρ, S, G, _, vw, re, hm, fun o S1 vo H1 G1 a1 r1 h1 => ?_⟩
  refine ⟨ρ, S1, G1, _, a1.vw, re.mono a1.gg, h1, fun i S2 vi H2 G2 a2 r2 h2 => ?_⟩
  split at h2
  · rename_i a i
    cases r1; cases r2
    split at h2
    · rename_i ds e
      split at h2
      · rename_i j ej
        obtain ⟨_, u, hu, ku⟩ := a2.vw.st _ _ e
        cases ku with
        | lst l =>
          have a3 := a2.vw.wrote (o' := .lst (ds.set j d)) e (.lst (l.set ((rd.mono a1.gg).mono a2.gg) j))
          exact ⟨_, _, _, j, rfl, rfl, hu, by rw [l.length]; exact ej, k ρ _ σ _ _ (a1.trans (a2.trans a3)) (re.mono (a1.trans (a2.trans a3)).gg) h2⟩
      · exact h2.elim
    · exact h2.elim
  · exact h2.elim
structure Walks (K : PySem.W.Frag) (G1 : Hp) (kp : Store → Prop) (J : It) (ds : List D) : Prop where
  stop : ∀ (H G : Hp) (S : Store), Same G1 G → View K G S H → kp S → J.stop ds.length H
  goes : ∀ (i : Nat) (H G : Hp) (S : Store), i < ds.length → Same G1 G → View K G S H → kp S → J.go i H
  yld : ∀ (i : Nat) (d : D) (H : Hp) (x : V) (H' G : Hp) (S : Store), ds[i]? = some d → Same G1 G → View K G S H → kp S → J.yld i H x H' → ∃ G', Aft K G S H S H' G' ∧ Rp K G' x d
abbrev VW := Sl → Store → (List D → (Store → Prop) → Store → Prop) → Prop
def LI (K : PySem.W.Frag) (m : VW) : TI := fun σ H R => ∃ ρ S G Q, View K G S H ∧ REnv K G σ ρ ∧ m ρ S Q ∧ ∀ ds kp S' H' G' J, Aft K G S H S' H' G' → Walks K G' kp J ds → Q ds kp S' → R J H'
theorem PI.imp {tg it : Expr} {w w' : TI} (h : PI X tg it w) (i : ∀ σ H R, w' σ H R → w σ H R) : PI X tg it w' := ⟨fun pins s σ H R I q => h.run pins s σ H R I (i σ H R q)⟩
theorem walks_list {K : PySem.W.Frag} {G1 : Hp} {kp : Store → Prop} {a : Addr} {xs : List V} {ds : List D} (hs : ∀ (H G : Hp) (S : Store), Same G1 G → View K G S H → kp S → ∃ xs, SqL K H a xs ∧ RpL K G xs ds) : Walks K G1 kp (Itl K a) ds where
  stop := fun H G S g v k => by
    obtain ⟨xs, q, l⟩ := hs H G S g v k
    exact ⟨xs, q, Nat.le_of_eq l.length⟩
  goes := fun i H G S hi g v k => by
    obtain ⟨xs, q, l⟩ := hs H G S g v k
    exact ⟨xs, xs[i]'(by rw [l.length]; exact hi), q, by simp⟩
  yld := fun i d H x H' G S hd g v k y => by
    obtain ⟨xs, q, l⟩ := hs H G S g v k
    obtain ⟨e, y⟩ := y
    subst e
    obtain ⟨w, hw, r⟩ := l.get hd
    rw [y xs q] at hw
    cases hw
    exact ⟨G, Aft.refl v, r⟩
theorem walks_tup {K : PySem.W.Frag} {G1 : Hp} {a : Addr} {xs : List V} {ds : List D} (ht : SqT K G1 a xs) (l : RpL K G1 xs ds) : Walks K G1 (fun _ => True) (Itt K a) ds where
  stop := fun H G S g v k => ⟨xs, same_t (g.trans v.gh) ht, Nat.le_of_eq l.length⟩
  goes := fun i H G S hi g v k => ⟨xs, xs[i]'(by rw [l.length]; exact hi), same_t (g.trans v.gh) ht, by simp⟩
  yld := fun i d H x H' G S hd g v k y => by
    obtain ⟨e, y⟩ := y
    subst e
    obtain ⟨w, hw, r⟩ := l.get hd
    rw [y xs (same_t (g.trans v.gh) ht)] at hw
    cases hw
    exact ⟨G, Aft.refl v, r.mono g⟩
/-- a list or a tuple -/
def mSq (m : VE) : VW := fun ρ S Q => m ρ S fun d S1 => match d with
  | .tup ds => Q ds (fun _ => True) S1
  | .lst ds => Q ds (fun _ => True) S1
  | .ro ds => Q ds (fun _ => True) S1
  | .ref a => match S1 a with
    | some (.lst ds) => Q ds (fun S2 => S2 a = some (.lst ds)) S1
    | _ => False
  | _ => False
/-- what walks a list or a tuple, by values -/
def iSeq (K : PySem.W.Frag) (tl : TE) : TI := fun σ H R => tl σ H fun x H1 => ∃ a, x = .ref a ∧ (((∃ xs, SqL K H1 a xs) ∧ R (Itl K a) H1) ∨ ((∃ xs, SqT K H1 a xs) ∧ R (Itt K a) H1))
theorem pi_seq {tg it : Expr} {t : TE} (h : PE X it t) : PI X tg it (iSeq X.K t) := by
  refine ⟨fun pins s σ H R I q => thn (h.run pins s σ H _ I q) fun u s1 ⟨x, H1, I1, r1, a, ex, q1⟩ => ?_⟩
  subst ex
  cases r1
  have ok : ∀ b ∈ [s1.heap.objs.size], FpOk X pins H1 b := fun b hb => by
    rw [List.mem_singleton.mp hb]
    exact I1.fpOk (Nat.le_refl _) (I1.hok.fresh (Nat.le_refl _))
  rcases q1 with ⟨⟨xs, hq⟩, q⟩ | ⟨⟨xs, hq⟩, q⟩
  · obtain ⟨its, rv, p, hz⟩ := I1.list hq
    exact wpAny_pyIter_list p.isList ⟨_, [s1.heap.objs.size], _, _, H1, rfl, I1.kept (t' := s1.toks) (fun _ _ z => Heap.get?_push_of_some _ z), turn_list a _, ⟨_, Heap.get?_push_size _ rfl, rfl, rfl⟩, ok, q⟩
  · obtain ⟨its, rv, p, hz⟩ := I1.tuple hq
    exact wpAny_pyIter_tuple (show s1.heap.IsTuple a its.toArray from p) ⟨_, [s1.heap.objs.size], _, _, H1, rfl, I1.kept (t' := s1.toks) (fun _ _ z => Heap.get?_push_of_some _ z), turn_tuple a _, ⟨_, Heap.get?_push_size _ rfl, rfl, rfl⟩, ok, q⟩
theorem i_seq {tg it : Expr} {m : VE} (h : PE X it (LE X.K m)) : PI X tg it (LI X.K (mSq m)) := by
  refine PI.imp (pi_seq h) fun σ H R ⟨ρ, S, G, Q, vw, re, hm, k⟩ => ?_
  refine ⟨ρ, S, G, _, vw, re, hm, fun d S1 v1 H1 G1 a1 r1 h1 => ?_⟩
  cases r1 with
  | @tup a xs ds ht l => exact ⟨a, rfl, .inr ⟨⟨xs, same_t a1.vw.gh ht⟩, k ds _ S1 H1 G1 _ a1 (walks_tup ht l) h1⟩⟩
  | @lst a xs ds ht l => exact ⟨a, rfl, .inl ⟨⟨xs, SqL.of (a1.vw.gh _ _ ht)⟩, k ds _ S1 H1 G1 _ a1 (walks_list (xs := xs) fun H G S g v _ => ⟨xs, SqL.of (v.gh _ _ (g _ _ ht)), l.mono g⟩) h1⟩⟩
  | @ro a xs ds ht l => exact ⟨a, rfl, .inl ⟨⟨xs, a1.vw.gh.seq ht⟩, k ds _ S1 H1 G1 _ a1 (walks_list (xs := xs) fun H G S g v _ => ⟨xs, (g.trans v.gh).seq ht, l.mono g⟩) h1⟩⟩
  | ref a =>
    simp only at h1
    split at h1
    · rename_i ds e
      obtain ⟨_, u, hu, ku⟩ := a1.vw.st _ _ e
      cases ku with
      | @lst xs _ l =>
        refine ⟨a, rfl, .inl ⟨⟨xs, SqL.of hu⟩, k ds _ S1 H1 G1 _ a1 (walks_list (xs := xs) fun H G S g v e2 => ?_) h1⟩⟩
        obtain ⟨_, u2, hu2, ku2⟩ := v.st _ _ e2
        cases ku2 with
        | @lst ys _ l2 => exact ⟨ys, SqL.of hu2, l2⟩
    · exact h1.elim
  | non => exact h1.elim
  | bl => exact h1.elim
  | int => exact h1.elim
  | str => exact h1.elim
  | dct => exact h1.elim
/-- range(n), range(a, b) -/
def rngD (lo : Int) (n : Nat) : List D := (List.range n).map fun i => .int (lo + (i : Nat))
theorem walks_rng {K : PySem.W.Frag} {G1 : Hp} {lo : Int} {n : Nat} : Walks K G1 (fun _ => True) (Itr lo n) (rngD lo n) where
  stop := fun H G S g v k => by show n ≤ (rngD lo n).length; simp [rngD]
  goes := fun i H G S hi g v k => by show i < n; simpa [rngD] using hi
  yld := fun i d H x H' G S hd g v k y => by
    obtain ⟨e1, e2⟩ := y
    subst e1 e2
    have hi : i < n := by have := getE hd; simpa [rngD] using this
    simp [rngD, hi] at hd
    subst hd
    exact ⟨G, Aft.refl v, .int _⟩
def mRng1 (m : VE) : VW := fun ρ S Q => m ρ S fun d S1 => match d with
  | .int j => -(2 ^ 62) ≤ j ∧ j < 2 ^ 62 ∧ Q (rngD 0 j.toNat) (fun _ => True) S1
  | _ => False
theorem i_rng1 {tg : Expr} {x : Str} {p pos : Pos} {e : Expr} {m : VE} (hg : Gl X x) (hm : X.mg "range" = none) (h : PE X e (LE X.K m)) (w : PI X tg (.Call (.Name x p) [e] [] pos) (iRng1 (tCons (LE X.K m) tNil))) :
    PI X tg (.Call (.Name x p) [e] [] pos) (LI X.K (mRng1 m)) := by
  refine PI.imp w fun σ H R ⟨ρ, S, G, Q, vw, re, hm, k⟩ => ?_
  refine ⟨ρ, S, G, _, vw, re, hm, fun d S1 v1 H1 G1 a1 r1 h1 => ?_⟩
  cases r1 <;> try exact h1.elim
  rename_i j
  exact ⟨j, rfl, h1.1, h1.2.1, k _ _ S1 H1 G1 _ a1 walks_rng h1.2.2⟩
def mFor (c : CT) (mi : VW) (mb : VS) : VS := fun E ρ S => mi ρ S fun ds kp S1 => ∃ I : Nat → Sl → Store → Prop, I 0 ρ S1 ∧ ∀ i ρ2 S2, I i ρ2 S2 → kp S2 ∧ match ds[i]? with
  | none => E.nx ρ2 S2
  | some d => match mCT c d ρ2 with
    | some ρ3 => mb (E.loop (I (i + 1))) ρ3 S2
    | none => False
theorem s_for {c : CT} {tg iter : Expr} {body : List Stmt} {mi : VW} {mb : VS} {pos : Pos} (hp : PassesOwn (model X.prog X.w) X.A X.env X.xe) (hc : X.calm = true) (hi : PI X tg iter (LI X.K mi)) (hg : PG X tg (gCT X.K c)) (hb : PSs X body (LS X.K mb))
    (hs : ∀ x, foldedSetIterable iter X.env x = pure x := by intro _; rfl) : PS X (.For tg iter body [] pos) (LS X.K (mFor c mi mb)) := by
  refine PS.imp (ps_for hp hc hi hg hb hs) fun D' σ H ⟨ρ, S, G, E, vw, re, hm, ok⟩ => ?_
  refine ⟨ρ, S, G, _, vw, re, hm, fun ds kp S1 H1 G1 J a1 wk ⟨I, I0, step⟩ => ?_⟩
  refine ⟨fun i m σ2 H2 => m = ds.length - i ∧ i ≤ ds.length ∧ ∃ ρ2 S2 G2, Aft X.K G1 S1 H1 S2 H2 G2 ∧ REnv X.K G2 σ2 ρ2 ∧ I i ρ2 S2, ⟨_, rfl, Nat.zero_le _, ρ, S1, G1, Aft.refl a1.vw, re.mono a1.gg, I0⟩, ?_⟩
  rintro i m σ2 H2 ⟨rfl, hi, ρ2, S2, G2, a2, r2, h2⟩
  obtain ⟨hk, st⟩ := step i ρ2 S2 h2
  by_cases hlt : i < ds.length
  · have e : ds[i]? = some ds[i] := by simp
    rw [e] at st
    simp only at st
    split at st
    · rename_i ρ3 eb
      refine .inr ⟨wk.goes i H2 G2 S2 hlt a2.gg a2.vw hk, fun σ' H' => ∃ ρ' S' G', Aft X.K G1 S1 H1 S' H' G' ∧ REnv X.K G' σ' ρ' ∧ I (i + 1) ρ' S', ?_, fun x H3 hy => ?_⟩
      · rintro σ' H' ⟨ρ', S', G', a', r', h'⟩
        exact ⟨ds.length - (i + 1), by omega, rfl, hlt, ρ', S', G', a', r', h'⟩
      · obtain ⟨G3, a3, rx⟩ := wk.yld i ds[i] H2 x H3 G2 S2 e a2.gg a2.vw hk hy
        obtain ⟨σ3, r3, _, k3⟩ := gCT_ok a3.vw.gh (r2.mono a3.gg) rx eb
        have a13 := a2.trans a3
        refine k3 _ ⟨ρ3, S2, G3, _, a3.vw, r3, st, ⟨?_, ?_, ?_, ?_⟩⟩
        · exact fun ρ' S' σ' H' G' a' r' q => ⟨ρ', S', G', a13.trans a', r', q⟩
        · exact fun d S' v H' G' a' r' q => ok.rt d S' v H' G' (a1.trans (a13.trans a')) r' q
        · exact fun ρ' S' σ' H' G' a' r' q => ok.nx ρ' S' σ' H' G' (a1.trans (a13.trans a')) r' q
        · exact fun ρ' S' σ' H' G' a' r' q => ⟨ρ', S', G', a13.trans a', r', q⟩
    · exact st.elim
  · have ei : i = ds.length := by omega
    subst ei
    rw [List.getElem?_eq_none (Nat.le_refl _)] at st
    exact .inl ⟨wk.stop H2 G2 S2 a2.gg a2.vw hk, ok.nx ρ2 S2 σ2 H2 G2 (a1.trans a2) r2 st⟩
def mYes : VT := fun _ S Q => Q true S
theorem PTs.imp {ifs : List Expr} {t t' : TT} (h : PTs X ifs t) (i : ∀ σ H Q, t' σ H Q → t σ H Q) : PTs X ifs t' := ⟨fun pins s σ H Q I q => h.run pins s σ H Q I (i σ H Q q)⟩
theorem ts_nil : PTs X [] (LT X.K mYes) := PTs.imp pts_nil fun σ H Q' ⟨ρ, S, G, Q, vw, re, hm, k⟩ => k true S H G (Aft.refl vw) hm
/-- the turns of a comprehension; R: what is made of the list -/
def mLcG (c : CT) (mi : VW) (mt : VT) (me : VE) (vs : List Nat) (R : List D → Store → (D → Store → Prop) → Prop) : VE := fun ρ S Q => mi ρ S fun ds kp S1 => ds.length ≤ sizeLine ∧ ∃ I : Nat → List D → Store → Prop, I 0 [] S1 ∧ ∀ i acc S2, I i acc S2 → kp S2 ∧ match ds[i]? with
  | none => R acc S2 Q
  | some d => match mCT c d (wipeD ρ vs) with
    | some ρ3 => mt ρ3 S2 fun b S3 => if b = true then me ρ3 S3 fun y S4 => I (i + 1) (acc ++ [y]) S4 else I (i + 1) acc S3
    | none => False
def rFrz : List D → Store → (D → Store → Prop) → Prop := fun acc S Q => Q (.lst acc) S
def rMut : List D → Store → (D → Store → Prop) → Prop := fun acc S Q => ∀ a, S a = none → Q (.ref a) (supd S a (.lst acc))
def RecR (R : List D → Store → (D → Store → Prop) → Prop) : Prop := ∀ (K : PySem.W.Frag) (G : Hp) (S : Store) (H : Hp) (a : Addr) (xs : List V) (acc : List D) (Q : D → Store → Prop), View K G S H → H a = some (.lst xs) → S a = none → G a = none → RpL K G xs acc → R acc S Q →
  ∃ S' G' d, Q d S' ∧ View K G' S' H ∧ Same G G' ∧ Rp K G' (.ref a) d ∧ ∀ b, b ≠ a → S' b = S b ∧ G' b = G b
theorem recR_frz : RecR rFrz := fun K G S H a xs acc Q vw ha hs hg l q =>
  ⟨S, upd G a (.lst xs), .lst acc, q, ⟨fun b o e => by
    by_cases hb : b = a
    · subst hb; rw [upd_same] at e; cases e; exact ha
    · rw [upd_ne hb] at e; exact vw.gh b o e, fun b o e => by
    have hb : b ≠ a := by intro z; subst z; rw [hs] at e; cases e
    obtain ⟨g, u, hu, k⟩ := vw.st b o e
    exact ⟨by rw [upd_ne hb]; exact g, u, hu, k.mono fun c w e => by rw [upd_ne (ne_of_none e hg)]; exact e⟩⟩, fun c w e => by rw [upd_ne (ne_of_none e hg)]; exact e,
    .lst upd_same (l.mono fun c w e => by rw [upd_ne (ne_of_none e hg)]; exact e), fun b hb => ⟨rfl, upd_ne hb⟩⟩
theorem recR_mut : RecR rMut := fun K G S H a xs acc Q vw ha hs hg l q =>
  ⟨supd S a (.lst acc), G, .ref a, q a hs, ⟨vw.gh, fun b o e => by
    by_cases hb : b = a
    · subst hb; rw [supd_same] at e; cases e; exact ⟨hg, _, ha, .lst l⟩
    · rw [supd_ne hb] at e; exact vw.st b o e⟩, Same.refl G, .ref a, fun b hb => ⟨supd_ne hb, rfl⟩⟩
theorem le_lc {K : PySem.W.Frag} {c : CT} {mi : VW} {mt : VT} {me : VE} {vs : List Nat} {R : List D → Store → (D → Store → Prop) → Prop} (hR : RecR R) (hw : c.within vs) (σ : L2.St) (H : Hp) (Q' : VK) (q : LE K (mLcG c mi mt me vs R) σ H Q') : tLc (LI K mi) (gCT K c) (LT K mt) (LE K me) vs σ H Q' := by
  obtain ⟨ρ, S, G, Q, vw, re, hm, k⟩ := q
  refine ⟨ρ, S, G, _, vw, re, hm, fun ds kp S1 H1 G1 J a1 wk ⟨hz, I, I0, step⟩ L hL => ?_⟩
  have n0 := a1.vw.none hL
  refine ⟨fun i m H2 => m = ds.length - i ∧ i ≤ ds.length ∧ ∃ acc xs S2 G2, Aft K G1 S1 H1 S2 H2 G2 ∧ H2 L = some (.lst xs) ∧ S2 L = none ∧ G2 L = none ∧ RpL K G2 xs acc ∧ acc.length ≤ i ∧ I i acc S2,
    ⟨_, rfl, Nat.zero_le _, [], [], S1, G1, (Aft.refl a1.vw).junk hL n0.2 n0.1, upd_same, n0.2, n0.1, .nil, Nat.le_refl _, I0⟩, ?_⟩
  rintro i m H2 ⟨rfl, hi, acc, xs, S2, G2, a2, hH, hS, hG, l, hl, h2⟩
  obtain ⟨hk, st⟩ := step i acc S2 h2
  by_cases hlt : i < ds.length
  · have e : ds[i]? = some ds[i] := by simp
    rw [e] at st
    simp only at st
    split at st
    · rename_i ρ3 eb
      refine .inr ⟨wk.goes i H2 G2 S2 hlt a2.gg a2.vw hk, fun H' => ∃ acc xs S' G', Aft K G1 S1 H1 S' H' G' ∧ H' L = some (.lst xs) ∧ S' L = none ∧ G' L = none ∧ RpL K G' xs acc ∧ acc.length ≤ i + 1 ∧ I (i + 1) acc S', ?_, fun x H3 hy => ?_⟩
      · rintro H' ⟨acc', xs', S', G', a', z1, z2, z3, z4, z5, z6⟩
        exact ⟨ds.length - (i + 1), by omega, rfl, hlt, acc', xs', S', G', a', z1, z2, z3, z4, z5, z6⟩
      · obtain ⟨G3, a3, rx⟩ := wk.yld i ds[i] H2 x H3 G2 S2 e a2.gg a2.vw hk hy
        have r0 : REnv K G3 (L2.wipe σ vs) (wipeD ρ vs) := (re.mono (a1.gg.trans (a2.gg.trans a3.gg))).wipe vs
        obtain ⟨σ3, r3, w3, k3⟩ := gCT_ok a3.vw.gh r0 rx eb
        have a13 := a2.trans a3
        obtain ⟨h3, s3, g3⟩ := a3.fr L _ hS hH
        refine k3 _ ⟨?_, ρ3, S2, G3, _, a3.vw, r3, st, fun b S4 H4 G4 a4 q4 => ?_⟩
        · rw [w3 vs hw]
          exact wipe_eq (wipe_length σ vs) fun j hj => by rw [wipe_get, if_neg (fun z => hj z.1)]
        · have a14 := a13.trans a4
          obtain ⟨h4, s4, g4⟩ := a4.fr L _ hS h3
          have l4 := (l.mono a3.gg).mono a4.gg
          cases b with
          | true =>
            refine ⟨ρ3, S4, G4, _, a4.vw, r3.mono a4.gg, q4, fun y S5 v H5 G5 a5 r5 q5 => ?_⟩
            obtain ⟨h5, s5, g5⟩ := a5.fr L _ s4 h4
            refine ⟨xs, h5, by have := l.length; omega, acc ++ [y], xs ++ [v], S5, G5, ((a14.trans a5)).junk hL s5 (by rw [g5, g4, g3]; exact hG), upd_same, s5, by rw [g5, g4, g3]; exact hG, (l4.mono a5.gg).append (.cons r5 .nil), by simp; exact hl, q5⟩
          | false => exact ⟨acc, xs, S4, G4, a14, h4, s4, by rw [g4, g3]; exact hG, l4, by omega, q4⟩
    · exact st.elim
  · have ei : i = ds.length := by omega
    subst ei
    rw [List.getElem?_eq_none (Nat.le_refl _)] at st
    refine .inl ⟨wk.stop H2 G2 S2 a2.gg a2.vw hk, ?_⟩
    obtain ⟨S', G', d, qd, v', gg, rd, ot⟩ := hR K G2 S2 H2 L xs acc Q a2.vw hH hS hG l st
    have a12 := a1.trans a2
    refine k d S' (.ref L) H2 G' ⟨fun b o hb eb => ?_, a12.gg.trans gg, v'⟩ rd qd
    obtain ⟨e1, e2, e3⟩ := a12.fr b o hb eb
    have hbL : b ≠ L := by
      intro z
      subst z
      have := (a1.fr b o hb eb).1
      rw [hL] at this
      cases this
    exact ⟨e1, by rw [(ot b hbL).1]; exact e2, by rw [(ot b hbL).2]; exact e3⟩
section
variable {c : CT} {elt tg iter : Expr} {ifs : List Expr} {scope : Scope} {own : List (Str × Nat)} {pos : Pos} {mi : VW} {mt : VT} {me : VE} {R : List D → Store → (D → Store → Prop) → Prop}
theorem v_lc (hR : RecR R) (hw : c.within (own.map (·.2))) (hc : X.calm = true) (hN : X.N.Nodup) (hi : PI X tg iter (LI X.K mi)) (ok : BlkOk X.N X.env.scope scope own)
    (hg : ∀ (s : Shared) (H : Hp) (C : Addr) (cl : List (Str × Addr)) (fp : List Addr), PG (X.blk s H scope (compEnvC scope cl C X.env) fp) tg (gCT X.K c)) (ht : ∀ (s : Shared) (H : Hp) (C : Addr) (cl : List (Str × Addr)) (fp : List Addr), PTs (X.blk s H scope (compEnvC scope cl C X.env) fp) ifs (LT X.K mt))
    (he : ∀ (s : Shared) (H : Hp) (C : Addr) (cl : List (Str × Addr)) (fp : List Addr), PE (X.blk s H scope (compEnvC scope cl C X.env) fp) elt (LE X.K me)) (hs : ∀ x, foldedSetIterable iter X.env x = pure x := by intro _; rfl) :
    PE X (.ListComp elt [⟨tg, iter, ifs, 0⟩] scope pos) (LE X.K (mLcG c mi mt me (own.map (·.2)) R)) :=
  PE.imp (pe_lc hc hN hi ok hg ht he hs) fun σ H Q' q => le_lc hR hw σ H Q' q
end
end
end VL
set_option maxHeartbeats 2000000
namespace VL
open PySem PySem.Spec L2
open PyProof.Rows hiding St
section
variable {X : Cx}
def mApp (mo me : VE) : VE := fun ρ S Q => mo ρ S fun o S1 => match o with
  | .ref a => (∃ ds, S1 a = some (.lst ds)) ∧ me ρ S1 fun d S2 => match S2 a with
    | some (.lst ds) => ds.length < sizeLine ∧ Q .non (supd S2 a (.lst (ds ++ [d])))
    | _ => False
  | _ => False
theorem v_app {o e : Expr} {mo me : VE} {apos cpos : Pos} (ho : PE X o (LE X.K mo)) (he : PE X e (LE X.K me))
    (w : PE X (.Call (.Attribute o "append" apos) [e] [] cpos) (tBM X.K "list" rAppend (LE X.K mo) (tCons (LE X.K me) tNil))) : PE X (.Call (.Attribute o "append" apos) [e] [] cpos) (LE X.K (mApp mo me)) := by
  refine PE.imp w fun σ H Q' ⟨ρ, S, G, Q, vw, re, hm, k⟩ => ?_
  refine ⟨ρ, S, G, _, vw, re, hm, fun o S1 v1 H1 G1 a1 r1 h1 => ?_⟩
  cases r1 <;> try exact h1.elim
  rename_i a
  obtain ⟨⟨ds0, e0⟩, h1⟩ := h1
  obtain ⟨_, u0, hu0, k0⟩ := a1.vw.st _ _ e0
  cases k0 with
  | lst l0 =>
    refine ⟨.inl ⟨rfl, _, SqL.of hu0⟩, ρ, S1, G1, _, a1.vw, re.mono a1.gg, h1, fun d S2 v2 H2 G2 a2 r2 h2 => ?_⟩
    split at h2
    · rename_i ds e
      obtain ⟨_, u, hu, ku⟩ := a2.vw.st _ _ e
      cases ku with
      | lst l =>
        have a3 := a2.vw.wrote (o' := .lst (ds ++ [d])) e (.lst (l.append (.cons r2 .nil)))
        exact ⟨a, _, v2, rfl, rfl, hu, by rw [l.length]; exact h2.1, k _ _ _ _ _ (a1.trans (a2.trans a3)) .non h2.2⟩
    · exact h2.elim
theorem claw {P : Program} {w : World} {K : PySem.W.Frag} {mg mb : Str → Option Value} {k : Nat} {fa a : Addr} {x nm : Str} {sp : VSp} {s₁ : Shared} {vs : List Value} {ns : List Int}
    (KX : K.In s₁.heap) (hns : s₁.heap.Ns mainGlobals mg) (hb : s₁.heap.Ns builtinsNs mb) (hbb : ∀ x : Str, x ≠ "__name__" → mb x = bootBuiltins x) (hlim : s₁.heap.NoLimit) (hg : s₁.gens = #[])
    (ha : s₁.heap.get? a = some { cls := .type "list", data := .seq vs.toArray }) (hi : IntsAre vs ns) (hl : ns.length ≤ sizeLine) (hr : Room k callerA) (hfa : mg nm = some (.ref fa))
    (F : ∀ base : Heap, K.In base → base.Ns mainGlobals mg → DefV P w K mg base k nm [x] sp)
    (hsp : ∀ Q : D → Store → Prop, (∀ S, Q (.bl true) S) → sp [.ro (ns.map D.int)] (fun _ => none) Q) :
    codeAny (model P w) callerA (.call (.ref fa) ⟨[.ref a], []⟩) (fun r s' => r = .ok (.ret (.bool true)) ∧ OldK s₁.heap s'.heap ∧ s'.os = s₁.os ∧ AllBare s'.gens) s₁ := by
  have rints : ∀ (G : Hp) (ns : List Int), RpL K G (ns.map V.int) (ns.map D.int) := fun G ns => by
    induction ns with
    | nil => exact .nil
    | cons n ns ih => exact .cons (.int n) ih
  have lenV := hi.length
  let Hs : Hp := fun b => if b = a then some (.frz { cls := .type "list", data := .seq vs.toArray } (.lst (ns.map V.int))) else none
  -- nothing is told of but the script, and not even that where the module itself has it
  suffices main : ∀ H : Hp, (∀ b, H b = none ∨ b = a ∧ H b = Hs a) → SqL K H a (ns.map V.int) → HOk P w H s₁.heap → (H a ≠ none → K.lookup a = none) →
      codeAny (model P w) callerA (.call (.ref fa) ⟨[.ref a], []⟩) (fun r s' => r = .ok (.ret (.bool true)) ∧ OldK s₁.heap s'.heap ∧ s'.os = s₁.os ∧ AllBare s'.gens) s₁ by
    cases hk : K.lookup a with
    | some o =>
      have e := (KX a o hk).symm.trans ha
      cases e
      exact main (fun _ => none) (fun _ => .inl rfl) (.inr ⟨_, vs.toArray, _, hk, rfl, rfl, rfl, by rw [List.size_toArray, lenV]; exact hl, vals_ints hi⟩) (fun _ _ z => nomatch z) fun z => absurd rfl z
    | none =>
      refine main Hs (fun b => ?_) (.inl (.inr ⟨_, if_pos rfl⟩)) (fun b u z => ?_) fun _ => hk
      · by_cases h : b = a
        · exact .inr ⟨h, by rw [h]⟩
        · exact .inl (if_neg h)
      · by_cases h : b = a
        · subst h
          have z' : some (HO.frz { cls := .type "list", data := .seq vs.toArray } (.lst (ns.map V.int))) = some u := (if_pos rfl).symm.trans z
          cases z'
          exact ⟨ha, by rw [List.length_map]; exact hl, vs, _, vals_ints hi, ha⟩
        · cases (if_neg h).symm.trans z
  intro H hO hS hok hK
  have notdict : ∀ {b : Addr} {o : Obj}, s₁.heap.get? b = some o → (∀ vs n, o.data ≠ .seq vs n) → H b = none := fun {b o} e d => (hO b).elim id fun ⟨z, _⟩ => by
    subst z
    rw [ha] at e
    cases e
    exact absurd rfl (d _ _)
  have nsK : ∀ {b : Addr} {m : Str → Option Value}, s₁.heap.Ns b m → (hidT s₁.heap H).Ns b m := fun ⟨o, es, ep, e, d, r⟩ => ⟨o, es, ep, hidT_get e (notdict e fun _ _ z => by rw [d] at z; cases z), d, r⟩
  have hKb : K.In (hidT s₁.heap H) := fun b o e => hidT_get (KX b o e) ((hO b).elim id fun ⟨z, _⟩ => by
    subst z
    cases q : H b with
    | none => rfl
    | some u => rw [hK (by rw [q]; exact nofun)] at e; cases e)
  have e0 : Env0 P w K mg (hidT s₁.heap H) callerA [] s₁ H := ⟨rfl, ⟨hKb, nsK hns, ⟨mb, nsK hb, hbb⟩, hlim.elim fun mc h => ⟨mc, nsK h.1, h.2⟩⟩, fun b o e => of_hidT e, Nat.le_of_eq (hidT_size _ _), trivial, fun b hb => (nomatch hb), hok, .of_eq hg⟩
  obtain ⟨f, fd, hm, hk, bd, G⟩ := (F _ hKb (nsK hns)).ex
  cases hfa.symm.trans hm
  refine codeAny_mono (G.go callerA [] s₁ H ⟨[.ref a], []⟩ [.ref a] [.ref a] (fun v _ => v = .bl true) (fun _ _ _ => False) hr rfl e0 (by simpa using bd s₁ [.ref a] KX rfl) (.cons rfl .nil)
    ⟨rfl, [.ro (ns.map D.int)], fun _ => none, H, fun d _ => d = .bl true, ⟨Same.refl H, fun _ _ z => nomatch z⟩, .cons (.ro hS (rints H ns)) .nil, hsp _ fun _ => rfl, fun d S' v H' G' _ r q => by subst q; cases r; rfl⟩) fun r s' h => ?_
  match r, h with
  | .error e, h => exact (show False from h).elim
  | .ok .next, h => exact (show False from h).elim
  | .ok .brk, h => exact (show False from h).elim
  | .ok .cont, h => exact (show False from h).elim
  | .ok (.ret u), ⟨v, H', os, bare, un, hok', r', q⟩ =>
    subst q
    obtain rfl : u = Value.bool true := r'
    refine ⟨rfl, OldK.of_keep fun b o e => ?_, os, bare⟩
    rcases hO b with z | ⟨z, z2⟩
    · exact un.keep b o e z (fun z => (nomatch z)) (by simp)
    · have z3 : H b = some (.frz { cls := .type "list", data := .seq vs.toArray } (.lst (ns.map V.int))) := z2.trans (if_pos rfl)
      obtain ⟨e1, _⟩ := hok b _ z3
      obtain ⟨e2, _⟩ := hok' b _ (un.frzs b _ _ z3)
      rw [e] at e1
      cases e1
      exact e2
/-- the end: from the promise of the law's def -/
theorem vwalk {l : PySem.W.OpenLaw} {n k : Nat} {q : Program} {loose : List Str} {XP : (Str → Option Value) → Heap → Prop} {YP : World → Heap → Prop} {d : DefRec} {K : Params → PySem.W.Frag} {sp : VSp} {x : Str}
    (hn : l.most = some n) (hn2 : n ≤ sizeLine) (hdf : d.params.defaults = []) (hr : Room k callerA) (hY : ∀ (w : World) (h : Heap), YP w h → (K w.params).In h)
    (F : ∀ (w : World) (mg : Str → Option Value) (h : Heap), (K w.params).In h → h.Ns mainGlobals mg → ∀ base : Heap, (K w.params).In base → base.Ns mainGlobals mg → DefV l.prog w (K w.params) mg base k d.name [x] sp)
    (hsp : ∀ (ns : List Int), ns.length ≤ n → ∀ Q : D → Store → Prop, (∀ S, Q (.bl true) S) → sp [.ro (ns.map D.int)] (fun _ => none) Q) : PySem.W.WalkO q loose XP YP l.row.toRowW d [] (fun f vs => PySem.call f vs) :=
  Att.attach_call hn hdf fun w s₀ s₁ mg mb fa o pm cd doc a vs ns G Y ho hd hcd hmg hobj hints hlen hg =>
    claw (hY w _ Y) G.T.g G.T.b G.T.builtins G.T.nolimit hg hobj hints (Nat.le_trans hlen hn2) hr hmg (fun base h1 h2 => F w mg _ (hY w _ Y) G.T.g base h1 h2) (hsp ns hlen)
end
end VL
set_option maxHeartbeats 2000000
namespace VL
open PySem PySem.Spec L2
open PyProof.Rows hiding St
section
variable {X : Cx}
/-- == of flat data -/
def eqF : D → D → Bool
  | .non, .non => true
  | .bl a, .bl b => a == b
  | .bl a, .int b => (if a then 1 else 0) == b
  | .int a, .bl b => a == (if b then 1 else 0)
  | .int a, .int b => a == b
  | .str a, .str b => a == b
  | _, _ => false
def inF (x : D) (ds : List D) : Bool := ds.any fun y => eqF y x
end
end VL
namespace VL
open PySem L2
end VL
namespace VL
open PySem L2
end VL
namespace VL
open PySem L2
section
variable {α : Type} {a b c d e : α} {l : List α}
theorem atI_lit (n : Nat) (l : List α) : atI l (n : Int) = l[n]? := by
  unfold atI ixN
  by_cases h : n < l.length
  · simp [h]
  · simp only [show (0 : Int) ≤ (n : Int) by omega, if_true, show ¬ (n : Int) < (l.length : Int) by omega, if_false, Option.bind_none]
    rw [List.getElem?_eq_none (by omega)]
theorem atI_0 : atI (a :: l) 0 = some a := atI_lit 0 (a :: l)
theorem atI_1 : atI (a :: b :: l) 1 = some b := atI_lit 1 (a :: b :: l)
theorem atI_2 : atI (a :: b :: c :: l) 2 = some c := atI_lit 2 (a :: b :: c :: l)
theorem atI_3 : atI (a :: b :: c :: d :: l) 3 = some d := atI_lit 3 (a :: b :: c :: d :: l)
theorem atI_4 : atI (a :: b :: c :: d :: e :: l) 4 = some e := atI_lit 4 (a :: b :: c :: d :: e :: l)
end
end VL
namespace VL
open PySem L2
section
variable {S : Store}
theorem tyn_non : tyn .non S = "NoneType" := rfl
theorem tyn_bl {b} : tyn (.bl b) S = "bool" := rfl
theorem tyn_int {b} : tyn (.int b) S = "int" := rfl
theorem tyn_str {b} : tyn (.str b) S = "str" := rfl
theorem tyn_tup {b} : tyn (.tup b) S = "tuple" := rfl
theorem tyn_lst {b} : tyn (.lst b) S = "list" := rfl
theorem tyn_ro {b} : tyn (.ro b) S = "list" := rfl
theorem tyn_dct {b} : tyn (.dct b) S = "dict" := rfl
theorem rdL_lst {b} : rdL (.lst b) S = some b := rfl
theorem rdL_tup {b} : rdL (.tup b) S = none := rfl
theorem rdL_int {b} : rdL (.int b) S = none := rfl
theorem rdR_lst {b} : rdR (.lst b) S = some b := rfl
theorem rdR_ro {b} : rdR (.ro b) S = some b := rfl
theorem rdS_tup {b} : rdS (.tup b) S = some b := rfl
theorem rdS_lst {b} : rdS (.lst b) S = some b := rfl
theorem rdS_ro {b} : rdS (.ro b) S = some b := rfl
theorem rdL_ref {a : Addr} {ds : List D} (h : S a = some (.lst ds)) : rdL (.ref a) S = some ds := by simp only [rdL, h]
theorem rdR_ref {a : Addr} {ds : List D} (h : S a = some (.lst ds)) : rdR (.ref a) S = some ds := rdL_ref h
theorem rdS_ref {a : Addr} {ds : List D} (h : S a = some (.lst ds)) : rdS (.ref a) S = some ds := rdL_ref h
theorem okq_non : okq S .non = True := by simp [okq, rsv, py, SeqAt.shaped, PyData.canLay0, PyData.depth]
theorem okq_bl {b} : okq S (.bl b) = True := by simp [okq, rsv, py, SeqAt.shaped, PyData.canLay0, PyData.depth]
theorem okq_int {b} : okq S (.int b) = True := by simp [okq, rsv, py, SeqAt.shaped, PyData.canLay0, PyData.depth]
theorem okq_str {b} : okq S (.str b) = (PyData.strOk b = true) := by simp [okq, rsv, py, SeqAt.shaped, PyData.canLay0, PyData.depth]
theorem eqq_int {a b : Int} : eqq S (.int a) (.int b) = decide (a = b) := by simp only [eqq, rsv, py, PyData.eqv]; exact Bool.beq_eq_decide_eq a b
theorem eqq_bl {a b : Bool} : eqq S (.bl a) (.bl b) = decide (a = b) := by simp only [eqq, rsv, py, PyData.eqv]; exact Bool.beq_eq_decide_eq a b
theorem eqq_str {a b : Str} : eqq S (.str a) (.str b) = decide (a = b) := by simp only [eqq, rsv, py, PyData.eqv]; exact Bool.beq_eq_decide_eq a b
end
end VL
namespace VL
open PySem L2
theorem cast0 : ((0 : Nat) : Int) = 0 := rfl
theorem cast1 : ((1 : Nat) : Int) = 1 := rfl
theorem cast2 : ((2 : Nat) : Int) = 2 := rfl
theorem cast3 : ((3 : Nat) : Int) = 3 := rfl
theorem cast4 : ((4 : Nat) : Int) = 4 := rfl
theorem cast5 : ((5 : Nat) : Int) = 5 := rfl
end VL
namespace VL
open PySem L2
def Pot (S : Store) (p : Addr) : Prop := ∃ a b : Int, S p = some (.lst [.int a, .int b]) ∧ 0 ≤ a ∧ 0 ≤ b ∧ b < 2147483648
def But (p : Addr) (S S' : Store) : Prop := ∀ q, q ≠ p → S' q = S q
theorem But.refl (p : Addr) (S : Store) : But p S S := fun _ _ => rfl
theorem But.trans {p : Addr} {S S1 S2 : Store} (a : But p S S1) (b : But p S1 S2) : But p S S2 := fun q h => (b q h).trans (a q h)
theorem But.supd {p : Addr} {S : Store} {o : SO} : But p S (supd S p o) := fun q h => supd_ne h
theorem Pot.mk' {S : Store} {p : Addr} {a b : Int} (ha : 0 ≤ a) (hb : 0 ≤ b) (hb2 : b < 2147483648) : Pot (VL.supd S p (.lst [.int a, .int b])) p := ⟨a, b, supd_same, ha, hb, hb2⟩
theorem cpow10 {n : Int} (h0 : 0 ≤ n) (h : n ≤ 1000000) : CPow 10 n := ⟨h0, h, by decide⟩
theorem cmul_l {i j : Int} (h0 : -(2 ^ 64) < i) (h1 : i < 2 ^ 64) : CMul i j := .inl ⟨h0, h1⟩
theorem cmul_r {i j : Int} (h0 : -(2 ^ 64) < j) (h1 : j < 2 ^ 64) : CMul i j := .inr ⟨h0, h1⟩
end VL
namespace VL
open PySem L2
theorem ixN20 : ixN 2 0 = some 0 := rfl
theorem ixN21 : ixN 2 1 = some 1 := rfl
theorem rdS_supd {S : Store} {p : Addr} {ds : List D} : rdS (.ref p) (supd S p (.lst ds)) = some ds := rdS_ref supd_same
theorem rdL_supd {S : Store} {p : Addr} {ds : List D} : rdL (.ref p) (supd S p (.lst ds)) = some ds := rdL_ref supd_same
theorem rdR_supd {S : Store} {p : Addr} {ds : List D} : rdR (.ref p) (supd S p (.lst ds)) = some ds := rdR_ref supd_same
end VL
namespace VL
open PySem L2
theorem atI_ints {ns : List Int} {k : Int} (h0 : 0 ≤ k) (h1 : k < (ns.length : Int)) : ∃ n, atI (ns.map D.int) k = some (.int n) := by
  obtain ⟨m, rfl⟩ : ∃ m : Nat, k = (m : Int) := ⟨k.toNat, by omega⟩
  have hm : m < ns.length := by omega
  exact ⟨ns[m], by rw [atI_lit, List.getElem?_map, List.getElem?_eq_getElem hm]; rfl⟩
end VL
set_option maxHeartbeats 2000000
namespace VL
open PySem PySem.Spec L2
open PyProof.Rows hiding St
section
variable {X : Cx}
def keyD : D → Option Key
  | .int i => some (.inl i)
  | .str x => some (.inr x)
  | _ => none
def keysD : List (D × D) → Option (List (Key × D))
  | [] => some []
  | (k, v) :: r => match keyD k, keysD r with
    | some k, some l => some ((k, v) :: l)
    | _, _ => none
def putD (kvs : List (Key × D)) (k : Key) (v : D) : List (Key × D) := if kvs.any (fun kv => decide (kv.1 = k)) then kvs.map (fun kv => if kv.1 = k then (kv.1, v) else kv) else kvs ++ [(k, v)]
def mergeD (kvs more : List (Key × D)) : List (Key × D) := more.foldl (fun acc kv => putD acc kv.1 kv.2) kvs
def valD (kvs : List (Key × D)) (k : Key) : Option D := (kvs.find? fun kv => decide (kv.1 = k)).map (·.2)
section
variable {K : PySem.W.Frag} {G : Hp}
theorem RpK.any {k : Key} : ∀ {kvs : List (Key × V)} {ds : List (Key × D)}, RpK K G kvs ds → (kvs.any fun kv => decide (kv.1 = k)) = ds.any fun kv => decide (kv.1 = k)
  | _, _, .nil => rfl
  | _, _, .cons _ t => by rw [List.any_cons, List.any_cons, t.any]
theorem RpK.repl {k : Key} {v : V} {d : D} (r : Rp K G v d) : ∀ {kvs : List (Key × V)} {ds : List (Key × D)}, RpK K G kvs ds → RpK K G (kvs.map fun kv => if kv.1 = k then (kv.1, v) else kv) (ds.map fun kv => if kv.1 = k then (kv.1, d) else kv)
  | _, _, .nil => .nil
  | _, _, .cons (k := k') h t => by
    rw [List.map_cons, List.map_cons]
    by_cases e : k' = k
    · simp only [e, if_true]; exact .cons r (t.repl r)
    · simp only [e, if_false]; exact .cons h (t.repl r)
theorem RpK.append : ∀ {kvs ls : List (Key × V)} {ds es : List (Key × D)}, RpK K G kvs ds → RpK K G ls es → RpK K G (kvs ++ ls) (ds ++ es)
  | _, _, _, _, .nil, s => s
  | _, _, _, _, .cons h t, s => .cons h (t.append s)
theorem RpK.put {k : Key} {v : V} {d : D} (r : Rp K G v d) {kvs : List (Key × V)} {ds : List (Key × D)} (h : RpK K G kvs ds) : RpK K G (putK kvs k v) (putD ds k d) := by
  unfold putK putD
  rw [h.any]
  split
  · exact h.repl r
  · exact h.append (.cons r .nil)
theorem RpK.val {k : Key} : ∀ {kvs : List (Key × V)} {ds : List (Key × D)}, RpK K G kvs ds → (valD ds k = none ∧ valV kvs k = none) ∨ ∃ v d, valD ds k = some d ∧ valV kvs k = some v ∧ Rp K G v d
  | _, _, .nil => .inl ⟨rfl, rfl⟩
  | _, _, .cons (k := k') h t => by
    unfold valD valV
    rw [List.find?_cons, List.find?_cons]
    by_cases e : k' = k
    · simp only [e, decide_true, Option.map_some]; exact .inr ⟨_, _, rfl, rfl, h⟩
    · simp only [e, decide_false]; exact t.val
theorem RpK.length : ∀ {kvs : List (Key × V)} {ds : List (Key × D)}, RpK K G kvs ds → kvs.length = ds.length
  | _, _, .nil => rfl
  | _, _, .cons _ t => by simp [t.length]
end
inductive RpP (K : PySem.W.Frag) (G : Hp) : List (V × V) → List (D × D) → Prop
  | nil : RpP K G [] []
  | cons {x y : V} {d e : D} {ps : List (V × V)} {qs : List (D × D)} (h : Rp K G x d) (h' : Rp K G y e) (t : RpP K G ps qs) : RpP K G ((x, y) :: ps) ((d, e) :: qs)
theorem RpP.keys {K : PySem.W.Frag} {G : Hp} : ∀ {ps : List (V × V)} {qs : List (D × D)} {l : List (Key × D)}, RpP K G ps qs → keysD qs = some l → ∃ kvs : List (Key × V), ps = kvs.map (fun kv => (kV kv.1, kv.2)) ∧ RpK K G kvs l
  | _, _, _, .nil, h => by cases h; exact ⟨[], rfl, .nil⟩
  | _, _, l, .cons (d := d) (qs := qs) h h' t, e => by
    unfold keysD at e
    split at e
    · rename_i k l' e1 e2
      cases e
      obtain ⟨kvs, rfl, r⟩ := t.keys e2
      cases h <;> simp only [keyD, Option.some.injEq, reduceCtorEq] at e1
      · subst e1; exact ⟨(.inl _, _) :: kvs, rfl, .cons h' r⟩
      · subst e1; exact ⟨(.inr _, _) :: kvs, rfl, .cons h' r⟩
    · cases e
def keyP : Key → PyData
  | .inl i => .int i
  | .inr x => .str x
mutual
def pyd : D → PyData
  | .non => .none | .bl b => .bool b | .int i => .int i | .str s => .str s
  | .tup ds => .tuple (pydL ds) | .lst ds => .list (pydL ds) | .ro ds => .list (pydL ds) | .dct kvs => .dict (pydK kvs) | .ref _ => .none
def pydL : List D → List PyData
  | [] => []
  | d :: ds => pyd d :: pydL ds
def pydK : List (Key × D) → List (PyData × PyData)
  | [] => []
  | (k, d) :: r => (keyP k, pyd d) :: pydK r
end
mutual
def whole : D → Bool
  | .non => true | .bl _ => true | .int _ => true | .str _ => true
  | .tup ds => wholeL ds | .lst ds => wholeL ds | .ro ds => wholeL ds | .dct kvs => wholeK kvs | .ref _ => false
def wholeL : List D → Bool
  | [] => true
  | d :: ds => whole d && wholeL ds
def wholeK : List (Key × D) → Bool
  | [] => true
  | (_, d) :: r => whole d && wholeK r
end
section
variable {pins : List (Addr × Obj)} {σ : L2.St} {H : Hp} {s : Shared} {G : Hp}
theorem pydK_keys : ∀ kvs : List (Key × D), (pydK kvs).map (·.1) = kvs.map fun kv => keyP kv.1
  | [] => rfl
  | (k, d) :: r => by simp only [pydK, List.map_cons, pydK_keys r]
theorem pydK_vals : ∀ kvs : List (Key × D), (pydK kvs).map (·.2) = pydL (kvs.map (·.2))
  | [] => rfl
  | (k, d) :: r => by simp only [pydK, List.map_cons, pydL, pydK_vals r]
/-- a thing of the heap with its text -/
def Shows (X : Cx) (s : Shared) (u : Value) (d : PyData) : Prop := ∃ bs as, Reads s.heap u d as ∧ ReadAtMost s.heap d.depth bs ∧ ReprK X.prog X.w bs s.heap d.depth u d.shown
def ShowsL (X : Cx) (s : Shared) (us : List Value) (ds : List PyData) : Prop := ∃ bs as, ReadsAll s.heap us ds as ∧ ReadAtMost s.heap (PyData.depthAll ds) bs ∧ ReprAllK X.prog X.w bs s.heap (PyData.depthAll ds) us (PyData.shownAll ds)
theorem ShowsL.cons {u : Value} {us : List Value} {d : PyData} {ds : List PyData} (h : Shows X s u d) (t : ShowsL X s us ds) : ShowsL X s (u :: us) (d :: ds) := by
  obtain ⟨b1, a1, r1, m1, k1⟩ := h
  obtain ⟨b2, a2, r2, m2, k2⟩ := t
  refine ⟨b1 ++ b2, _, .cons r1 r2, ?_, ?_⟩
  · exact (m1.mono (by simp only [PyData.depthAll]; omega)).append (m2.mono (by simp only [PyData.depthAll]; omega))
  · simp only [PyData.depthAll, PyData.shownAll]
    exact .cons ((k1.more fun b hb => List.mem_append_left _ hb).level_le (Nat.le_max_left _ _)) (k2.more_le (fun b hb => List.mem_append_right _ hb) (Nat.le_max_right _ _))
theorem shows_keys {P : Program} {w : World} : ∀ {es : List DictEntry} {vs : List (Key × Value)}, Pairs (mixKind P w) es vs → (∀ t ∈ PyData.shownAll (vs.map fun kv => keyP kv.1), t.length ≤ sizeLine) → PyData.showableAll (vs.map fun kv => keyP kv.1) = true →
    ShowsL X s (es.map (·.key)) (vs.map fun kv => keyP kv.1)
  | _, _, .nil, _, _ => ⟨[], [], .nil, (fun _ h => nomatch h), by simp only [List.map_nil, PyData.shownAll]; exact .nil⟩
  | e0 :: es, (k, v) :: vs, .cons h1 h2 t, hz, hs => by
    have hs' : (keyP k).showable = true ∧ PyData.showableAll (vs.map fun kv => keyP kv.1) = true := by simpa [PyData.showableAll] using hs
    have hz1 := hz _ (by rw [List.map_cons]; simp only [PyData.shownAll]; exact List.mem_cons_self)
    refine ShowsL.cons ?_ (shows_keys t (fun x hx => hz x (by rw [List.map_cons]; simp only [PyData.shownAll]; exact List.mem_cons_of_mem _ hx)) hs'.2)
    rcases keyIs_shape (k := k) h1 with ⟨i, t, rfl, e⟩ | ⟨x, t, rfl, e⟩
    · show Shows X s e0.key (keyP (.inl i))
      rw [e]
      exact ⟨[], _, .int i t, (fun _ h => nomatch h), by simp only [keyP, PyData.shown]; exact .of_is (ReprIs.int t (by simpa [PyData.showable, keyP] using hs'.1)) _ _ _⟩
    · show Shows X s e0.key (keyP (.inr x))
      rw [e]
      exact ⟨[], _, .str x t, (fun _ h => nomatch h), by simp only [keyP, PyData.shown]; exact .of_is (ReprIs.str x t (by simpa only [keyP, PyData.shown] using hz1)) _ _ _⟩
theorem kv_of {K : PySem.W.Frag} : ∀ {kvs : List (Key × V)} {ds : List (Key × D)} {vs : List (Key × Value)}, RpK K G kvs ds → KV kvs vs → (vs.map fun kv => keyP kv.1) = (ds.map fun kv => keyP kv.1) ∧ RpL K G (kvs.map (·.2)) (ds.map (·.2)) ∧ Vals (kvs.map (·.2)) (vs.map (·.2))
  | _, _, _, .nil, r => by cases r; exact ⟨rfl, .nil, .nil⟩
  | _, _, _, .cons h t, r => by
    cases r with
    | cons r rs =>
      obtain ⟨h1, h2, h3⟩ := kv_of t rs
      simp only [List.map_cons]
      exact ⟨by rw [h1, ← r.1], .cons h h2, .cons r.2 h3⟩
theorem pairs_vals {P : Program} {w : World} : ∀ {es : List DictEntry} {vs : List (Key × Value)}, Pairs (mixKind P w) es vs → es.map (·.val) = vs.map (·.2)
  | _, _, .nil => rfl
  | _, _, .cons h1 h2 t => by simp only [List.map_cons, h2, pairs_vals t]
mutual
theorem shows_of (I : Inv X pins σ H s) (g : Same G H) : ∀ (d : D) {v : V} {u : Value}, whole d = true → (pyd d).showable = true → (pyd d).shown.length ≤ sizeLine → Rp X.K G v d → RelV v u → Shows X s u (pyd d)
  | .non, _, _, _, _, _, .non, r => by cases r; exact ⟨[], _, .none, (fun _ h => nomatch h), by simp only [pyd, PyData.shown]; exact .of_is ReprIs.none _ _ _⟩
  | .bl b, _, _, _, _, _, .bl _, r => by cases r; exact ⟨[], _, .bool b, (fun _ h => nomatch h), by simp only [pyd, PyData.shown]; exact .of_is (ReprIs.bool b) _ _ _⟩
  | .int i, _, _, _, hs, _, .int _, r => by obtain ⟨t, rfl⟩ := r; exact ⟨[], _, .int i t, (fun _ h => nomatch h), by simp only [pyd, PyData.shown]; exact .of_is (ReprIs.int t (by simpa [pyd, PyData.showable] using hs)) _ _ _⟩
  | .str x, _, _, _, _, hz, .str _, r => by obtain ⟨t, rfl⟩ := r; exact ⟨[], _, .str x t, (fun _ h => nomatch h), by simp only [pyd, PyData.shown]; exact .of_is (ReprIs.str x t (by simpa only [pyd, PyData.shown] using hz)) _ _ _⟩
  | .tup ds, _, _, hw, hs, hz, .tup h l, r => by
    cases r
    have hz' : (tupleText (PyData.shownAll (pydL ds))).length ≤ sizeLine := by simpa only [pyd, PyData.shown] using hz
    obtain ⟨its, rv, ⟨o, h1, h2, n, h3⟩, _⟩ := I.tuple (same_t g h)
    obtain ⟨bs, as, h4, hb, hk⟩ := shows_ofL I g ds (by simpa [whole] using hw) (by simpa [pyd, PyData.showable] using hs) (fun t ht => Nat.le_trans (tupleText_mem_le ht) hz') l rv
    have rd : Reads s.heap _ (.tuple (pydL ds)) _ := .tuple h1 h2 h3 h4
    have hna := not_mem_of_deeper rd (by simp only [PyData.depth]; omega) hb
    refine ⟨_, _, rd, ReadAtMost.cons rd (Nat.le_succ _) hb, ?_⟩
    simp only [pyd, PyData.depth, PyData.shown]
    exact ReprK.tuple h1 h2 h3 hna hk
  | .lst ds, _, _, hw, hs, hz, .lst h l, r => by
    cases r
    exact shows_lst I g ds (SqL.of (g _ _ h)) (by simpa only [pyd, PyData.shown] using hz) (shows_ofL I g ds (by simpa [whole] using hw) (by simpa [pyd, PyData.showable] using hs) (fun t ht => Nat.le_trans (listText_mem_le ht) (by simpa only [pyd, PyData.shown] using hz)) l)
  | .ro ds, _, _, hw, hs, hz, .ro h l, r => by
    cases r
    exact shows_lst I g ds (g.seq h) (by simpa only [pyd, PyData.shown] using hz) (shows_ofL I g ds (by simpa [whole] using hw) (by simpa [pyd, PyData.showable] using hs) (fun t ht => Nat.le_trans (listText_mem_le ht) (by simpa only [pyd, PyData.shown] using hz)) l)
  | .dct kvs, _, _, hw, hs, hz, .dct (kvs := ks) h l, r => by
    cases r
    have hz' : (dictText (PyData.shownKv (pydK kvs))).length ≤ sizeLine := by simpa only [pyd, PyData.shown] using hz
    obtain ⟨_, hsys, vs, kv, o, es, ep, h1, ex, h3, _, hp, _⟩ := dk_rd I.hok (.inr ⟨_, g _ _ h⟩)
    obtain ⟨k1, k2, k3⟩ := kv_of l kv
    obtain ⟨hs1, hs2⟩ := PyData.showableKv_split (pydK kvs) (by simpa [pyd, PyData.showable] using hs)
    rw [pydK_keys] at hs1
    rw [pydK_vals] at hs2
    have z1 : ∀ t ∈ PyData.shownAll (kvs.map fun kv => keyP kv.1), t.length ≤ sizeLine := fun t ht => by
      obtain ⟨p, hp', hl⟩ := PyData.shownKv_key_le (pydK kvs) t (by rw [pydK_keys]; exact ht)
      exact Nat.le_trans hl (Nat.le_trans (dictText_mem_le hp') hz')
    have z2 : ∀ t ∈ PyData.shownAll (pydL (kvs.map (·.2))), t.length ≤ sizeLine := fun t ht => by
      obtain ⟨p, hp', hl⟩ := PyData.shownKv_val_le (pydK kvs) t (by rw [pydK_vals]; exact ht)
      exact Nat.le_trans hl (Nat.le_trans (dictText_mem_le hp') hz')
    obtain ⟨b1, a1, rd1, hb1, hk1⟩ := shows_keys (X := X) (s := s) hp (by rw [k1]; exact z1) (by rw [k1]; exact hs1)
    obtain ⟨b2, a2, rd2, hb2, hk2⟩ := shows_ofK I g kvs (by simpa [whole] using hw) hs2 z2 k2 k3
    rw [← pairs_vals hp] at rd2 hk2
    rw [k1, ← pydK_keys] at rd1 hb1 hk1
    rw [← pydK_vals] at rd2 hb2 hk2
    have rd : Reads s.heap _ (.dict (pydK kvs)) _ := .dict h1 ex.1 h3 rd1 rd2
    have hb : ReadAtMost s.heap (PyData.depthKv (pydK kvs)) (b1 ++ b2) := (hb1.mono (PyData.depthAll_keys_le _)).append (hb2.mono (PyData.depthAll_vals_le _))
    have hna := not_mem_of_deeper rd (by simp only [PyData.depth]; omega) hb
    refine ⟨_, _, rd, ReadAtMost.cons rd (Nat.le_succ _) hb, ?_⟩
    simp only [pyd, PyData.depth, PyData.shown, PyData.shownKv_eq]
    exact ReprK.dict h1 ex.1 h3 hsys hna (ReprEntriesK.of_two es.toList _ _ (hk1.more_le (fun b hb => List.mem_append_left _ hb) (PyData.depthAll_keys_le _)) (hk2.more_le (fun b hb => List.mem_append_right _ hb) (PyData.depthAll_vals_le _)))
  | .ref _, _, _, hw, _, _, _, _ => by simp [whole] at hw
theorem shows_ofL (I : Inv X pins σ H s) (g : Same G H) : ∀ (ds : List D) {vs : List V} {us : List Value}, wholeL ds = true → PyData.showableAll (pydL ds) = true → (∀ t ∈ PyData.shownAll (pydL ds), t.length ≤ sizeLine) → RpL X.K G vs ds → Vals vs us → ShowsL X s us (pydL ds)
  | [], _, _, _, _, _, .nil, r => by cases r; exact ⟨[], [], .nil, (fun _ h => nomatch h), by simp only [pydL, PyData.shownAll]; exact .nil⟩
  | d :: ds, _, _, hw, hs, hz, .cons h t, r => by
    cases r with
    | cons r rs =>
      have hw' : whole d = true ∧ wholeL ds = true := by simpa [wholeL] using hw
      have hs' : (pyd d).showable = true ∧ PyData.showableAll (pydL ds) = true := by simpa [pydL, PyData.showableAll] using hs
      exact ShowsL.cons (shows_of I g d hw'.1 hs'.1 (hz _ (by simp only [pydL, PyData.shownAll]; exact List.mem_cons_self)) h r) (shows_ofL I g ds hw'.2 hs'.2 (fun x hx => hz x (by simp only [pydL, PyData.shownAll]; exact List.mem_cons_of_mem _ hx)) t rs)
theorem shows_ofK (I : Inv X pins σ H s) (g : Same G H) : ∀ (kvs : List (Key × D)) {vs : List V} {us : List Value}, wholeK kvs = true → PyData.showableAll (pydL (kvs.map (·.2))) = true → (∀ t ∈ PyData.shownAll (pydL (kvs.map (·.2))), t.length ≤ sizeLine) → RpL X.K G vs (kvs.map (·.2)) → Vals vs us → ShowsL X s us (pydL (kvs.map (·.2)))
  | [], _, _, _, _, _, .nil, r => by cases r; exact ⟨[], [], .nil, (fun _ h => nomatch h), by simp only [List.map_nil, pydL, PyData.shownAll]; exact .nil⟩
  | (k, d) :: ds, _, _, hw, hs, hz, .cons h t, r => by
    cases r with
    | cons r rs =>
      have hw' : whole d = true ∧ wholeK ds = true := by simpa [wholeK] using hw
      have hs' : (pyd d).showable = true ∧ PyData.showableAll (pydL (ds.map (·.2))) = true := by simpa [pydL, PyData.showableAll] using hs
      exact ShowsL.cons (shows_of I g d hw'.1 hs'.1 (hz _ (by simp only [List.map_cons, pydL, PyData.shownAll]; exact List.mem_cons_self)) h r) (shows_ofK I g ds hw'.2 hs'.2 (fun x hx => hz x (by simp only [List.map_cons, pydL, PyData.shownAll]; exact List.mem_cons_of_mem _ hx)) t rs)
theorem shows_lst (I : Inv X pins σ H s) (g : Same G H) (ds : List D) {a : Addr} {xs : List V} (h : SqL X.K H a xs) (hz' : (listText (PyData.shownAll (pydL ds))).length ≤ sizeLine) (ih : ∀ {us : List Value}, Vals xs us → ShowsL X s us (pydL ds)) : Shows X s (.ref a) (.list (pydL ds)) := by
  obtain ⟨its, rv, ⟨o, n, h1, h2, _, h3⟩, _⟩ := I.list h
  obtain ⟨bs, as, h4, hb, hk⟩ := ih rv
  have rd : Reads s.heap _ (.list (pydL ds)) _ := .list h1 h2 h3 h4
  have hna := not_mem_of_deeper rd (by simp only [PyData.depth]; omega) hb
  refine ⟨_, _, rd, ReadAtMost.cons rd (Nat.le_succ _) hb, ?_⟩
  simp only [PyData.depth, PyData.shown]
  cases its with
  | nil =>
    generalize pydL ds = es at *
    cases h4
    simp only [PyData.shownAll, listText_nil]
    exact ReprK.listEmpty h1 h2 h3
  | cons x l => exact ReprK.list h1 h2 h3 hna (by simpa using hk.length_eq) (fun i y e => hk.item i y (by simpa using e))
end
/-- a list, tuple or dict by its repr -/
theorem shown_by (I : Inv X pins σ H s) (g : Same G H) (d : D) {a : Addr} (hw : whole d = true) (hs : (pyd d).showable = true) (hz : (pyd d).shown.length ≤ sizeLine) (r : Rp X.K G (.ref a) d) : ∃ T idr, ShowsBy X.prog X.w s.heap a (pyd d) T idr := by
  have lst : ∀ {ds : List D} {xs : List V}, SqL X.K H a xs → (listText (PyData.shownAll (pydL ds))).length ≤ sizeLine → (∀ {us : List Value}, Vals xs us → ShowsL X s us (pydL ds)) → ∃ T idr, ShowsBy X.prog X.w s.heap a (.list (pydL ds)) T idr := by
    intro ds xs h hz' ih
    obtain ⟨its, rv, ⟨o, n, h1, h2, _, h3⟩, _⟩ := I.list h
    obtain ⟨bs, as, h4, hb, hk⟩ := ih rv
    have rd : Reads s.heap _ (.list (pydL ds)) _ := .list h1 h2 h3 h4
    have hna := not_mem_of_deeper rd (by simp only [PyData.depth]; omega) hb
    refine ⟨"list", "list.__repr__", F.slot_list_repr.toG, F.slot_list_str, F.slot_list_format, fun s' hk0 => ⟨o, hk0 _ _ h1, h2⟩, fun A E s' Q hg hu hk0 hQ => ?_⟩
    simp only [PyData.depth] at hu
    simp only [PyData.shown] at hQ
    cases its with
    | nil =>
      generalize pydL ds = es at *
      cases h4
      simp only [PyData.shownAll, listText_nil] at hQ
      exact call_list_repr_empty ⟨o, hk0 _ _ h1, h2⟩ (hk0 _ _ h1) h3 (hQ s'.heap _ _ fun _ _ e => e)
    | cons x l => exact call_list_reprK h1 h2 h3 hna (by simpa using hk.length_eq) (fun i y e => hk.item i y (by simpa using e)) hg (fun b _ => Clear.nil b) hu hk0 hQ hz'
  cases r with
  | ref => simp [whole] at hw
  | @lst _ xs ds h l => exact lst (SqL.of (g _ _ h)) (by simpa only [pyd, PyData.shown] using hz) (shows_ofL I g ds (by simpa [whole] using hw) (by simpa [pyd, PyData.showable] using hs) (fun t ht => Nat.le_trans (listText_mem_le ht) (by simpa only [pyd, PyData.shown] using hz)) l)
  | @ro _ xs ds h l => exact lst (g.seq h) (by simpa only [pyd, PyData.shown] using hz) (shows_ofL I g ds (by simpa [whole] using hw) (by simpa [pyd, PyData.showable] using hs) (fun t ht => Nat.le_trans (listText_mem_le ht) (by simpa only [pyd, PyData.shown] using hz)) l)
  | @tup _ xs ds h l =>
    have hz' : (tupleText (PyData.shownAll (pydL ds))).length ≤ sizeLine := by simpa only [pyd, PyData.shown] using hz
    obtain ⟨its, rv, ⟨o, h1, h2, n, h3⟩, _⟩ := I.tuple (same_t g h)
    obtain ⟨bs, as, h4, hb, hk⟩ := shows_ofL I g ds (by simpa [whole] using hw) (by simpa [pyd, PyData.showable] using hs) (fun t ht => Nat.le_trans (tupleText_mem_le ht) hz') l rv
    have rd : Reads s.heap _ (.tuple (pydL ds)) _ := .tuple h1 h2 h3 h4
    have hna := not_mem_of_deeper rd (by simp only [PyData.depth]; omega) hb
    refine ⟨"tuple", "tuple.__repr__", F.slot_tuple_repr, F.slot_tuple_str, F.slot_tuple_format, fun s' hk0 => ⟨o, hk0 _ _ h1, h2⟩, fun A E s' Q hg hu hk0 hQ => ?_⟩
    simp only [pyd, PyData.depth] at hu
    simp only [pyd, PyData.shown] at hQ
    exact call_tuple_reprK h1 h2 h3 hna hk hg (fun b _ => Clear.nil b) hu hk0 hQ hz'
  | @dct _ ob ks kvs h l =>
    obtain ⟨bs0, as0, rd0, _, _⟩ := shows_of I g (.dct kvs) hw hs hz (.dct h l) (rfl : RelV (.ref a) (.ref a))
    have hz' : (dictText (PyData.shownKv (pydK kvs))).length ≤ sizeLine := by simpa only [pyd, PyData.shown] using hz
    obtain ⟨_, hsys, vs, kv, o, es, ep, h1, ex, h3, _, hp, _⟩ := dk_rd I.hok (.inr ⟨_, g _ _ h⟩)
    obtain ⟨k1, k2, k3⟩ := kv_of l kv
    obtain ⟨hs1, hs2⟩ := PyData.showableKv_split (pydK kvs) (by simpa [pyd, PyData.showable] using hs)
    rw [pydK_keys] at hs1
    rw [pydK_vals] at hs2
    have z1 : ∀ t ∈ PyData.shownAll (kvs.map fun kv => keyP kv.1), t.length ≤ sizeLine := fun t ht => by
      obtain ⟨p, hp', hl⟩ := PyData.shownKv_key_le (pydK kvs) t (by rw [pydK_keys]; exact ht)
      exact Nat.le_trans hl (Nat.le_trans (dictText_mem_le hp') hz')
    have z2 : ∀ t ∈ PyData.shownAll (pydL (kvs.map (·.2))), t.length ≤ sizeLine := fun t ht => by
      obtain ⟨p, hp', hl⟩ := PyData.shownKv_val_le (pydK kvs) t (by rw [pydK_vals]; exact ht)
      exact Nat.le_trans hl (Nat.le_trans (dictText_mem_le hp') hz')
    obtain ⟨b1, a1, rd1, hb1, hk1⟩ := shows_keys (X := X) (s := s) hp (by rw [k1]; exact z1) (by rw [k1]; exact hs1)
    obtain ⟨b2, a2, rd2, hb2, hk2⟩ := shows_ofK I g kvs (by simpa [whole] using hw) hs2 z2 k2 k3
    rw [← pairs_vals hp] at rd2 hk2
    rw [k1, ← pydK_keys] at rd1 hb1 hk1
    rw [← pydK_vals] at rd2 hb2 hk2
    have rd : Reads s.heap _ (.dict (pydK kvs)) _ := .dict h1 ex.1 h3 rd1 rd2
    have hb : ReadAtMost s.heap (PyData.depthKv (pydK kvs)) (b1 ++ b2) := (hb1.mono (PyData.depthAll_keys_le _)).append (hb2.mono (PyData.depthAll_vals_le _))
    have hna := not_mem_of_deeper rd (by simp only [PyData.depth]; omega) hb
    refine ⟨"dict", "dict.__repr__", F.slot_dict_repr, F.slot_dict_str, F.slot_dict_format, fun s' hk0 => ⟨o, hk0 _ _ h1, ex.1⟩, fun A E s' Q hg hu hk0 hQ => ?_⟩
    simp only [pyd, PyData.depth] at hu
    simp only [pyd, PyData.shown, PyData.shownKv_eq] at hQ
    exact call_dict_reprK h1 ex.1 h3 hsys hna (ReprEntriesK.of_two es.toList _ _ (hk1.more_le (fun b hb => List.mem_append_left _ hb) (PyData.depthAll_keys_le _)) (hk2.more_le (fun b hb => List.mem_append_right _ hb) (PyData.depthAll_vals_le _))) hg (fun b _ => Clear.nil b) hu hk0 hQ (by rw [← PyData.shownKv_eq]; exact hz')
end
/-- what a text of data wants -/
def fitW (d : D) : Prop := whole d = true ∧ (pyd d).showable = true ∧ (pyd d).depth ≤ 50 ∧ (pyd d).shown.length ≤ sizeLine
def mReprW : CV := fun ds S Q => match ds with
  | [d] => fitW (rsv S d) ∧ Q (.str (pyd (rsv S d)).shown) S
  | _ => False
theorem rsv_rp {K : PySem.W.Frag} {G H : Hp} {S : Store} {d : D} {v : V} (vw : View K G S H) (hw : whole (rsv S d) = true) (r : Rp K G v d) : ∃ G', Same G' H ∧ Rp K G' v (rsv S d) := by
  cases d with
  | ref a =>
    cases r
    cases e : S a with
    | none => simp [rsv, e, whole] at hw
    | some o =>
      obtain ⟨_, u, hu, k⟩ := vw.st a _ e
      cases k with
      | lst l => simp only [rsv, e]; exact ⟨H, Same.refl H, .lst hu (l.mono vw.gh)⟩
      | dct l => simp [rsv, e, whole] at hw
      | _ => simp [rsv, e, whole] at hw
  | _ => exact ⟨G, vw.gh, r⟩
theorem cv_reprW (hgd : X.A.guards = some []) (hu : X.A.units + 64 < cLine) : CallV X (.builtin "repr") mReprW := by
  refine ⟨fun vs H Q => ∃ d v G, vs = [v] ∧ Same G H ∧ Rp X.K G v d ∧ whole d = true ∧ (pyd d).showable = true ∧ (pyd d).depth ≤ 50 ∧ (pyd d).shown.length ≤ sizeLine ∧ Q (.str (pyd d).shown) H, ?_, ?_⟩
  · intro pins s σ H xs us Q I r h
    obtain ⟨d, v, G, rfl, g, rp, hw, h1, h3, h4, q⟩ := h
    obtain ⟨u, rfl, ru⟩ := vals1 r
    have top : ∀ a, v = .ref a → wpAny (model X.prog X.w) X.A (call (.builtin "repr") [u]) (EP X pins σ Q) X.xe s := fun a e => by
      subst e
      cases ru
      obtain ⟨T, idr, Sb⟩ := shown_by I g d hw h1 h4 rp
      exact call_repr_slot (by omega) (Sb.typeIs s fun _ _ e => e) Sb.slotRepr (Sb.call X.A.in1 X.xe s _ hgd (by show X.A.units + 1 + _ < cLine; omega) (fun _ _ e => e) fun h' u tk kk => ⟨_, _, rfl, .str _, H, I.kept kk, ⟨_, rfl⟩, q⟩)
    cases rp with
    | non => cases ru; exact PySem.P.repr_of_none ⟨.str _, H, I.tok _, ⟨_, rfl⟩, by simpa only [pyd, PyData.shown] using q⟩
    | bl b => cases ru; simp only [pyd, PyData.shown] at q; exact PySem.P.repr_of_bool ⟨.str _, H, I.tok _, ⟨_, rfl⟩, q⟩
    | int i => obtain ⟨t, rfl⟩ := ru; simp only [pyd, PyData.shown] at q; exact PySem.P.repr_of_int (by simpa [pyd, PyData.showable] using h1) ⟨.str _, H, I.tok _, ⟨_, rfl⟩, q⟩
    | str x => obtain ⟨t, rfl⟩ := ru; simp only [pyd, PyData.shown] at q h4; exact PySem.P.repr_of_str ⟨.str _, H, I.tok _, ⟨_, rfl⟩, q⟩ h4
    | ref a => simp [whole] at hw
    | tup h l => exact top _ rfl
    | lst h l => exact top _ rfl
    | ro h l => exact top _ rfl
    | dct h l => exact top _ rfl
  · intro ds vs G S H Q Q' vw rl h k
    unfold mReprW at h
    split at h
    · cases rl with
      | cons r t =>
        cases t
        obtain ⟨⟨h0, h1, h2, h3⟩, q⟩ := h
        obtain ⟨G', g', r'⟩ := rsv_rp vw h0 r
        exact ⟨_, _, G', rfl, g', r', h0, h1, h2, h3, k _ S _ H G (Aft.refl vw) (.str _) q⟩
    · exact h.elim
end
end VL
set_option maxHeartbeats 2000000
namespace VL
open PySem PySem.Spec L2
open PyProof.Rows hiding St
def smlI (i : Int) : Bool := decide (i.natAbs < 10 ^ 150)
theorem smlI_of {i : Int} (h0 : -1000000000000000000000000000000000000000000000 < i) (h1 : i < 1000000000000000000000000000000000000000000000) : smlI i = true := decide_eq_true (by omega)
def smlKey : Key → Bool
  | .inl i => smlI i
  | .inr x => PyData.strOk x
def cntKey : Key → Nat
  | .inl _ => 151
  | .inr x => 10 * x.length + 2
mutual
/-- small parts: ints of sixty figures, texts of true signs -/
def sml : D → Bool
  | .non => true | .bl _ => true | .int i => smlI i | .str s => PyData.strOk s
  | .tup ds => smlL ds | .lst ds => smlL ds | .ro ds => smlL ds | .dct kvs => smlK kvs | .ref _ => false
def smlL : List D → Bool
  | [] => true
  | d :: ds => sml d && smlL ds
def smlK : List (Key × D) → Bool
  | [] => true
  | (k, d) :: r => smlKey k && sml d && smlK r
end
mutual
/-- how many signs at most -/
def cnt : D → Nat
  | .non => 4 | .bl _ => 5 | .int _ => 151 | .str s => 10 * s.length + 2
  | .tup ds => cntL ds + 3 | .lst ds => cntL ds + 3 | .ro ds => cntL ds + 3 | .dct kvs => cntK kvs + 3 | .ref _ => 0
def cntL : List D → Nat
  | [] => 0
  | d :: ds => cnt d + 2 + cntL ds
def cntK : List (Key × D) → Nat
  | [] => 0
  | (k, d) :: r => cntKey k + cnt d + 4 + cntK r
end
mutual
def dep : D → Nat
  | .tup ds => depL ds + 1 | .lst ds => depL ds + 1 | .ro ds => depL ds + 1 | .dct kvs => depK kvs + 1
  | .non => 0 | .bl _ => 0 | .int _ => 0 | .str _ => 0 | .ref _ => 0
def depL : List D → Nat
  | [] => 0
  | d :: ds => max (dep d) (depL ds)
def depK : List (Key × D) → Nat
  | [] => 0
  | (_, d) :: r => max (dep d) (depK r)
end
theorem int_len60 {i : Int} (h : i.natAbs < 10 ^ 150) : (Str.ofString (toString i)).length ≤ 151 := by
  have h1 := int_text_length_le10 (a := i) (k := 150) (by decide) h
  rw [PySem.ofString_length]; omega
theorem log60 {i : Int} (h : i.natAbs < 10 ^ 150) : i.natAbs.log2 < 1920 := Nat.lt_of_lt_of_le (PySem.Flt.log2_lt_of (show 0 < 500 by decide) (Nat.lt_of_lt_of_le h (show 10 ^ 150 ≤ 2 ^ 500 by decide))) (by decide)
theorem str_len {s : Str} (h : PyData.strOk s = true) : (reprText s).length ≤ 10 * s.length + 2 := PySem.StrLaws.reprText_len s fun c hc => by
  have h' := (Array.all_eq_true_iff_forall_mem.mp h) c (by simpa using hc)
  have := of_decide_eq_true h'
  omega
theorem keyP_ok {k : Key} (h : smlKey k = true) : (keyP k).showable = true ∧ (keyP k).shown.length ≤ cntKey k := by
  cases k with
  | inl i =>
    have h' : i.natAbs < 10 ^ 150 := of_decide_eq_true h
    exact ⟨by simpa [keyP, PyData.showable] using log60 h', by simpa only [keyP, PyData.shown, cntKey] using int_len60 h'⟩
  | inr x => exact ⟨rfl, by simpa only [keyP, PyData.shown, cntKey] using str_len h⟩
mutual
theorem sml_ok : ∀ d : D, sml d = true → whole d = true ∧ (pyd d).showable = true ∧ (pyd d).shown.length ≤ cnt d ∧ (pyd d).depth ≤ dep d
  | .non, _ => ⟨rfl, rfl, by simp only [pyd, PyData.shown]; decide, by simp [pyd, PyData.depth]⟩
  | .bl b, _ => ⟨rfl, rfl, by simp only [pyd, PyData.shown]; cases b <;> decide, by simp [pyd, PyData.depth]⟩
  | .int i, h => by
    have h' : i.natAbs < 10 ^ 150 := of_decide_eq_true (by simpa only [sml, smlI] using h)
    exact ⟨rfl, by simpa [pyd, PyData.showable] using log60 h', by simpa only [pyd, PyData.shown, cnt] using int_len60 h', by simp [pyd, PyData.depth]⟩
  | .str s, h => ⟨rfl, rfl, by simpa only [pyd, PyData.shown, cnt] using str_len (by simpa [sml] using h), by simp [pyd, PyData.depth]⟩
  | .tup ds, h => by
    obtain ⟨a, b, c, e⟩ := smlL_ok ds (by simpa [sml] using h)
    refine ⟨by simpa [whole] using a, by simpa [pyd, PyData.showable] using b, ?_, by simp only [pyd, PyData.depth, dep]; omega⟩
    simp only [pyd, PyData.shown, cnt]
    exact Nat.le_trans (tupleText_len_le _) (by omega)
  | .lst ds, h => by
    obtain ⟨a, b, c, e⟩ := smlL_ok ds (by simpa [sml] using h)
    refine ⟨by simpa [whole] using a, by simpa [pyd, PyData.showable] using b, ?_, by simp only [pyd, PyData.depth, dep]; omega⟩
    simp only [pyd, PyData.shown, cnt]
    exact Nat.le_trans (listText_len_le _) (by omega)
  | .ro ds, h => by
    obtain ⟨a, b, c, e⟩ := smlL_ok ds (by simpa [sml] using h)
    refine ⟨by simpa [whole] using a, by simpa [pyd, PyData.showable] using b, ?_, by simp only [pyd, PyData.depth, dep]; omega⟩
    simp only [pyd, PyData.shown, cnt]
    exact Nat.le_trans (listText_len_le _) (by omega)
  | .dct kvs, h => by
    obtain ⟨a, b, c, e⟩ := smlK_ok kvs (by simpa [sml] using h)
    refine ⟨by simpa [whole] using a, by simpa [pyd, PyData.showable] using b, ?_, by simp only [pyd, PyData.depth, dep]; omega⟩
    simp only [pyd, PyData.shown, cnt]
    exact Nat.le_trans (dictText_len_le _) (by omega)
  | .ref _, h => by simp [sml] at h
theorem smlL_ok : ∀ ds : List D, smlL ds = true → wholeL ds = true ∧ PyData.showableAll (pydL ds) = true ∧ ((PyData.shownAll (pydL ds)).map (·.length)).sum + 2 * (PyData.shownAll (pydL ds)).length ≤ cntL ds ∧ PyData.depthAll (pydL ds) ≤ depL ds
  | [], _ => ⟨rfl, rfl, by simp [pydL, PyData.shownAll, cntL], by simp [pydL, PyData.depthAll, depL]⟩
  | d :: ds, h => by
    have h' : sml d = true ∧ smlL ds = true := by simpa [smlL] using h
    obtain ⟨a, b, c, e⟩ := sml_ok d h'.1
    obtain ⟨a', b', c', e'⟩ := smlL_ok ds h'.2
    refine ⟨by simp [wholeL, a, a'], by simp [pydL, PyData.showableAll, b, b'], ?_, by simp only [pydL, PyData.depthAll, depL]; omega⟩
    simp only [pydL, PyData.shownAll, List.map_cons, List.sum_cons, List.length_cons, cntL]
    omega
theorem smlK_ok : ∀ kvs : List (Key × D), smlK kvs = true → wholeK kvs = true ∧ PyData.showableKv (pydK kvs) = true ∧ ((PyData.shownKv (pydK kvs)).map (·.length)).sum + 2 * (PyData.shownKv (pydK kvs)).length ≤ cntK kvs ∧ PyData.depthKv (pydK kvs) ≤ depK kvs
  | [], _ => ⟨rfl, rfl, by simp [pydK, PyData.shownKv, cntK], by simp [pydK, PyData.depthKv, depK]⟩
  | (k, d) :: r, h => by
    have h' : (smlKey k = true ∧ sml d = true) ∧ smlK r = true := by simpa [smlK] using h
    obtain ⟨a, b, c, e⟩ := sml_ok d h'.1.2
    obtain ⟨a', b', c', e'⟩ := smlK_ok r h'.2
    obtain ⟨k1, k2⟩ := keyP_ok h'.1.1
    have k3 : (keyP k).depth = 0 := by cases k <;> simp [keyP, PyData.depth]
    refine ⟨by simp [wholeK, a, a'], by simp [pydK, PyData.showableKv, k1, b, b'], ?_, by simp only [pydK, PyData.depthKv, depK]; omega⟩
    simp only [pydK, PyData.shownKv, List.map_cons, List.sum_cons, List.length_cons, cntK, strLen_append]
    have : (Str.ofString ": ").length = 2 := by decide
    omega
end
theorem fitW_of {d : D} (h : sml d = true) (hc : cnt d ≤ 16000000) (hd : dep d ≤ 50) : fitW d := by
  obtain ⟨a, b, c, e⟩ := sml_ok d h
  exact ⟨a, b, by omega, Nat.le_trans c (Nat.le_trans hc (by decide))⟩
end VL
set_option maxHeartbeats 2000000
namespace VL
open PySem PySem.Spec L2
open PyProof.Rows hiding St
section
variable {X : Cx}
theorem rngD_get {lo : Int} {n i : Nat} (h : i < n) : (rngD lo n)[i]? = some (.int (lo + (i : Int))) := by
  simp [rngD, h]
theorem rngD_len {lo : Int} {n : Nat} : (rngD lo n).length = n := by simp [rngD]
theorem for_list {ds : List D} {kp : Store → Prop} {c : CT} {mb : VS} {E : VEnds} {ρ : Sl} {S : Store} (I : Nat → Sl → Store → Prop) (h0 : I 0 ρ S) (hk : ∀ i ρ2 S2, I i ρ2 S2 → kp S2)
    (hs : ∀ i d ρ2 S2, ds[i]? = some d → I i ρ2 S2 → match mCT c d ρ2 with
      | some ρ3 => mb (E.loop (I (i + 1))) ρ3 S2
      | none => False)
    (he : ∀ ρ2 S2, I ds.length ρ2 S2 → E.nx ρ2 S2) : ∃ I : Nat → Sl → Store → Prop, I 0 ρ S ∧ ∀ i ρ2 S2, I i ρ2 S2 → kp S2 ∧ match ds[i]? with
  | none => E.nx ρ2 S2
  | some d => match mCT c d ρ2 with
    | some ρ3 => mb (E.loop (I (i + 1))) ρ3 S2
    | none => False := by
  have mono : ∀ {i : Nat} {d : D}, ds[i]? = some d → (fun ρ' S' => I (i + 1) ρ' S') = fun ρ' S' => i + 1 ≤ ds.length ∧ I (i + 1) ρ' S' := fun {i d} e => by
    have := getE e
    funext ρ' S'
    exact propext ⟨fun h => ⟨by omega, h⟩, fun h => h.2⟩
  refine ⟨fun i ρ2 S2 => i ≤ ds.length ∧ I i ρ2 S2, ⟨Nat.zero_le _, h0⟩, fun i ρ2 S2 ⟨hl, h⟩ => ⟨hk i ρ2 S2 h, ?_⟩⟩
  cases e : ds[i]? with
  | none =>
    have : i = ds.length := by have := List.getElem?_eq_none_iff.mp e; omega
    subst this
    exact he ρ2 S2 h
  | some d =>
    have := hs i d ρ2 S2 e h
    simp only [← mono e]
    exact this
theorem for_rng {lo : Int} {n : Nat} {kp : Store → Prop} {c : CT} {mb : VS} {E : VEnds} {ρ : Sl} {S : Store} (I : Nat → Sl → Store → Prop) (h0 : I 0 ρ S) (hk : ∀ i ρ2 S2, I i ρ2 S2 → kp S2)
    (hs : ∀ (i : Nat) ρ2 S2, i < n → I i ρ2 S2 → match mCT c (.int (lo + (i : Int))) ρ2 with
      | some ρ3 => mb (E.loop (I (i + 1))) ρ3 S2
      | none => False)
    (he : ∀ ρ2 S2, I n ρ2 S2 → E.nx ρ2 S2) : ∃ I : Nat → Sl → Store → Prop, I 0 ρ S ∧ ∀ i ρ2 S2, I i ρ2 S2 → kp S2 ∧ match (rngD lo n)[i]? with
  | none => E.nx ρ2 S2
  | some d => match mCT c d ρ2 with
    | some ρ3 => mb (E.loop (I (i + 1))) ρ3 S2
    | none => False := by
  refine for_list I h0 hk (fun i d ρ2 S2 e h => ?_) fun ρ2 S2 h => he ρ2 S2 (by rwa [rngD_len] at h)
  have hi : i < n := by have := getE e; rwa [rngD_len] at this
  rw [rngD_get hi] at e
  cases e
  exact hs i ρ2 S2 hi h
/-- a comprehension whose turns leave the store as it is -/
theorem lc_turns {ds : List D} {kp : Store → Prop} {c : CT} {mt : VT} {me : VE} {vs : List Nat} {R : List D → Store → (D → Store → Prop) → Prop} {ρ : Sl} {S : Store} {Q : D → Store → Prop} (f : D → List D) (hl : ds.length ≤ sizeLine) (hk : kp S)
    (hs : ∀ d ∈ ds, ∀ J : List D → Store → Prop, J (f d) S → match mCT c d (wipeD ρ vs) with
      | some ρ3 => mt ρ3 S fun b S3 => if b = true then me ρ3 S3 fun y S4 => J [y] S4 else J [] S3
      | none => False)
    (hR : R (ds.flatMap f) S Q) : ds.length ≤ sizeLine ∧ ∃ I : Nat → List D → Store → Prop, I 0 [] S ∧ ∀ i acc S2, I i acc S2 → kp S2 ∧ match ds[i]? with
  | none => R acc S2 Q
  | some d => match mCT c d (wipeD ρ vs) with
    | some ρ3 => mt ρ3 S2 fun b S3 => if b = true then me ρ3 S3 fun y S4 => I (i + 1) (acc ++ [y]) S4 else I (i + 1) acc S3
    | none => False := by
  refine ⟨hl, fun i acc S2 => S2 = S ∧ acc = (ds.take i).flatMap f, ⟨rfl, by simp⟩, ?_⟩
  rintro i acc S2 ⟨rfl, rfl⟩
  refine ⟨hk, ?_⟩
  cases e : ds[i]? with
  | none =>
    have : ds.length ≤ i := List.getElem?_eq_none_iff.mp e
    rw [List.take_of_length_le this]
    exact hR
  | some d =>
    have hi := getE e
    have hd : ds[i] = d := by rw [List.getElem?_eq_getElem hi] at e; cases e; rfl
    have tk : ds.take (i + 1) = ds.take i ++ [d] := by rw [List.take_succ, e]; rfl
    have hJ := hs d (by rw [← hd]; exact List.getElem_mem hi) (fun y S4 => S4 = S2 ∧ (ds.take i).flatMap f ++ y = (ds.take (i + 1)).flatMap f) ⟨rfl, by rw [tk, List.flatMap_append]; simp⟩
    simp only [List.append_nil] at hJ
    exact hJ
end
theorem smlL_mem : ∀ {ds : List D} {d : D}, smlL ds = true → d ∈ ds → sml d = true
  | e :: ds, d, h, m => by
    have h' : sml e = true ∧ smlL ds = true := by simpa [smlL] using h
    cases m with
    | head => exact h'.1
    | tail _ m => exact smlL_mem h'.2 m
/-- small data, and how far -/
def Sm (n m : Nat) (d : D) : Prop := sml d = true ∧ cnt d ≤ n ∧ dep d ≤ m
theorem Sm.mono {n m n' m' : Nat} {d : D} (h : Sm n m d) (a : n ≤ n') (b : m ≤ m') : Sm n' m' d := ⟨h.1, Nat.le_trans h.2.1 a, Nat.le_trans h.2.2 b⟩
theorem Sm.fit {n m : Nat} {d : D} (h : Sm n m d) (a : n ≤ 16000000) (b : m ≤ 50) : fitW d := fitW_of h.1 (Nat.le_trans h.2.1 a) (Nat.le_trans h.2.2 b)
def smb (n m : Nat) (d : D) : Bool := sml d && decide (cnt d ≤ n) && decide (dep d ≤ m)
theorem smb_iff {n m : Nat} {d : D} : smb n m d = true ↔ Sm n m d := by simp [smb, Sm, and_assoc]
theorem Sm.all {n m : Nat} {ds : List D} {d : D} (h : d ∈ ds) (ha : ds.all (smb n m) = true) : Sm n m d := smb_iff.mp (List.all_eq_true.mp ha d h)
theorem sizeT {n : Nat} (h : n ≤ 1000000) : (n ≤ sizeLine) = True := eq_true (Nat.le_trans h (by decide))
def isWhole (d : D) : Bool := match d with
  | .int _ => true
  | _ => false
def isWithin (d : D) (a b : Int) : Bool := match d with
  | .int i => decide (a ≤ i) && decide (i ≤ b)
  | _ => false
def isHome (d : D) : Bool := match d with
  | .tup [.str s, .int k] => (decide (s = "peg") || decide (s = "bin")) && (decide (0 ≤ k) && decide (k ≤ 3))
  | _ => false
end VL
set_option maxHeartbeats 2000000
namespace VL
open PySem PySem.Spec L2
open PyProof.Rows hiding St
theorem mVar_e {i : Nat} {ρ : Sl} {S : Store} {Q : D → Store → Prop} : mVar i ρ S Q = (match gv ρ i with
  | some d => Q d S
  | none => False) := rfl
theorem mC_e {d : D} {z_0 : Sl} {S : Store} {Q : D → Store → Prop} : mC d z_0 S Q = (Q d S) := rfl
theorem mOp_e {m : R2V} {ma mb : VE} {ρ : Sl} {S : Store} {Q : D → Store → Prop} : mOp m ma mb ρ S Q = (ma ρ S fun x S1 => mb ρ S1 fun y S2 => m x y S2 Q) := rfl
theorem mNum_e {C : Int → Int → Prop} {g : Int → Int → D} {x : D} {y : D} {S : Store} {Q : D → Store → Prop} : mNum C g x y S Q = (match x, y with
  | .int i, .int j => C i j ∧ Q (g i j) S
  | _, _ => False) := rfl
theorem mInt0_e {g : Int → Int → D} {x : D} {y : D} {S : Store} {Q : D → Store → Prop} : mInt0 g x y S Q = (match x, y with
  | .int i, .int j => Q (g i j) S
  | _, _ => False) := rfl
theorem mAdd_e {x : D} {y : D} {S : Store} {Q : D → Store → Prop} : mAdd  x y S Q = (match x, y with
  | .int i, .int j => Q (.int (i + j)) S
  | .str i, .str j => i.length + j.length ≤ sizeLine ∧ Q (.str (i ++ j)) S
  | .tup a, .tup b => a.length + b.length ≤ sizeLine ∧ Q (.tup (a ++ b)) S
  | x, y => match rdL x S, rdL y S with
    | some a, some b => a.length + b.length ≤ sizeLine ∧ Q (.lst (a ++ b)) S
    | _, _ => False) := rfl
theorem mMul_e {x : D} {y : D} {S : Store} {Q : D → Store → Prop} : mMul  x y S Q = (match x, y with
  | .int i, .int j => CMul i j ∧ Q (.int (i * j)) S
  | x, .int k => match rdL x S with
    | some ds => -(2 ^ 63) ≤ k ∧ k < 2 ^ 63 ∧ ds.length * k.toNat ≤ sizeLine ∧ Q (.lst (List.replicate k.toNat ds).flatten) S
    | none => False
  | _, _ => False) := rfl
theorem mEq_e {x : D} {y : D} {S : Store} {Q : D → Store → Prop} : mEq  x y S Q = (match x, y with
  | .str a, .str b => Q (.bl (decide (a = b))) S
  | x, y => okq S x ∧ okq S y ∧ Q (.bl (eqq S x y)) S) := rfl
theorem mNe_e {x : D} {y : D} {S : Store} {Q : D → Store → Prop} : mNe  x y S Q = (match x, y with
  | .str a, .str b => Q (.bl (!decide (a = b))) S
  | x, y => okq S x ∧ okq S y ∧ Q (.bl (!eqq S x y)) S) := rfl
theorem mIx_e {x : D} {y : D} {S : Store} {Q : D → Store → Prop} : mIx  x y S Q = (match x, y with
  | .str z, .int i => z.length ≤ sizeLine ∧ (match atI z.cps.toList i with
    | some c => Q (.str ⟨#[c]⟩) S
    | none => False)
  | x, .int i => match rdS x S with
    | some ds => (match atI ds i with
      | some d => Q d S
      | none => False)
    | none => False
  | _, _ => False) := rfl
theorem mNil_e {z_0 : Sl} {S : Store} {Q : List D → Store → Prop} : mNil  z_0 S Q = (Q [] S) := rfl
theorem mCons_e {m : VE} {ms : VA} {ρ : Sl} {S : Store} {Q : List D → Store → Prop} : mCons m ms ρ S Q = (m ρ S fun d S1 => ms ρ S1 fun ds S2 => Q (d :: ds) S2) := rfl
theorem mTup_e {ms : VA} {ρ : Sl} {S : Store} {Q : D → Store → Prop} : mTup ms ρ S Q = (ms ρ S fun ds S1 => ds.length ≤ sizeLine ∧ Q (.tup ds) S1) := rfl
theorem mLst_e {ms : VA} {ρ : Sl} {S : Store} {Q : D → Store → Prop} : mLst ms ρ S Q = (ms ρ S fun ds S1 => ds.length ≤ sizeLine ∧ Q (.lst ds) S1) := rfl
theorem mLstM_e {ms : VA} {ρ : Sl} {S : Store} {Q : D → Store → Prop} : mLstM ms ρ S Q = (ms ρ S fun ds S1 => ds.length ≤ sizeLine ∧ ∀ a, S1 a = none → Q (.ref a) (supd S1 a (.lst ds))) := rfl
theorem mTest_e {m : VE} {ρ : Sl} {S : Store} {Q : Bool → Store → Prop} : mTest m ρ S Q = (m ρ S fun d S1 => match d with
  | .bl b => Q b S1
  | _ => False) := rfl
theorem mNot_e {m : VT} {ρ : Sl} {S : Store} {Q : Bool → Store → Prop} : mNot m ρ S Q = (m ρ S fun b S1 => Q (!b) S1) := rfl
theorem mOr_e {m n : VT} {ρ : Sl} {S : Store} {Q : Bool → Store → Prop} : mOr m n ρ S Q = (m ρ S fun b S1 => if b = true then Q true S1 else n ρ S1 Q) := rfl
theorem mIfE_e {t : VT} {m n : VE} {ρ : Sl} {S : Store} {Q : D → Store → Prop} : mIfE t m n ρ S Q = (t ρ S fun b S1 => if b = true then m ρ S1 Q else n ρ S1 Q) := rfl
theorem mCB_e {m : CV} {ms : VA} {ρ : Sl} {S : Store} {Q : D → Store → Prop} : mCB m ms ρ S Q = (ms ρ S fun ds S1 => m ds S1 Q) := rfl
theorem mLen_e {ds : List D} {S : Store} {Q : D → Store → Prop} : mLen  ds S Q = (match ds with
  | [.str z] => z.length ≤ sizeLine ∧ Q (.int z.length) S
  | [d] => match rdS d S with
    | some ds => Q (.int ds.length) S
    | none => False
  | _ => False) := rfl
theorem mInt1_e {g : Int → Int} {ds : List D} {S : Store} {Q : D → Store → Prop} : mInt1 g ds S Q = (match ds with
  | [.int i] => Q (.int (g i)) S
  | _ => False) := rfl
theorem mInt2_e {g : Int → Int → Int} {ds : List D} {S : Store} {Q : D → Store → Prop} : mInt2 g ds S Q = (match ds with
  | [.int i, .int j] => Q (.int (g i j)) S
  | _ => False) := rfl
theorem mTupOf_e {ds : List D} {S : Store} {Q : D → Store → Prop} : mTupOf  ds S Q = (match ds with
  | [.tup es] => Q (.tup es) S
  | [d] => match rdR d S with
    | some es => Q (.tup es) S
    | none => False
  | _ => False) := rfl
theorem mIsi_e {n : String} {m : VE} {ρ : Sl} {S : Store} {Q : D → Store → Prop} : mIsi n m ρ S Q = (m ρ S fun d S1 => tyn d S1 ≠ "?" ∧ Q (.bl (isT (tyn d S1) n)) S1) := rfl
theorem mCall_e {n : Nat} {sp : VSp} {ms : VA} {ρ : Sl} {S : Store} {Q : D → Store → Prop} : mCall n sp ms ρ S Q = (ms ρ S fun ds S1 => ds.length = n ∧ sp ds S1 Q) := rfl
theorem mNx_e {E : VEnds} {ρ : Sl} {S : Store} : mNx  E ρ S = (E.nx ρ S) := rfl
theorem mSeq_e {t u : VS} {E : VEnds} {ρ : Sl} {S : Store} : mSeq t u E ρ S = (t (E.on fun ρ' S' => u E ρ' S') ρ S) := rfl
theorem mDrop_e {m : VE} {E : VEnds} {ρ : Sl} {S : Store} : mDrop m E ρ S = (m ρ S fun _ S' => E.nx ρ S') := rfl
theorem mRet_e {m : VE} {E : VEnds} {ρ : Sl} {S : Store} : mRet m E ρ S = (m ρ S E.rt) := rfl
theorem mIf_e {c : VT} {t u : VS} {E : VEnds} {ρ : Sl} {S : Store} : mIf c t u E ρ S = (c ρ S fun b S1 => if b = true then t E ρ S1 else u E ρ S1) := rfl
theorem mAsg_e {m : VE} {g : VG} {E : VEnds} {ρ : Sl} {S : Store} : mAsg m g E ρ S = (m ρ S fun d S1 => g d ρ S1 E.nx) := rfl
theorem mSet_e {i : Nat} {m : VE} {E : VEnds} {ρ : Sl} {S : Store} : mSet i m E ρ S = (m ρ S fun d S1 => E.nx (ρ.set i (some d)) S1) := rfl
theorem gSetIx_e {mo mi : VE} {d : D} {ρ : Sl} {S : Store} {Q : Sl → Store → Prop} : gSetIx mo mi d ρ S Q = (mo ρ S fun o S1 => mi ρ S1 fun i S2 => match o, i with
  | .ref a, .int i => match S2 a with
    | some (.lst ds) => match ixN ds.length i with
      | some j => Q ρ (supd S2 a (.lst (ds.set j d)))
      | none => False
    | _ => False
  | _, _ => False) := rfl
theorem mSq_e {m : VE} {ρ : Sl} {S : Store} {Q : List D → (Store → Prop) → Store → Prop} : mSq m ρ S Q = (m ρ S fun d S1 => match d with
  | .tup ds => Q ds (fun _ => True) S1
  | .lst ds => Q ds (fun _ => True) S1
  | .ro ds => Q ds (fun _ => True) S1
  | .ref a => match S1 a with
    | some (.lst ds) => Q ds (fun S2 => S2 a = some (.lst ds)) S1
    | _ => False
  | _ => False) := rfl
theorem mRng1_e {m : VE} {ρ : Sl} {S : Store} {Q : List D → (Store → Prop) → Store → Prop} : mRng1 m ρ S Q = (m ρ S fun d S1 => match d with
  | .int j => -(2 ^ 62) ≤ j ∧ j < 2 ^ 62 ∧ Q (rngD 0 j.toNat) (fun _ => True) S1
  | _ => False) := rfl
theorem mYes_e {z_0 : Sl} {S : Store} {Q : Bool → Store → Prop} : mYes  z_0 S Q = (Q true S) := rfl
theorem mApp_e {mo me : VE} {ρ : Sl} {S : Store} {Q : D → Store → Prop} : mApp mo me ρ S Q = (mo ρ S fun o S1 => match o with
  | .ref a => (∃ ds, S1 a = some (.lst ds)) ∧ me ρ S1 fun d S2 => match S2 a with
    | some (.lst ds) => ds.length < sizeLine ∧ Q .non (supd S2 a (.lst (ds ++ [d])))
    | _ => False
  | _ => False) := rfl
theorem mReprW_e {ds : List D} {S : Store} {Q : D → Store → Prop} : mReprW  ds S Q = (match ds with
  | [d] => fitW (rsv S d) ∧ Q (.str (pyd (rsv S d)).shown) S
  | _ => False) := rfl
theorem mCT_1 {i : Nat} {d : D} {ρ : Sl} : mCT (.one i) d ρ = some (ρ.set i (some d)) := rfl
theorem mCT_m {is : List Nat} {ds : List D} {ρ : Sl} : mCT (.many is) (.tup ds) ρ = if ds.length = is.length then some (setAll ρ is ds) else none := rfl
theorem setAll_c {α : Type} {ρ : List (Option α)} {i : Nat} {is : List Nat} {d : α} {ds : List α} : setAll ρ (i :: is) (d :: ds) = setAll (ρ.set i (some d)) is ds := rfl
theorem setAll_n {α : Type} {ρ : List (Option α)} {ds : List α} : setAll ρ [] ds = ρ := by cases ds <;> rfl
theorem wipeD_n {ρ : Sl} : wipeD ρ [] = ρ := rfl
theorem wipeD_c {ρ : Sl} {v : Nat} {vs : List Nat} : wipeD ρ (v :: vs) = (wipeD ρ vs).set v none := rfl
theorem rFrz_e {acc : List D} {S : Store} {Q : D → Store → Prop} : rFrz acc S Q = Q (.lst acc) S := rfl
theorem rMut_e {acc : List D} {S : Store} {Q : D → Store → Prop} : rMut acc S Q = ∀ a, S a = none → Q (.ref a) (supd S a (.lst acc)) := rfl
theorem mFor_rng {c : CT} {mi : VW} {mb : VS} {E : VEnds} {ρ : Sl} {S : Store} (lo : Int) (n : Nat) (I : Nat → Sl → Store → Prop) {kp : Store → Prop} {S1 : Store} (hm : ∀ Qi : List D → (Store → Prop) → Store → Prop, Qi (rngD lo n) kp S1 → mi ρ S Qi) (h0 : I 0 ρ S1) (hk : ∀ i ρ2 S2, I i ρ2 S2 → kp S2)
    (hs : ∀ (i : Nat) ρ2 S2, i < n → I i ρ2 S2 → match mCT c (.int (lo + (i : Int))) ρ2 with
      | some ρ3 => mb (E.loop (I (i + 1))) ρ3 S2
      | none => False)
    (he : ∀ ρ2 S2, I n ρ2 S2 → E.nx ρ2 S2) : mFor c mi mb E ρ S := hm _ (for_rng I h0 hk hs he)
theorem mLc_of {c : CT} {mi : VW} {mt : VT} {me : VE} {vs : List Nat} {R : List D → Store → (D → Store → Prop) → Prop} {ρ : Sl} {S : Store} {Q : D → Store → Prop} (ds : List D) (f : D → List D) {kp : Store → Prop} {S1 : Store} (hm : ∀ Qi : List D → (Store → Prop) → Store → Prop, Qi ds kp S1 → mi ρ S Qi)
    (hl : ds.length ≤ sizeLine) (hk : kp S1)
    (hs : ∀ d ∈ ds, ∀ J : List D → Store → Prop, J (f d) S1 → match mCT c d (wipeD ρ vs) with
      | some ρ3 => mt ρ3 S1 fun b S3 => if b = true then me ρ3 S3 fun y S4 => J [y] S4 else J [] S3
      | none => False)
    (hR : R (ds.flatMap f) S1 Q) : mLcG c mi mt me vs R ρ S Q := hm _ (lc_turns f hl hk hs hR)
theorem okq_of {S : Store} {d : D} (h : rsv S d = d) (k : SeqAt.shaped (py d) = true) : okq S d := by unfold okq; rw [h]; exact k
end VL
set_option maxHeartbeats 2000000
namespace VL
open PySem PySem.Spec L2
open PyProof.Rows hiding St
section
variable {X : Cx}
def rdD (d : D) (S : Store) : Option (List (Key × D)) := match d with
  | .dct kvs => some kvs
  | .ref a => match S a with
    | some (.dct kvs) => some kvs
    | _ => none
  | _ => none
theorem rdD_dct {kvs : List (Key × D)} {S : Store} : rdD (.dct kvs) S = some kvs := rfl
theorem rdD_ok {K : PySem.W.Frag} {G H : Hp} {S : Store} {d : D} {v : V} {kvs : List (Key × D)} (vw : View K G S H) (r : Rp K G v d) (h : rdD d S = some kvs) : ∃ a ks, v = .ref a ∧ Rd H a (.dK ks) ∧ RpK K G ks kvs := by
  cases r with
  | dct e r => simp only [rdD, Option.some.injEq] at h; subst h; exact ⟨_, _, rfl, .inr ⟨_, vw.gh _ _ e⟩, r⟩
  | ref a =>
    simp only [rdD] at h
    split at h
    · rename_i ds' e
      cases h
      obtain ⟨_, u, hu, k⟩ := vw.st a _ e
      cases k with
      | dct r => exact ⟨a, _, rfl, .inl hu, r⟩
    · cases h
  | _ => simp [rdD] at h
theorem key_ok {K : PySem.W.Frag} {G : Hp} {v : V} {d : D} {k : Key} (r : Rp K G v d) (h : keyD d = some k) : v = kV k := by
  cases r <;> simp only [keyD, Option.some.injEq, reduceCtorEq] at h <;> subst h <;> rfl
def mDSub (m i : VE) : VE := fun ρ S Q => m ρ S fun d S1 => i ρ S1 fun y S2 => match rdD d S2, keyD y with
  | some kvs, some k => (match valD kvs k with
    | some v => Q v S2
    | none => False)
  | _, _ => False
theorem mDSub_e {m i : VE} {ρ : Sl} {S : Store} {Q : D → Store → Prop} : mDSub m i ρ S Q = m ρ S fun d S1 => i ρ S1 fun y S2 => match rdD d S2, keyD y with
  | some kvs, some k => (match valD kvs k with
    | some v => Q v S2
    | none => False)
  | _, _ => False := rfl
theorem v_dsub {o i : Expr} {m mi : VE} {pos : Pos} (hu : X.A.units + 1 < cLine) (ho : PE X o (LE X.K m)) (hi : PE X i (LE X.K mi)) (hs : NoSl i := by first | exact fun _ _ => rfl | trivial) : PE X (.Subscript o i pos) (LE X.K (mDSub m mi)) := by
  refine PE.imp (pe_dget hu ho hi hs) fun σ H Q' ⟨ρ, S, G, Q, vw, re, hm, k⟩ => ?_
  refine ⟨ρ, S, G, _, vw, re, hm, fun d S1 v1 H1 G1 a1 r1 h1 => ?_⟩
  refine ⟨ρ, S1, G1, _, a1.vw, re.mono a1.gg, h1, fun y S2 v2 H2 G2 a2 r2 h2 => ?_⟩
  split at h2
  · rename_i kvs ky e1 e2
    obtain ⟨a, ks, rfl, hr, rk⟩ := rdD_ok a2.vw (r1.mono a2.gg) e1
    split at h2
    · rename_i w e3
      rcases rk.val (k := ky) with ⟨z, _⟩ | ⟨v, d', z1, z2, z3⟩
      · rw [e3] at z; cases z
      · rw [e3] at z1; cases z1
        exact ⟨a, v, rfl, .inl ⟨ks, ky, hr, key_ok r2 e2, z2.symm⟩, k _ S2 _ H2 G2 (a1.trans a2) z3 h2⟩
    · exact h2.elim
  · exact h2.elim
end
end VL
set_option maxHeartbeats 2000000
namespace VL
open PySem PySem.Spec L2
open PyProof.Rows hiding St
section
variable {X : Cx}
/-- sorted of two ints, each once -/
def sort2 (i j : Int) : List Int := if i = j then [i] else if i < j then [i, j] else [j, i]
theorem rints {K : PySem.W.Frag} (G : Hp) : ∀ ns : List Int, RpL K G (ns.map V.int) (ns.map D.int)
  | [] => .nil
  | n :: ns => .cons (.int n) (rints G ns)
end
end VL
set_option maxHeartbeats 2000000
namespace VL
open PySem PySem.Spec L2
open PyProof.Rows hiding St
end VL
set_option maxHeartbeats 2000000
namespace VL
open PySem PySem.Spec L2
open PyProof.Rows hiding St
end VL
namespace VL
open PySem L2
theorem units1 {A : Around} (h : A.units + 64 < cLine) : A.units + 1 < cLine := by omega
theorem keyD_int {i : Int} : keyD (.int i) = some (.inl i) := rfl
theorem keyD_str {x : Str} : keyD (.str x) = some (.inr x) := rfl
def nextN (w : Str) (ps : List D) (at_ : Int) : Option (List Int) :=
  if w = "back" then some [] else if w = "go" then (match ps with | .int i :: _ => some [i] | _ => none)
  else if w = "if" ∨ w = "ifnone" ∨ w = "same" then (match ps.getLast? with | some (.int i) => some (sort2 (at_ + 1) i) | _ => none) else some [at_ + 1]
end VL
set_option maxHeartbeats 2000000
namespace VL
open PySem PySem.Spec L2
open PyProof.Rows hiding St
theorem tyn_supd {S : Store} {a : Addr} {ds : List D} : tyn (.ref a) (VL.supd S a (.lst ds)) = "list" := by simp only [tyn, supd_same]
end VL
set_option maxHeartbeats 2000000
namespace VL
open PySem PySem.Spec L2
open PyProof.Rows hiding St
end VL
set_option maxHeartbeats 2000000
namespace VL
open PySem PySem.Spec L2
open PyProof.Rows hiding St
section
variable {X : Cx}
theorem PO.imp {e : Option Expr} {t t' : TO} (h : PO X e t) (i : ∀ σ H Q, t' σ H Q → t σ H Q) : PO X e t' := ⟨fun pins s σ H Q I q => h.run pins s σ H Q I (i σ H Q q)⟩
end
end VL
set_option maxHeartbeats 2000000
namespace VL
open PySem PySem.Spec L2
open PyProof.Rows hiding St
inductive Kd where
  | l | t | s
def rowK (k : Kd) (K : PySem.W.Frag) (H : Hp) (v : V) (xs : List V) : Prop := match k with
  | .l => ∃ a, v = .ref a ∧ SqL K H a xs
  | .t => ∃ a, v = .ref a ∧ SqT K H a xs
  | .s => ∃ x : Str, v = .str x ∧ xs = x.cps.toList.map fun c => V.str ⟨#[c]⟩
def itK (k : Kd) (u : Value) (it : Addr) (i : Nat) (h : Heap) : Prop := match k, u with
  | .l, .ref a => h.IsListIter it a i
  | .t, .ref a => h.IsTupleIter it a i
  | .s, .str x t => h.IsStrIter it (PySem.strIterType x) x t i
  | _, _ => False
theorem itK.at {k : Kd} {u : Value} {it : Addr} {i : Nat} {h h' : Heap} (q : itK k u it i h) (e : ∀ o, h.get? it = some o → h'.get? it = some o) : itK k u it i h' := by
  unfold itK at q ⊢
  split at q
  · obtain ⟨o, e1, r⟩ := q; exact ⟨o, e _ e1, r⟩
  · obtain ⟨o, e1, r⟩ := q; exact ⟨o, e _ e1, r⟩
  · obtain ⟨o, e1, r⟩ := q; exact ⟨o, e _ e1, r⟩
  · exact q.elim
end VL
namespace VL
open PySem PySem.Spec L2
open PyProof.Rows hiding St
end VL
set_option maxHeartbeats 2000000
namespace VL
open PySem PySem.Spec L2
open PyProof.Rows hiding St
end VL
set_option maxHeartbeats 2000000
namespace VL
open PySem PySem.Spec L2
open PyProof.Rows hiding St
section
variable {X : Cx}
theorem PGs.imp {ts : List Expr} {t t' : TGs} (h : PGs X ts t) (i : ∀ vs σ H Q, t' vs σ H Q → t vs σ H Q) : PGs X ts t' := ⟨fun pins s σ H vs us Q I r q => h.run pins s σ H vs us Q I r (i vs σ H Q q)⟩
end
end VL
set_option maxHeartbeats 2000000
namespace VL
open PySem PySem.Spec L2
open PyProof.Rows hiding St
def lineTab : List (Str × List (Nat × Str)) := [("put", [(104, "written"), (110, "number")]), ("none", [(104, "written")]), ("copy", [(104, "written"), (103, "read")]), ("add", [(104, "written"), (103, "read"), (103, "read")]), ("less", [(104, "written"), (103, "read"), (103, "read")]),
  ("new", [(104, "written"), (97, "few"), (97, "few")]), ("getn", [(104, "written"), (103, "read"), (107, "field")]), ("setn", [(103, "read"), (107, "field"), (103, "read")]), ("getb", [(104, "written"), (103, "read"), (107, "field")]), ("setb", [(103, "read"), (107, "field"), (103, "read")]),
  ("tell", [(103, "read")]), ("go", [(116, "goal")]), ("if", [(103, "read"), (116, "goal")]), ("ifnone", [(103, "read"), (116, "goal")]), ("same", [(103, "read"), (103, "read"), (116, "goal")]), ("call", [(116, "called")]), ("back", []), ("rest", [])]
def isFrom (d : D) : Bool := match d with
  | .int i => decide (0 ≤ i)
  | _ => false
def fitC (c : Nat) (d : D) : Bool := if c = 104 ∨ c = 103 then isHome d else if c = 110 then isWhole d else if c = 97 then isWithin d 0 3 else if c = 107 then isWithin d 0 2 else isFrom d
def partB (p : Str) (d : D) : Bool := if p = "written" ∨ p = "read" then isHome d else if p = "number" then isWhole d else if p = "few" then isWithin d 0 3 else if p = "field" then isWithin d 0 2 else isFrom d
def fitsAll : List (Nat × Str) → List D → Bool
  | [], [] => true
  | e :: es, d :: ds => fitC e.1 d && fitsAll es ds
  | _, _ => false
def lineD (d : D) : Bool := match d with
  | .tup (.str w :: ds) => (match lineTab.lookup w with
    | some es => fitsAll es ds
    | none => false)
  | _ => false
theorem look_mem {β : Type} {z : Str} {b : β} : ∀ {l : List (Str × β)}, l.lookup z = some b → (z, b) ∈ l
  | (k, c) :: l, h => by
    simp only [List.lookup_cons] at h
    cases e : z == k with
    | true => rw [e] at h; cases h; rw [eq_of_beq e]; exact List.mem_cons_self
    | false => rw [e] at h; exact List.mem_cons_of_mem _ (look_mem h)
/-- the signs and the names of parts say the same -/
def pairs : List (Nat × Str) := [(104, "written"), (103, "read"), (110, "number"), (97, "few"), (107, "field"), (116, "goal"), (116, "called")]
def okPair (e : Nat × Str) : Bool := decide (e ∈ pairs)
theorem pair_fit {e : Nat × Str} (h : okPair e = true) (d : D) : partB e.2 d = fitC e.1 d := by
  have h' : e ∈ pairs := of_decide_eq_true h
  simp only [pairs, List.mem_cons, List.not_mem_nil, or_false] at h'
  rcases h' with rfl | rfl | rfl | rfl | rfl | rfl | rfl <;> rfl
theorem table_ok : ∀ e ∈ lineTab, e.2.all okPair = true ∧ e.2.length ≤ 3 := by decide +kernel
def AllSm (n m : Nat) (ds : List D) : Prop := ∀ d ∈ ds, Sm n m d
theorem AllSm.row {n m : Nat} : ∀ {ds : List D}, AllSm n m ds → smlL ds = true ∧ cntL ds ≤ (n + 2) * ds.length ∧ depL ds ≤ m
  | [], _ => ⟨rfl, Nat.zero_le _, Nat.zero_le _⟩
  | d :: ds, h => by
    obtain ⟨a, b, c⟩ := AllSm.row (fun e he => h e (List.mem_cons_of_mem _ he) : AllSm n m ds)
    obtain ⟨x, y, z⟩ := h d List.mem_cons_self
    refine ⟨by simp only [smlL, x, a, Bool.and_self], ?_, ?_⟩
    · simp only [cntL, List.length_cons, Nat.mul_succ]; omega
    · simp only [depL]; omega
theorem AllSm.tup {n m k : Nat} {ds : List D} (h : AllSm n m ds) (hk : ds.length ≤ k) : Sm ((n + 2) * k + 3) (m + 1) (.tup ds) := by
  obtain ⟨a, b, c⟩ := h.row
  have := Nat.mul_le_mul_left (n + 2) hk
  exact ⟨by simpa only [sml] using a, by simp only [VL.cnt]; omega, by simp only [dep]; omega⟩
theorem AllSm.app {n m : Nat} {ds es : List D} (h : AllSm n m ds) (k : AllSm n m es) : AllSm n m (ds ++ es) := fun d hd => (List.mem_append.mp hd).elim (h d) (k d)
theorem AllSm.set {n m : Nat} {ds : List D} (h : AllSm n m ds) {i : Nat} {d : D} (hd : Sm n m d) : AllSm n m (ds.set i d) := fun e he => (List.mem_or_eq_of_mem_set he).elim (h e) fun z => by rw [z]; exact hd
def signs6 : List Nat := [104, 103, 110, 97, 107, 116]
theorem table_signs : ∀ e ∈ lineTab, (e.2.map (·.1)).all (fun c => decide (c ∈ signs6)) = true ∧ PyData.strOk e.1 = true ∧ e.1.length ≤ 10 ∧ PyData.strOk (Txt.upper e.1) = true ∧ (Txt.upper e.1).length ≤ 10 := by decide +kernel
end VL
set_option maxHeartbeats 2000000
namespace VL
open PySem PySem.Spec L2
open PyProof.Rows hiding St
end VL
namespace VL
open PySem PySem.Spec L2
open PyProof.Rows hiding St
end VL
set_option maxHeartbeats 2000000
namespace VL
open PySem PySem.Spec L2
open PyProof.Rows hiding St
end VL
namespace VL
open PySem PySem.Spec L2
open PyProof.Rows hiding St
end VL
namespace VL
open PySem PySem.Spec L2
open PyProof.Rows hiding St
end VL
set_option maxHeartbeats 2000000
namespace VL
open PySem PySem.Spec L2
open PyProof.Rows hiding St
/-- what a comprehension does with an item -/
def emitOf (e : Expr) (acc : Value) (env : Env) : Sem Unit := match e with
  | .ListComp elt _ _ _ => eval elt env >>= fun v => call (.builtin "list.append") [acc, v] >>= fun _ => pure ()
  | .SetComp elt _ _ _ => eval elt env >>= fun v => standAt elt.pos >>= fun _ => call (.builtin "set.add") [acc, v] >>= fun _ => pure ()
  | .DictComp k v _ _ _ => match acc with
    | .ref d => eval k env >>= fun kv => holding [kv] (eval v env) >>= fun vv => standAt { k.pos with endLine := v.pos.endLine, endCol := v.pos.endCol } >>= fun _ => holding [kv, vv] (dictSet d kv vv)
    | _ => unsupported "-"
  | _ => pure ()
/-- what an item leads to, in the block's context -/
abbrev TB := L2.St → Hp → (Hp → Prop) → Prop
structure PIn (X : Cx) (inner : Sem PySem.Fin → Sem PySem.Fin) (vs : List Nat) (t : TB) : Prop where
  run : ∀ (pins : List (Addr × Obj)) (s : Shared) (σ : L2.St) (H : Hp) (Q : Hp → Prop), Inv X pins σ H s → t σ H Q → ∀ (more : Sem PySem.Fin) (Qf : PySem.Fin → Shared → Prop) (Ef : Value → Shared → Prop),
    (∀ s' H', Inv X pins (L2.wipe σ vs) H' s' → Q H' → wpAny (model X.prog X.w) X.A more Qf Ef s') → wpAny (model X.prog X.w) X.A (inner more) Qf Ef s
section
variable {X : Cx} {e tg iter : Expr} {ifs : List Expr} {k : Nat} {d : Addr} {inner : Sem PySem.Fin → Sem PySem.Fin} {wi : TI} {g : TG} {tt : TT} {tb : TB} {vs vs1 : List Nat}
theorem thnX {α : Type} {t : Sem α} {Q Q' : α → Shared → Prop} {M : Model} {A : Around} {E E' : Value → Shared → Prop} {s : Shared} (hx : ∀ u s, ¬ E u s) (h : wpAny M A t Q E s) (hQ : ∀ a s, Q a s → Q' a s) : wpAny M A t Q' E' s := wpAny_mono h hQ fun u s x => (hx u s x).elim
end
end VL
set_option maxHeartbeats 2000000
namespace VL
open PySem PySem.Spec L2
open PyProof.Rows hiding St
abbrev VB (A : Type) := Sl → Store → A → (A → Store → Prop) → Prop
section
variable {A : Type} {K : PySem.W.Frag} {rel : Hp → A → HO → Prop}
def LB (K : PySem.W.Frag) (rel : Hp → A → HO → Prop) (d : Addr) (m : VB A) : TB := fun σ H Q' => ∃ (G0 : Hp) (S0 : Store) (H0 : Hp) (ρ : Sl) (S : Store) (G : Hp) (acc : A) (o : HO) (Q : A → Store → Prop), H0 d = none ∧ Aft K G0 S0 H0 S H G ∧ REnv K G σ ρ ∧ H d = some o ∧ rel G acc o ∧ S d = none ∧ G d = none ∧ m ρ S acc Q ∧
  ∀ acc' S' H' G' o', Same G G' → Aft K G0 S0 H0 S' H' G' → H' d = some o' → rel G' acc' o' → S' d = none → G' d = none → Q acc' S' → Q' H'
end
def relL (K : PySem.W.Frag) : Hp → List D → HO → Prop := fun G acc o => ∃ xs, o = .lst xs ∧ RpL K G xs acc
def bList (me : VE) : VB (List D) := fun ρ S acc Q => acc.length < sizeLine ∧ me ρ S fun y S' => Q (acc ++ [y]) S'
section
variable {X : Cx}
def tLeafL (te : TE) (d : Addr) : TB := fun σ H Q => te σ H fun y H4 => ∃ acc, H4 d = some (.lst acc) ∧ acc.length < sizeLine ∧ Q (upd H4 d (.lst (acc ++ [y])))
theorem in_list {elt : Expr} {gs : List Comprehension} {sc : Scope} {p : Pos} {te : TE} {d : Addr} (hx : ∀ u s, ¬ X.xe u s) (he : PE X elt te) : PIn X (fun m => emitOf (.ListComp elt gs sc p) (.ref d) X.env >>= fun _ => m) [] (tLeafL te d) := by
  refine ⟨fun pins s σ H Q I h more Qf Ef hmore => ?_⟩
  unfold emitOf
  refine wpAny_bind (wpAny_bind (thnX hx (he.run pins s σ H _ I h) fun v s1 ⟨y, H1, I1, r1, acc, hd, hz, q⟩ => ?_))
  exact wpAny_bind (app_ok I1 hd hz r1 fun s2 I2 => wpAny_pure (hmore s2 _ I2 q))
theorem PIn.imp {inner : Sem PySem.Fin → Sem PySem.Fin} {vs : List Nat} {t t' : TB} (h : PIn X inner vs t) (i : ∀ σ H Q, t' σ H Q → t σ H Q) : PIn X inner vs t' := ⟨fun pins s σ H Q I q => h.run pins s σ H Q I (i σ H Q q)⟩
theorem b_list {elt : Expr} {gs : List Comprehension} {sc : Scope} {p : Pos} {me : VE} {d : Addr} (hx : ∀ u s, ¬ X.xe u s) (he : PE X elt (LE X.K me)) : PIn X (fun m => emitOf (.ListComp elt gs sc p) (.ref d) X.env >>= fun _ => m) [] (LB X.K (relL X.K) d (bList me)) := by
  refine PIn.imp (in_list hx he) fun σ H Q' ⟨G0, S0, H0, ρ, S, G, acc, o, Q, hd0, a0, re, hH, ⟨xs, eo, l⟩, hS, hG, hm, k⟩ => ?_
  subst eo
  refine ⟨ρ, S, G, _, a0.vw, re, hm.2, fun y S1 v H1 G1 a1 r1 q1 => ?_⟩
  obtain ⟨h1, s1, g1⟩ := a1.fr d _ hS hH
  have gd : G1 d = none := g1.trans hG
  exact ⟨xs, h1, by rw [l.length]; exact hm.1, k _ S1 _ G1 _ a1.gg ((a0.trans a1).junk hd0 s1 gd) upd_same ⟨_, rfl, (l.mono a1.gg).append (.cons r1 .nil)⟩ s1 gd q1⟩
end
theorem bList_e {me : VE} {ρ : Sl} {S : Store} {acc : List D} {Q : List D → Store → Prop} : bList me ρ S acc Q = (acc.length < sizeLine ∧ me ρ S fun y S' => Q (acc ++ [y]) S') := rfl
end VL
set_option maxHeartbeats 2000000
namespace VL
open PySem PySem.Spec L2
open PyProof.Rows hiding St
mutual
def short : D → Bool
  | .str s => decide (s.length < 1000)
  | .tup ds => decide (ds.length < 1000) && shortL ds
  | .lst ds => decide (ds.length < 1000) && shortL ds
  | _ => true
def shortL : List D → Bool
  | [] => true
  | d :: ds => short d && shortL ds
end
/-- what a line with that word has as parts of one sort -/
def pickL (p : Str) : List (Nat × Str) → List D → List D
  | e :: es, d :: ds => if e.2 = p then d :: pickL p es ds else pickL p es ds
  | _, _ => []
def partsW (w : Str) (r : List D) (p : Str) : List D := pickL p ((lineTab.lookup w).getD []) r
theorem pickL_mem {p : Str} {x : D} : ∀ {es : List (Nat × Str)} {ds : List D}, x ∈ pickL p es ds → fitsAll es ds = true → ∃ e ∈ es, e.2 = p ∧ fitC e.1 x = true ∧ x ∈ ds
  | e :: es, d :: ds, h, hf => by
    simp only [fitsAll, Bool.and_eq_true] at hf
    simp only [pickL] at h
    by_cases he : e.2 = p
    · rw [if_pos he] at h
      rcases List.mem_cons.mp h with rfl | h
      · exact ⟨e, by simp, he, hf.1, by simp⟩
      · obtain ⟨e', h1, h2, h3, h4⟩ := pickL_mem h hf.2
        exact ⟨e', by simp [h1], h2, h3, by simp [h4]⟩
    · rw [if_neg he] at h
      obtain ⟨e', h1, h2, h3, h4⟩ := pickL_mem h hf.2
      exact ⟨e', by simp [h1], h2, h3, by simp [h4]⟩
/-- what a line is: a word of the table and parts that fit -/
theorem lineD_ex {d : D} (h : lineD d = true) : ∃ w ds es, d = .tup (.str w :: ds) ∧ lineTab.lookup w = some es ∧ fitsAll es ds = true := by
  unfold lineD at h
  split at h
  · rename_i w ds
    split at h
    · rename_i es e
      exact ⟨w, ds, es, rfl, e, h⟩
    · cases h
  · cases h
theorem parts_fit {w : Str} {ds : List D} {es : List (Nat × Str)} (he : lineTab.lookup w = some es) (hf : fitsAll es ds = true) {p : Str} {x : D} (h : x ∈ partsW w ds p) : partB p x = true ∧ x ∈ ds := by
  unfold partsW at h
  rw [he] at h
  obtain ⟨e, h1, h2, h3, h4⟩ := pickL_mem h hf
  have tok := (table_ok _ (look_mem he)).1
  rw [List.all_eq_true] at tok
  rw [← h2, pair_fit (tok e h1)]
  exact ⟨h3, h4⟩
theorem isHome_ex {d : D} (h : isHome d = true) : ∃ (b : Bool) (k : Int), d = .tup [.str (if b then "peg" else "bin"), .int k] ∧ 0 ≤ k ∧ k ≤ 3 := by
  cases d with
  | tup ds =>
    match ds, h with
    | [.str w, .int k], h =>
      simp only [isHome, Bool.and_eq_true, Bool.or_eq_true, decide_eq_true_eq] at h
      obtain ⟨hw, h0, h1⟩ := h
      rcases hw with rfl | rfl
      · exact ⟨true, k, rfl, h0, h1⟩
      · exact ⟨false, k, rfl, h0, h1⟩
  | _ => cases h
theorem isFrom_ex {d : D} (h : isFrom d = true) : ∃ k : Int, d = .int k ∧ 0 ≤ k := by
  cases d <;> simp only [isFrom, Bool.false_eq_true, decide_eq_true_eq] at h
  exact ⟨_, rfl, h⟩
def signsB (d : D) (m : Int) : Bool := match d with
  | .str s => decide ((s.length : Int) = m) && s.cps.toList.all fun c => decide (c ∈ [110, 98, 45])
  | _ => false
def riseB : List D → Bool
  | .int a :: .int b :: r => decide (a < b) && riseB (.int b :: r)
  | _ => true
def keepsB (d : D) : Bool := match d with
  | .tup ds => ds.all (fun p => isWithin p 1 3) && riseB ds
  | _ => false
def linesB (d : D) : Bool := match d with
  | .tup ds => (decide (1 ≤ ds.length) && decide (ds.length ≤ 24)) && ds.all lineD
  | _ => false
def ltI (many : Int) (d : D) : Bool := match d with
  | .int i => decide (i < many)
  | _ => false
def stayB (l : D) (at_ many : Int) : Bool := match l with
  | .tup (.str w :: r) => (match nextN w r at_ with
    | some ns => (ns.map D.int ++ partsW w r "goal").all (ltI many)
    | none => false)
  | _ => false
def writesW (w : Str) (r : List D) : List D := if w = "call" then [.tup [.str "peg", .int 0]] else partsW w r "written"
def binIn (bins : Int) (h : D) : Bool := match h with
  | .tup [.str s, .int k] => !decide (s = "bin") || decide (k < bins)
  | _ => false
def pegIn (ks : List D) (h : D) : Bool := match h with
  | .tup [.str s, .int k] => !decide (s = "peg") || (decide (k = 0) || inF (.int k) ks)
  | _ => false
def ownB (l : D) (ks : List D) (bins : Int) : Bool := match l with
  | .tup (.str w :: r) => (partsW w r "read" ++ partsW w r "written").all (binIn bins) && (writesW w r).all (pegIn ks)
  | _ => false
def rightB (ks : List D) (bins many : Int) : Nat → List D → Bool
  | _, [] => true
  | i, l :: ls => (stayB l i many && ownB l ks bins) && rightB ks bins many (i + 1) ls
def defB (d : D) : Bool := match d with
  | .tup [takes, gives, keeps, bins, lines] => (signsB takes 4 && signsB gives 1 && keepsB keeps) && (isWithin bins 0 4 && linesB lines) && (match keeps, bins, lines with
    | .tup ks, .int b, .tup ls => rightB ks b ls.length 0 ls
    | _, _, _ => false)
  | _ => false
def calledB (many : Int) (l : D) : Bool := match l with
  | .tup (.str w :: r) => (partsW w r "called").all (ltI many)
  | _ => false
def callsB (many : Int) (d : D) : Bool := match d with
  | .tup [_, _, _, _, .tup ls] => ls.all (calledB many)
  | _ => false
def progB (d : D) : Bool := match d with
  | .tup ds => (decide (1 ≤ ds.length) && decide (ds.length ≤ 6)) && ds.all defB && ds.all (callsB ds.length)
  | _ => false
theorem sz {n : Nat} (h : n ≤ 1000) : n ≤ sizeLine := Nat.le_trans h (by decide)
end VL
set_option maxHeartbeats 2000000
namespace VL
open PySem PySem.Spec L2
open PyProof.Rows hiding St
theorem sort2_mem {i j n : Int} (h : n ∈ sort2 i j) : n = i ∨ n = j := by
  unfold sort2 at h
  split at h
  · exact .inl (List.mem_singleton.mp h)
  · split at h
    · simpa using h
    · simp only [List.mem_cons, List.not_mem_nil, or_false] at h; exact h.symm
theorem sort2_len (i j : Int) : (sort2 i j).length ≤ 2 := by unfold sort2; split <;> (try split) <;> simp
theorem goal_one {p : Str} {es : List (Nat × Str)} {c : Nat} {r : List D} {d : D} (h : r.length = es.length) : d ∈ pickL p (es ++ [(c, p)]) (r ++ [d]) := by
  induction es generalizing r with
  | nil =>
    cases r with
    | nil => simp [pickL]
    | cons => simp at h
  | cons e es ih =>
    cases r with
    | nil => simp at h
    | cons x r =>
      have := ih (r := r) (by simpa using h)
      simp only [List.cons_append, pickL]
      split
      · exact List.mem_cons_of_mem _ this
      · exact this
theorem next_ex {w : Str} {r : List D} {es : List (Nat × Str)} (he : lineTab.lookup w = some es) (hf : fitsAll es r = true) (at_ : Int) :
    ∃ ns, nextN w r at_ = some ns ∧ ns.length ≤ 2 ∧ ∀ n ∈ ns, (n = at_ + 1 ∧ w ≠ "go" ∧ w ≠ "back") ∨ D.int n ∈ partsW w r "goal" := by
  have hp : partsW w r "goal" = pickL "goal" es r := by unfold partsW; rw [he]; rfl
  rw [hp]
  have hm := look_mem he
  have plain : nextN w r at_ = some [at_ + 1] → w ≠ "go" → w ≠ "back" → ∃ ns, nextN w r at_ = some ns ∧ ns.length ≤ 2 ∧ ∀ n ∈ ns, (n = at_ + 1 ∧ w ≠ "go" ∧ w ≠ "back") ∨ D.int n ∈ pickL "goal" es r :=
    fun h a b => ⟨_, h, by simp, fun n hn => .inl ⟨List.mem_singleton.mp hn, a, b⟩⟩
  have choose : ∀ {k : Int}, nextN w r at_ = some (sort2 (at_ + 1) k) → w ≠ "go" → w ≠ "back" → D.int k ∈ pickL "goal" es r → ∃ ns, nextN w r at_ = some ns ∧ ns.length ≤ 2 ∧ ∀ n ∈ ns, (n = at_ + 1 ∧ w ≠ "go" ∧ w ≠ "back") ∨ D.int n ∈ pickL "goal" es r :=
    fun h a b c => ⟨_, h, sort2_len _ _, fun n hn => (sort2_mem hn).elim (fun e => .inl ⟨e, a, b⟩) fun e => .inr (by rw [e]; exact c)⟩
  simp only [lineTab, List.mem_cons, Prod.mk.injEq, List.not_mem_nil, or_false] at hm
  rcases hm with ⟨rfl, rfl⟩ | ⟨rfl, rfl⟩ | ⟨rfl, rfl⟩ | ⟨rfl, rfl⟩ | ⟨rfl, rfl⟩ | ⟨rfl, rfl⟩ | ⟨rfl, rfl⟩ | ⟨rfl, rfl⟩ | ⟨rfl, rfl⟩ | ⟨rfl, rfl⟩ | ⟨rfl, rfl⟩ | ⟨rfl, rfl⟩ | ⟨rfl, rfl⟩ | ⟨rfl, rfl⟩ | ⟨rfl, rfl⟩ | ⟨rfl, rfl⟩ | ⟨rfl, rfl⟩ | ⟨rfl, rfl⟩
  case inr.inr.inr.inr.inr.inr.inr.inr.inr.inr.inr.inl =>
    match r, hf with
    | [], hf => simp [fitsAll] at hf
    | _ :: _ :: _, hf => simp [fitsAll] at hf
    | [d], hf =>
      simp only [fitsAll, Bool.and_true] at hf
      obtain ⟨k, rfl, _⟩ := isFrom_ex hf
      exact ⟨[k], by unfold nextN; rw [if_neg (by decide +kernel), if_pos rfl], by simp, fun n hn => .inr (by rw [List.mem_singleton.mp hn]; simp [pickL])⟩
  case inr.inr.inr.inr.inr.inr.inr.inr.inr.inr.inr.inr.inl =>
    match r, hf with
    | [], hf => simp [fitsAll] at hf
    | [_], hf => simp [fitsAll] at hf
    | _ :: _ :: _ :: _, hf => simp [fitsAll] at hf
    | [x, d], hf =>
      simp only [fitsAll, Bool.and_true, Bool.and_eq_true] at hf
      obtain ⟨k, rfl, _⟩ := isFrom_ex hf.2
      exact choose (by unfold nextN; rw [if_neg (by decide +kernel), if_neg (by decide +kernel), if_pos (by decide +kernel)]; rfl) (by decide +kernel) (by decide +kernel) (goal_one (es := [(103, "read")]) (r := [x]) rfl)
  case inr.inr.inr.inr.inr.inr.inr.inr.inr.inr.inr.inr.inr.inl =>
    match r, hf with
    | [], hf => simp [fitsAll] at hf
    | [_], hf => simp [fitsAll] at hf
    | _ :: _ :: _ :: _, hf => simp [fitsAll] at hf
    | [x, d], hf =>
      simp only [fitsAll, Bool.and_true, Bool.and_eq_true] at hf
      obtain ⟨k, rfl, _⟩ := isFrom_ex hf.2
      exact choose (by unfold nextN; rw [if_neg (by decide +kernel), if_neg (by decide +kernel), if_pos (by decide +kernel)]; rfl) (by decide +kernel) (by decide +kernel) (goal_one (es := [(103, "read")]) (r := [x]) rfl)
  case inr.inr.inr.inr.inr.inr.inr.inr.inr.inr.inr.inr.inr.inr.inl =>
    match r, hf with
    | [], hf => simp [fitsAll] at hf
    | [_], hf => simp [fitsAll] at hf
    | [_, _], hf => simp [fitsAll] at hf
    | _ :: _ :: _ :: _ :: _, hf => simp [fitsAll] at hf
    | [x, y, d], hf =>
      simp only [fitsAll, Bool.and_true, Bool.and_eq_true] at hf
      obtain ⟨k, rfl, _⟩ := isFrom_ex hf.2.2
      exact choose (by unfold nextN; rw [if_neg (by decide +kernel), if_neg (by decide +kernel), if_pos (by decide +kernel)]; rfl) (by decide +kernel) (by decide +kernel) (goal_one (es := [(103, "read"), (103, "read")]) (r := [x, y]) rfl)
  case inr.inr.inr.inr.inr.inr.inr.inr.inr.inr.inr.inr.inr.inr.inr.inr.inl => exact ⟨[], by unfold nextN; rw [if_pos rfl], by simp, fun n hn => nomatch hn⟩
  all_goals exact plain (by unfold nextN; rw [if_neg (by decide +kernel), if_neg (by decide +kernel), if_neg (by decide +kernel)]) (by decide +kernel) (by decide +kernel)
def RowP (P : Nat → D → Prop) : List Nat → List D → Prop
  | [], [] => True
  | c :: cs, d :: ds => P c d ∧ RowP P cs ds
  | _, _ => False
theorem RowP.app {P : Nat → D → Prop} {c : Nat} {d : D} (h : P c d) : ∀ {cs : List Nat} {ds : List D}, RowP P cs ds → RowP P (cs ++ [c]) (ds ++ [d])
  | [], [], _ => ⟨h, trivial⟩
  | _ :: _, _ :: _, q => ⟨q.1, RowP.app h q.2⟩
theorem RowP.len {P : Nat → D → Prop} : ∀ {cs : List Nat} {ds : List D}, RowP P cs ds → ds.length = cs.length
  | [], [], _ => rfl
  | _ :: _, _ :: _, q => by simp [RowP.len q.2]
theorem RowP.imp {P P' : Nat → D → Prop} (h : ∀ c d, P c d → P' c d) : ∀ {cs : List Nat} {ds : List D}, RowP P cs ds → RowP P' cs ds
  | [], [], _ => trivial
  | _ :: _, _ :: _, q => ⟨h _ _ q.1, RowP.imp h q.2⟩
end VL
set_option maxHeartbeats 4000000
namespace VL
open PySem PySem.Spec L2
open PyProof.Rows hiding St
theorem tup_mul_same (l : Addr) (items : Array Value) (n : Nat) (dd : Option Addr) (sl : Array (Option Value)) (x : Int) (u : Tok) (c0 : (decide (x < -(2 ^ 63)) || decide (x ≥ 2 ^ 63)) = false) (c1 : (items.isEmpty || x == 1) = true) :
    Meets (Builtin.«tuple.__mul__» ⟨[.ref l, .int x u], []⟩) (fun _ R s => s.heap.get? l = some { cls := .type "tuple", dict := dd, data := .seq items n, slots := sl } ∧ R (.ok (.ret (.ref l))) s) :=
  .of_wp fun prog w A R s h => by
    obtain ⟨hp, g, d, tk, os⟩ := s
    obtain ⟨hl, h⟩ := h
    have f1 := AutoSeq1.idx_int
    wp_walk using wpAny_loadPart' hl
    repeat (first
      | (refine wpAny_ite_false (decide_eq_false (by rw [c0]; exact Bool.false_ne_true)) ?_; wp_walk using wpAny_loadPart' hl)
      | (refine wpAny_ite_true (decide_eq_true c1) ?_; wp_walk using wpAny_loadPart' hl))
    exact ⟨_, rfl, h⟩
theorem tup_mul_none (l : Addr) (items : Array Value) (n : Nat) (dd : Option Addr) (sl : Array (Option Value)) (x : Int) (u : Tok) (c0 : (decide (x < -(2 ^ 63)) || decide (x ≥ 2 ^ 63)) = false) (c1 : (items.isEmpty || x == 1) = false) (c2 : (decide (x ≤ 0) || items.isEmpty) = true) :
    Meets (Builtin.«tuple.__mul__» ⟨[.ref l, .int x u], []⟩) (fun _ R s => s.heap.get? l = some { cls := .type "tuple", dict := dd, data := .seq items n, slots := sl } ∧
      R (.ok (.ret (Value.ref s.heap.objs.size))) { s with heap := s.heap.push { cls := Value.type "tuple", data := Data.seq #[] } }) :=
  .of_wp fun prog w A R s h => by
    obtain ⟨hp, g, d, tk, os⟩ := s
    obtain ⟨hl, h⟩ := h
    have f1 := AutoSeq1.idx_int
    wp_walk using wpAny_loadPart' hl
    repeat (first
      | (refine wpAny_ite_false (decide_eq_false (by rw [c0]; exact Bool.false_ne_true)) ?_; wp_walk using wpAny_loadPart' hl)
      | (refine wpAny_ite_false (decide_eq_false (by rw [c1]; exact Bool.false_ne_true)) ?_; wp_walk using wpAny_loadPart' hl)
      | (refine wpAny_ite_true (decide_eq_true c2) ?_; wp_walk using wpAny_loadPart' hl))
    exact ⟨_, rfl, h⟩
def rRepA (K : PySem.W.Frag) : R2 := fun x y H Q => ∃ l k xs, x = .ref l ∧ y = .int k ∧ SqT K H l xs ∧ -(2 ^ 62) ≤ k ∧ k ≤ 1000 ∧ xs.length ≤ 1000 ∧ (k = 1 ∨ xs = [] → Q (.ref l) H) ∧ (¬ (k = 1 ∨ xs = []) → ∀ p, H p = none → Q (.ref p) (upd H p (.tup (List.replicate k.toNat xs).flatten)))
section
variable {X : Cx}
theorem op_repA : OpR X (binaryOp .Mult) (rRepA X.K) := by
  intro pins s σ H x y v u Q I rx ry h
  obtain ⟨l, k, xs, rfl, rfl, hT, h1, h2, hz, q1, q2⟩ := h
  by_cases two : 2 ≤ k ∧ xs ≠ []
  · exact op_repT pins s σ H _ _ v u Q I rx ry ⟨l, k, xs, rfl, rfl, hT, two.2, two.1, h2, hz, q2 (by rintro (z | z); omega; exact two.2 z)⟩
  cases rx
  obtain ⟨t, rfl⟩ := ry
  obtain ⟨its, r, ⟨⟨cls, dd, data, sl⟩, ho, hc, n, hd⟩, hs⟩ := I.tuple hT
  simp only at hc hd
  subst hc hd
  have hle : its.length = xs.length := r.length.symm
  have c0 : (decide (k < -(2 ^ 63)) || decide (k ≥ 2 ^ 63)) = false := by
    rw [decide_eq_false (by omega), decide_eq_false (by omega)] <;> rfl
  have emp : its.toArray.isEmpty = decide (xs = []) := by
    cases its with
    | nil => rw [show xs = [] from List.eq_nil_of_length_eq_zero hle.symm]; rfl
    | cons a b => cases xs with
      | nil => simp at hle
      | cons c d => rfl
  by_cases same : k = 1 ∨ xs = []
  · have c1 : (its.toArray.isEmpty || k == 1) = true := by
      rw [emp]
      rcases same with z | z
      · rw [z]; simp
      · rw [z]; rfl
    exact wpAny_binaryOp_repeat_ref (T := "tuple") (U := "int") (by decide) ⟨_, ho, rfl⟩ (fun s' => typeIs_int s' k t) noFill_tuple_mul F.fills_int_mul F.slot_int_rmul repeat_tuple F.slot_int_index.lookup
      (call_meets F.slot_int_rmul (typeIs_int s k t) F.entry_int_rmul (F.args_int_rmul_2 _ _) (int_rmul_tuple k t l its.toArray n dd sl)
        ⟨ho, rfl, ⟨_, ho, rfl⟩, call_meets F.slot_tuple_mul ⟨_, ho, rfl⟩ F.entry_tuple_mul (F.args_tuple_mul_2 _ _) (tup_mul_same l its.toArray n dd sl k t c0 c1) ⟨ho, .ref l, H, I, rfl, q1 same⟩⟩)
  · have c1 : (its.toArray.isEmpty || k == 1) = false := by
      rw [emp, decide_eq_false (fun z => same (.inr z)), Bool.false_or]
      exact beq_eq_false_iff_ne.mpr fun z => same (.inl z)
    have hk : k ≤ 0 := by
      have : ¬ k = 1 := fun z => same (.inl z)
      have : ¬ 2 ≤ k := fun z => two ⟨z, fun e => same (.inr e)⟩
      omega
    have c2 : (decide (k ≤ 0) || its.toArray.isEmpty) = true := by rw [decide_eq_true hk]; rfl
    refine wpAny_binaryOp_repeat_ref (T := "tuple") (U := "int") (by decide) ⟨_, ho, rfl⟩ (fun s' => typeIs_int s' k t) noFill_tuple_mul F.fills_int_mul F.slot_int_rmul repeat_tuple F.slot_int_index.lookup
      (call_meets F.slot_int_rmul (typeIs_int s k t) F.entry_int_rmul (F.args_int_rmul_2 _ _) (int_rmul_tuple k t l its.toArray n dd sl)
        ⟨ho, rfl, ⟨_, ho, rfl⟩, call_meets F.slot_tuple_mul ⟨_, ho, rfl⟩ F.entry_tuple_mul (F.args_tuple_mul_2 _ _) (tup_mul_none l its.toArray n dd sl k t c0 c1 c2) ⟨ho, ?_⟩⟩)
    have q := q2 same
    rw [show k.toNat = 0 by omega] at q
    exact ⟨.ref s.heap.objs.size, _, I.laid (t' := s.toks) (o := .tup []) (fun b ob q => Heap.get?_push_of_some _ q) (Nat.le_refl _) ⟨Nat.zero_le _, [], .nil, IsTup.new _ _⟩, rfl, q _ (I.hok.fresh (Nat.le_refl _))⟩
/-- a * b: ints, a list or a tuple and an int -/
def mMulA : R2V := fun x y S Q => match x, y with
  | .int i, .int j => CMul i j ∧ Q (.int (i * j)) S
  | .tup ds, .int k => -(2 ^ 62) ≤ k ∧ k ≤ 1000 ∧ ds.length ≤ 1000 ∧ Q (.tup (List.replicate k.toNat ds).flatten) S
  | x, .int k => match rdL x S with
    | some ds => -(2 ^ 63) ≤ k ∧ k < 2 ^ 63 ∧ ds.length * k.toNat ≤ sizeLine ∧ Q (.lst (List.replicate k.toNat ds).flatten) S
    | none => False
  | _, _ => False
theorem mMulA_i {i j : Int} {S : Store} {Q : D → Store → Prop} : mMulA (.int i) (.int j) S Q = (CMul i j ∧ Q (.int (i * j)) S) := rfl
theorem mMulA_t {ds : List D} {k : Int} {S : Store} {Q : D → Store → Prop} : mMulA (.tup ds) (.int k) S Q = (-(2 ^ 62) ≤ k ∧ k ≤ 1000 ∧ ds.length ≤ 1000 ∧ Q (.tup (List.replicate k.toNat ds).flatten) S) := rfl
theorem mMulA_l {ds : List D} {k : Int} {S : Store} {Q : D → Store → Prop} : mMulA (.lst ds) (.int k) S Q = (-(2 ^ 63) ≤ k ∧ k < 2 ^ 63 ∧ ds.length * k.toNat ≤ sizeLine ∧ Q (.lst (List.replicate k.toNat ds).flatten) S) := rfl
theorem ov_mulA : OpV X (binaryOp .Mult) mMulA := by
  obtain ⟨r, h1, h2⟩ := ov_mulL (X := X)
  refine ⟨_, h1.or op_repA, ?_⟩
  intro x y v1 v2 G S H Q Q' vw r1 r2 h k
  cases y with
  | int j =>
    cases x with
    | tup ds =>
      rw [mMulA_t] at h
      cases r1 with
      | @tup a xs _ ht l =>
        cases r2
        refine .inr ⟨a, j, xs, rfl, rfl, same_t vw.gh ht, h.1, h.2.1, by rw [l.length]; exact h.2.2.1, fun e => ?_, fun _ p hp => ?_⟩
        · have : (List.replicate j.toNat ds).flatten = ds := by
            rcases e with rfl | e
            · simp
            · have : ds = [] := by cases l with
                | nil => rfl
                | cons => cases e
              rw [this]
              generalize j.toNat = n
              induction n with
              | zero => rfl
              | succ n ih => rw [List.replicate_succ, List.flatten_cons, ih]; rfl
          rw [this] at h
          exact k _ S _ H G (Aft.refl vw) (.tup ht l) h.2.2.2
        · have a3 := vw.froze (o := .tup (List.replicate j.toNat xs).flatten) hp
          exact k _ S _ _ _ a3 (.tup (SqT.of upd_same) ((l.flat _).mono a3.gg)) h.2.2.2
    | _ => exact .inl (h2 _ _ v1 v2 G S H Q Q' vw r1 r2 h k)
  | _ => cases x <;> exact False.elim h
theorem CallR.or {f : Value} {r r' : List V → Hp → VK → Prop} (h : CallR X f r) (h' : CallR X f r') : CallR X f (fun vs H Q => r vs H Q ∨ r' vs H Q) := by
  intro pins s σ H xs us Q I rr q
  rcases q with q | q
  · exact h pins s σ H xs us Q I rr q
  · exact h' pins s σ H xs us Q I rr q
end
end VL
set_option maxHeartbeats 4000000
namespace VL
open PySem PySem.Spec L2
open PyProof.Rows hiding St
open Sem (wp)
abbrev hN (w : World) (k : NK) : Int := k.hash w
/-- the tuple at a is the key k -/
def IsN (h : Heap) (k : NK) (a : Addr) : Prop := NestedIs h k (.ref a) ∧ k.depth ≤ 8
section
variable {P : Program} {w : World} {A : Around} {E : Value → Shared → Prop} {s : Shared}
theorem IsN.tup {h : Heap} {k : NK} {a : Addr} (x : IsN h k a) : ∃ ks o vs n, k = .tup ks ∧ h.get? a = some o ∧ o.cls = .type "tuple" ∧ o.data = .seq vs n ∧ NestedAll h ks vs.toList := by
  obtain ⟨x, _⟩ := x
  cases x with
  | tup h1 h2 h3 h4 => exact ⟨_, _, _, _, rfl, h1, h2, h3, h4⟩
theorem IsN.keep {h h' : Heap} {k : NK} {a : Addr} (x : IsN h k a) (hk : ∀ c o, h.get? c = some o → h'.get? c = some o) : IsN h' k a := ⟨NestedIs.at (fun b ob vs n e _ => hk b ob e) k _ x.1, x.2⟩
variable {a : Addr} {L : List (Addr × NK)} {es : Array (Int × Value)} {ep : Nat} {t : SetTable}
end
end VL
set_option maxHeartbeats 4000000
namespace VL
open PySem PySem.Spec L2
open PyProof.Rows hiding St
open Sem (wp)
section
variable {X : Cx} {pins : List (Addr × Obj)} {σ : L2.St} {H : Hp} {s : Shared} {G : Hp}
mutual
theorem nested_of (I : Inv X pins σ H s) (g : Same G H) : ∀ (d : D) {k : NK} {v : V} {u : Value}, keyN d = some k → Rp X.K G v d → RelV v u → NestedIs s.heap k u
  | .non, _, _, _, e, .non, r => by cases r; cases e; exact .none
  | .bl _, _, _, _, e, _, _ => by simp [keyN] at e
  | .int i, _, _, _, e, .int _, r => by obtain ⟨t, rfl⟩ := r; cases e; exact .int i t
  | .str x, _, _, _, e, .str _, r => by obtain ⟨t, rfl⟩ := r; cases e; exact .text x t
  | .tup ds, _, _, _, e, .tup h l, r => by
    cases r
    simp only [keyN, Option.map_eq_some_iff] at e
    obtain ⟨ks, e, rfl⟩ := e
    obtain ⟨its, rv, ⟨o, h1, h2, n, h3⟩, _⟩ := I.tuple (same_t g h)
    exact .tup h1 h2 h3 (nested_ofL I g ds e l rv)
  | .lst _, _, _, _, e, _, _ => by simp [keyN] at e
  | .ro _, _, _, _, e, _, _ => by simp [keyN] at e
  | .dct _, _, _, _, e, _, _ => by simp [keyN] at e
  | .ref _, _, _, _, e, _, _ => by simp [keyN] at e
theorem nested_ofL (I : Inv X pins σ H s) (g : Same G H) : ∀ (ds : List D) {ks : List NK} {vs : List V} {us : List Value}, keysN ds = some ks → RpL X.K G vs ds → Vals vs us → NestedAll s.heap ks us
  | [], _, _, _, e, .nil, r => by cases r; cases e; exact .nil
  | d :: ds, _, _, _, e, .cons h t, r => by
    cases r with
    | cons r1 r2 =>
      simp only [keysN] at e
      split at e
      · rename_i k ks e1 e2
        cases e
        exact .cons (nested_of I g d e1 h r1) (nested_ofL I g ds e2 t r2)
      · cases e
end
end
/-- a list's items in a row -/
inductive Tri (K : PySem.W.Frag) (G : Hp) : List Value → List (V × D) → Prop
  | nil : Tri K G [] []
  | cons {u : Value} {us : List Value} {v : V} {d : D} {bs : List (V × D)} (h1 : Rp K G v d) (h2 : RelV v u) (t : Tri K G us bs) : Tri K G (u :: us) ((v, d) :: bs)
theorem Tri.of {K : PySem.W.Frag} {G : Hp} : ∀ {us : List Value} {bs : List (V × D)}, PySem.W.EachIs (fun u b => Rp K G b.1 b.2 ∧ RelV b.1 u) us bs → Vals (bs.map (·.1)) us ∧ RpL K G (bs.map (·.1)) (bs.map (·.2))
  | _, _, .nil => ⟨.nil, .nil⟩
  | _, _, .cons h t => ⟨.cons h.2 (Tri.of t).1, .cons h.1 (Tri.of t).2⟩
/-- a new list made into what R says -/
theorem made_of {K : PySem.W.Frag} {R : List D → Store → (D → Store → Prop) → Prop} (hR : RecR R) {G : Hp} {S : Store} {H : Hp} {p : Addr} {ys : List V} {ds : List D} {Q : D → Store → Prop} (vw : View K G S H) (hp : H p = none) (rl : RpL K G ys ds) (q : R ds S Q) :
    ∃ S' G' d, Q d S' ∧ Aft K G S H S' (upd H p (.lst ys)) G' ∧ Rp K G' (.ref p) d := by
  have n0 := vw.none hp
  have aj := (Aft.refl vw).junk (u := .lst ys) hp n0.2 n0.1
  obtain ⟨S2, G2, d, qd, v', gg, rd, ot⟩ := hR K G S _ p ys ds Q aj.vw upd_same n0.2 n0.1 rl q
  refine ⟨S2, G2, d, qd, ⟨fun b ob hb eb => ?_, gg, v'⟩, rd⟩
  have hbp : b ≠ p := ne_of_none eb hp
  exact ⟨by rw [upd_ne hbp]; exact eb, by rw [(ot b hbp).1]; exact hb, (ot b hbp).2⟩
end VL
set_option maxHeartbeats 4000000
namespace VL
open PySem PySem.Spec L2
open PyProof.Rows hiding St
open Sem (wp)
section
variable {X : Cx}
/-- a key: a tuple of simple things -/
def KeyT (y : D) : Prop := ∃ ks, keyN y = some (.tup ks) ∧ (NestedKey.tup ks).depth ≤ 8
def kOf (y : D) : NK := (keyN y).getD .none
theorem KeyT.eq {y : D} (h : KeyT y) : keyN y = some (kOf y) ∧ (kOf y).depth ≤ 8 := by
  obtain ⟨ks, e, d⟩ := h
  unfold kOf
  rw [e]; exact ⟨rfl, d⟩
theorem KeyT.tup {y : D} (h : KeyT y) : ∃ ds, y = .tup ds := by
  obtain ⟨ks, e, _⟩ := h
  cases y <;> first | exact ⟨_, rfl⟩ | simp [keyN] at e
theorem KeyT.ref {K : PySem.W.Frag} {G : Hp} {v : V} {y : D} (h : KeyT y) (r : Rp K G v y) : ∃ a, v = .ref a := by
  obtain ⟨ds, rfl⟩ := h.tup
  cases r; exact ⟨_, rfl⟩
abbrev keyed (T : List (Addr × D)) : List (Addr × NK) := T.map fun t => (t.1, kOf t.2)
def MemT (K : PySem.W.Frag) (G : Hp) (T : List (Addr × D)) : Prop := ∀ t ∈ T, Rp K G (.ref t.1) t.2 ∧ KeyT t.2
theorem MemT.mono {K : PySem.W.Frag} {G G' : Hp} {T : List (Addr × D)} (g : Same G G') (h : MemT K G T) : MemT K G' T := fun t ht => ⟨(h t ht).1.mono g, (h t ht).2⟩
theorem MemT.is {pins : List (Addr × Obj)} {σ : L2.St} {H : Hp} {s : Shared} {G : Hp} {T : List (Addr × D)} (I : Inv X pins σ H s) (g : Same G H) (h : MemT X.K G T) : ∀ p ∈ keyed T, IsN s.heap p.2 p.1 := by
  intro p hp
  obtain ⟨t, ht, rfl⟩ := List.mem_map.mp hp
  obtain ⟨r, k⟩ := h t ht
  exact ⟨nested_of I g t.2 k.eq.1 r rfl, k.eq.2⟩
end
end VL
set_option maxHeartbeats 2000000
namespace VL
open PySem PySem.Spec L2
open PyProof.Rows hiding St
end VL
set_option maxHeartbeats 2000000
namespace VL
open PySem PySem.Spec L2
open PyProof.Rows hiding St
def pickAt {α : Type} (l : List α) (pi : List Nat) : List α := pi.filterMap fun i => l[i]?
theorem pickAt_nil {α : Type} {l : List α} : pickAt l [] = [] := rfl
theorem vals_get {vs : List V} {us : List Value} (r : Vals vs us) (i : Nat) : (vs[i]? = none ∧ us[i]? = none) ∨ ∃ v u, vs[i]? = some v ∧ us[i]? = some u ∧ RelV v u := by
  induction r generalizing i with
  | nil => left; simp
  | cons h t ih =>
    cases i with
    | zero => right; exact ⟨_, _, rfl, rfl, h⟩
    | succ i => simpa using ih i
theorem vals_pick {vs : List V} {us : List Value} (r : Vals vs us) : ∀ pi : List Nat, Vals (pickAt vs pi) (pickAt us pi)
  | [] => .nil
  | i :: pi => by
    have ih := vals_pick r pi
    unfold pickAt at ih ⊢
    rcases vals_get r i with ⟨a, b⟩ | ⟨v, u, a, b, c⟩
    · rw [List.filterMap_cons_none a, List.filterMap_cons_none b]; exact ih
    · rw [List.filterMap_cons_some a, List.filterMap_cons_some b]; exact .cons c ih
theorem rpl_pick {K : PySem.W.Frag} {G : Hp} {vs : List V} {ds : List D} (r : RpL K G vs ds) : ∀ pi : List Nat, RpL K G (pickAt vs pi) (pickAt ds pi)
  | [] => .nil
  | i :: pi => by
    have ih := rpl_pick r pi
    unfold pickAt at ih ⊢
    cases e : vs[i]? with
    | none =>
      have e2 : ds[i]? = none := by rw [List.getElem?_eq_none_iff] at e ⊢; rw [← r.length]; exact e
      rw [List.filterMap_cons_none e, List.filterMap_cons_none e2]; exact ih
    | some v =>
      obtain ⟨d, e2, rv⟩ := r.getV e
      rw [List.filterMap_cons_some e, List.filterMap_cons_some e2]; exact .cons rv ih
section
variable {X : Cx} {x : Str} {p pos kpos : Pos} {e : Expr} {es : List Expr} {kws : List Keyword} {nm : Option Str} {ms mk : VA} {me : VE}
theorem k_nil : PK X [] (LA X.K mNil) := ⟨fun _ _ _ _ H Q I h => by
  obtain ⟨ρ, S, G, Q', vw, re, hm, k⟩ := h
  exact wpAny_evalAll_nil ⟨[], H, I, .nil, k [] S [] H G (Aft.refl vw) .nil hm⟩⟩
theorem k_cons (ha : PE X e (LE X.K me)) (hr : PK X kws (LA X.K mk)) : PK X (⟨nm, e, kpos⟩ :: kws) (LA X.K (mCons me mk)) := by
  have h := pk_cons (nm := nm) (kpos := kpos) ha hr
  refine ⟨fun pos pins s σ H Q I q => h.run pos pins s σ H Q I ?_⟩
  obtain ⟨ρ, S, G, Q', vw, re, hm, k⟩ := q
  refine ⟨ρ, S, G, _, vw, re, hm, fun d S1 v H1 G1 a1 r1 h1 => ?_⟩
  refine ⟨ρ, S1, G1, _, a1.vw, re.mono a1.gg, h1, fun ds S2 vs H2 G2 a2 r2 h2 => ?_⟩
  exact k _ S2 _ H2 G2 (a1.trans a2) (.cons (r1.mono a2.gg) r2) h2
theorem go_fnk {CX : CXT} {k : Nat} {f : Addr} {fd : FuncData} {ps ks : List Str} {sp : Sp} {E : XK} {pins : List (Addr × Obj)} {σ : L2.St} {H : Hp} {s : Shared} {Q : VK} {us ws : List Value} {vs zs : List V} {pi : List Nat} (F : FnG X.prog X.w X.K X.mg X.base CX k f fd ps sp) (hr : Room k X.A) (hgd : X.A.guards = some [])
    (hb : BindsTo s fd ⟨us, ks.zip ws⟩ (ps.zip (pickAt (us ++ ws) pi))) (hx : Passes CX X E) (I : Inv X pins σ H s) (r : Vals vs us) (rz : Vals zs ws) (h : sp (pickAt (vs ++ zs) pi) H Q E) : wpAny (model X.prog X.w) X.A (call (.ref f) us (ks.zip ws)) (EP X pins σ Q) X.xe s := by
  refine wpAny_call (codeAny_mono (F.go X.A X.stack s H _ _ _ Q E hr hgd I.env0 hb (vals_pick (r.append rz) pi) h) fun res s' hq => ?_)
  match res, hq with
  | .error e, hq => exact hx pins σ H s e s' I hq
  | .ok (.ret u), hq => exact I.after hq
  | .ok .next, hq => exact (show False from hq).elim
  | .ok .brk, hq => exact (show False from hq).elim
  | .ok .cont, hq => exact (show False from hq).elim
variable {k n : Nat} {ps ks : List Str} {sp : VSp} {st : Stmt} {pi : List Nat}
end
theorem pickAt_0 {α : Type} {a : α} {l : List α} {pi : List Nat} : pickAt (a :: l) (0 :: pi) = a :: pickAt (a :: l) pi := rfl
theorem pickAt_1 {α : Type} {a b : α} {l : List α} {pi : List Nat} : pickAt (a :: b :: l) (1 :: pi) = b :: pickAt (a :: b :: l) pi := rfl
theorem pickAt_2 {α : Type} {a b c : α} {l : List α} {pi : List Nat} : pickAt (a :: b :: c :: l) (2 :: pi) = c :: pickAt (a :: b :: c :: l) pi := rfl
theorem pickAt_3 {α : Type} {a b c d : α} {l : List α} {pi : List Nat} : pickAt (a :: b :: c :: d :: l) (3 :: pi) = d :: pickAt (a :: b :: c :: d :: l) pi := rfl
theorem pickAt_4 {α : Type} {a b c d e : α} {l : List α} {pi : List Nat} : pickAt (a :: b :: c :: d :: e :: l) (4 :: pi) = e :: pickAt (a :: b :: c :: d :: e :: l) pi := rfl
end VL
set_option maxHeartbeats 2000000
namespace VL
open PySem PySem.Spec L2
open PyProof.Rows hiding St
end VL
set_option maxHeartbeats 2000000
namespace VL
open PySem PySem.Spec L2
open PyProof.Rows hiding St
end VL
set_option maxHeartbeats 2000000
namespace VL
open PySem PySem.Spec L2
open PyProof.Rows hiding St
theorem atI_ex {ds : List D} {r : Int} (h0 : 0 ≤ r) (h1 : r < (ds.length : Int)) : ∃ d, atI ds r = some d ∧ d ∈ ds := by
  obtain ⟨n, rfl⟩ : ∃ n : Nat, r = (n : Int) := ⟨r.toNat, by omega⟩
  have hn : n < ds.length := by omega
  exact ⟨ds[n], by rw [atI_lit, List.getElem?_eq_getElem hn], List.getElem_mem hn⟩
def textI (i : Int) : Str := Str.ofString (toString i)
def partT (d : D) : Str := match d with
  | .tup [.str b, .int k] => (if b = "peg" then Str.ofString "p" else Str.ofString "b") ++ textI k
  | .int i => textI i
  | _ => ""
def lineT (d : D) : Str := match d with
  | .tup (.str w :: ds) => Str.join (Str.ofString " ") (w :: ds.map partT)
  | _ => ""
theorem sapp_len (a b : Str) : (a ++ b).length = a.length + b.length := by show (a.cps ++ b.cps).size = _; simp [Str.length]
theorem join_two (sep x y : Str) (r : List Str) : Str.join sep (x :: y :: r) = x ++ sep ++ Str.join sep (y :: r) := rfl
theorem join_len (sep : Str) : ∀ (ys : List Str), (Str.join sep ys).length ≤ (ys.map (·.length)).sum + ys.length * sep.length
  | [] => by simp [Str.join]; decide
  | [x] => by simp [Str.join]
  | x :: y :: r => by
    have ih := join_len sep (y :: r)
    rw [join_two, sapp_len, sapp_len]
    simp only [List.map_cons, List.sum_cons, List.length_cons, Nat.succ_mul] at ih ⊢
    omega
theorem textI_len {i : Int} (h : smlI i = true) : (textI i).length ≤ 151 := int_len60 (of_decide_eq_true h)
theorem fit_big {c : Nat} {d : D} (h : fitC c d = true) : isHome d = true ∨ ∃ i, d = .int i := by
  unfold fitC at h
  split at h
  · exact .inl h
  · right
    split at h
    · cases d <;> first | exact ⟨_, rfl⟩ | cases h
    · split at h
      · cases d <;> first | exact ⟨_, rfl⟩ | cases h
      · split at h
        · cases d <;> first | exact ⟨_, rfl⟩ | cases h
        · cases d <;> first | exact ⟨_, rfl⟩ | cases h
/-- what stands in a line -/
def PartK (d : D) : Prop := isHome d = true ∨ ∃ i, d = .int i ∧ smlI i = true
theorem PartK.of {c : Nat} {d : D} (h : fitC c d = true) (b : sml d = true) : PartK d := (fit_big h).imp id fun ⟨i, e⟩ => by subst e; exact ⟨i, rfl, by simpa only [sml] using b⟩
theorem fits_partS : ∀ {es : List (Nat × Str)} {ds : List D}, fitsAll es ds = true → smlL ds = true → ∀ d ∈ ds, PartK d
  | [], [], _, _, d, hd => nomatch hd
  | e :: es, y :: ds, h, b, d, hd => by
    simp only [fitsAll, Bool.and_eq_true] at h
    simp only [smlL, Bool.and_eq_true] at b
    rcases List.mem_cons.mp hd with rfl | hd
    · exact .of h.1 b.1
    · exact fits_partS h.2 b.2 d hd
theorem partT_len {d : D} (h : PartK d) : (partT d).length ≤ 152 := by
  rcases h with h | ⟨i, rfl, a⟩
  · obtain ⟨b, k, e, h0, h1⟩ := isHome_ex h
    subst e
    have hk := textI_len (i := k) (smlI_of (by omega) (by omega))
    cases b
    · simp only [partT, sapp_len]; rw [if_neg (by decide +kernel)]; have : (Str.ofString "b").length = 1 := by decide +kernel
      try simp only [Bool.false_eq_true, if_false]
      omega
    · simp only [partT, sapp_len]; rw [if_pos (by decide +kernel)]; have : (Str.ofString "p").length = 1 := by decide +kernel
      omega
  · have := textI_len a; simp only [partT]; omega
theorem row_len {ds : List D} (h : ∀ d ∈ ds, PartK d) : ((ds.map partT).map (·.length)).sum ≤ 152 * ds.length := by
  induction ds with
  | nil => simp
  | cons d ds ih =>
    have h1 := partT_len (h d List.mem_cons_self)
    have := ih fun e he => h e (List.mem_cons_of_mem _ he)
    simp only [List.map_cons, List.sum_cons, List.length_cons, Nat.mul_succ]; omega
theorem one_sp : (Str.ofString " ").length = 1 := by decide +kernel
theorem lineT_len {w : Str} {ds : List D} (h : ∀ d ∈ ds, PartK d) : (lineT (.tup (.str w :: ds))).length ≤ w.length + 153 * ds.length + 1 := by
  have h1 := join_len (Str.ofString " ") (w :: ds.map partT)
  have h2 := row_len h
  rw [one_sp] at h1
  simp only [List.map_cons, List.sum_cons, List.length_cons, List.length_map] at h1
  simp only [lineT]; omega
theorem eqq_self {S : Store} {d : D} (h : okq S d) : eqq S d d = true := by
  unfold eqq
  exact SeqAt.eqv_refl _ (SeqAt.canLay_of_shaped h)
end VL
set_option maxHeartbeats 4000000
namespace VL
open PySem PySem.Spec L2
open PyProof.Rows hiding St
def keepsOk (ks : List D) : Prop := ks.length ≤ 3 ∧ ∀ k ∈ ks, isWithin k 1 3 = true
theorem sm_int {i : Int} (a : -(10 ^ 44) < i) (b : i < 10 ^ 44) : Sm 200 1 (.int i) := ⟨smlI_of (i := i) (by omega) (by omega), by simp [VL.cnt], by simp [dep]⟩
/-- a def of such a program -/
structure DefP (defs : Int) (d : D) : Prop where
  ex : ∃ t g ks b ls, d = .tup [.str t, .str g, .tup ks, .int b, .tup ls] ∧ Sm 100 1 (.str t) ∧ Sm 100 1 (.str g) ∧ keepsOk ks ∧ (∀ l ∈ ls, Sm 1000 2 l ∧ short l = true)
  ok : defB d = true
  call : callsB defs d = true
  sm : Sm 60000 4 d
  sh : short d = true
/-- such a program -/
structure ProgP (d : D) : Prop where
  ex : ∃ ds, d = .tup ds ∧ 1 ≤ ds.length ∧ ds.length ≤ 6 ∧ ∀ e ∈ ds, DefP ds.length e
  ok : progB d = true
  sm : Sm 400000 5 d
  sh : short d = true
end VL
set_option maxHeartbeats 4000000
namespace VL
open PySem PySem.Spec L2
open PyProof.Rows hiding St
/-- a program, small enough to be held by the model's sizes -/
structure Prog (d : D) : Prop where
  ok : progB d = true
  sm : sml d = true
  sh : short d = true
theorem ProgP.prog {d : D} (h : ProgP d) : Prog d := ⟨h.ok, h.sm.1, h.sh⟩
/-- what a program's line is -/
structure LineL (l : D) : Prop where
  ex : ∃ w es r, l = .tup (.str w :: r) ∧ lineTab.lookup w = some es ∧ fitsAll es r = true ∧ (∀ d ∈ r, PartK d) ∧ r.length ≤ 3 ∧ w.length ≤ 10 ∧ PyData.strOk w = true
theorem fits_len' : ∀ {es : List (Nat × Str)} {ds : List D}, fitsAll es ds = true → ds.length = es.length
  | [], [], _ => rfl
  | _ :: _, _ :: _, h => by
    simp only [fitsAll, Bool.and_eq_true] at h
    simp [fits_len' h.2]
theorem lineL_of {l : D} (h : lineD l = true) (s : sml l = true) : LineL l := by
  obtain ⟨w, r, es, rfl, he, hf⟩ := lineD_ex h
  have mem := look_mem he
  have st := table_signs _ mem
  have l3 : es.length ≤ 3 := (table_ok _ mem).2
  have s' : smlL (D.str w :: r) = true := by simpa only [sml] using s
  simp only [smlL, Bool.and_eq_true] at s'
  exact ⟨w, es, r, rfl, he, hf, fits_partS hf s'.2, by have := fits_len' hf; omega, st.2.2.1, st.2.1⟩
structure DefL (d : D) : Prop where
  ex : ∃ t g ks b ls, d = .tup [.str t, .str g, .tup ks, .int b, .tup ls] ∧ t.length = 4 ∧ (∀ c ∈ t.cps.toList, c ∈ [110, 98, 45]) ∧ g.length = 1 ∧ (∀ c ∈ g.cps.toList, c ∈ [110, 98, 45]) ∧ (∀ k ∈ ks, ∃ i, k = .int i ∧ 1 ≤ i ∧ i ≤ 3) ∧ riseB ks = true ∧ 0 ≤ b ∧ b ≤ 4 ∧
    1 ≤ ls.length ∧ ls.length ≤ 24 ∧ (∀ l ∈ ls, LineL l) ∧ rightB ks b ls.length 0 ls = true
theorem signs_ex {s : D} {m : Int} (h : signsB s m = true) : ∃ t, s = .str t ∧ (t.length : Int) = m ∧ ∀ c ∈ t.cps.toList, c ∈ [110, 98, 45] := by
  cases s with
  | str t =>
    simp only [signsB, Bool.and_eq_true, decide_eq_true_eq, List.all_eq_true] at h
    exact ⟨t, rfl, h.1, h.2⟩
  | _ => cases h
theorem within_ex {d : D} {a b : Int} (h : isWithin d a b = true) : ∃ i, d = .int i ∧ a ≤ i ∧ i ≤ b := by
  cases d with
  | int i =>
    simp only [isWithin, Bool.and_eq_true, decide_eq_true_eq] at h
    exact ⟨i, rfl, h⟩
  | _ => simp [isWithin] at h
theorem defL_of {d : D} (h : defB d = true) (s : sml d = true) : DefL d := by
  cases d with
  | tup ds =>
    match ds, h, s with
    | [t, g, k, b, l], h, s =>
      simp only [defB, Bool.and_eq_true] at h
      obtain ⟨⟨⟨⟨h1, h2⟩, h3⟩, h4, h5⟩, h6⟩ := h
      obtain ⟨t, rfl, t1, t2⟩ := signs_ex h1
      obtain ⟨g, rfl, g1, g2⟩ := signs_ex h2
      obtain ⟨b, rfl, b0, b1⟩ := within_ex h4
      cases k <;> try (cases h3; done)
      rename_i ks
      cases l <;> try (cases h5; done)
      rename_i ls
      simp only [keepsB, Bool.and_eq_true, List.all_eq_true] at h3
      simp only [linesB, Bool.and_eq_true, decide_eq_true_eq, List.all_eq_true] at h5
      have s' : smlL [D.str t, .str g, .tup ks, .int b, .tup ls] = true := by simpa only [sml] using s
      have sl := smlL_mem (d := D.tup ls) s' (by simp)
      have sl' : smlL ls = true := by simpa only [sml] using sl
      exact ⟨t, g, ks, b, ls, rfl, by omega, t2, by omega, g2, fun k hk => within_ex (h3.1 k hk), h3.2, b0, b1, h5.1.1, h5.1.2, fun l hl => lineL_of (h5.2 l hl) (smlL_mem sl' hl), h6⟩
  | _ => cases h
structure ProgL (d : D) : Prop where
  ex : ∃ ds, d = .tup ds ∧ 1 ≤ ds.length ∧ ds.length ≤ 6 ∧ (∀ e ∈ ds, DefL e) ∧ ∀ e ∈ ds, callsB ds.length e = true
theorem Prog.l {d : D} (h : Prog d) : ProgL d := by
  obtain ⟨ok, sm, sh⟩ := h
  cases d with
  | tup ds =>
    simp only [progB, Bool.and_eq_true, decide_eq_true_eq, List.all_eq_true] at ok
    have s' : smlL ds = true := by simpa only [sml] using sm
    exact ⟨ds, rfl, ok.1.1.1, ok.1.1.2, fun e he => defL_of (ok.1.2 e he) (smlL_mem s' he), fun e he => ok.2 e he⟩
  | _ => cases ok
theorem ints_of {ks : List D} {lo hi : Int} (h : ∀ k ∈ ks, ∃ i, k = D.int i ∧ lo ≤ i ∧ i ≤ hi) : ∃ ns : List Int, ks = ns.map D.int ∧ ∀ i ∈ ns, lo ≤ i ∧ i ≤ hi := by
  induction ks with
  | nil => exact ⟨[], rfl, fun i hi => nomatch hi⟩
  | cons k ks ih =>
    obtain ⟨ns, rfl, h2⟩ := ih fun k hk => h k (List.mem_cons_of_mem _ hk)
    obtain ⟨i, rfl, i0, i1⟩ := h k List.mem_cons_self
    refine ⟨i :: ns, rfl, fun j hj => ?_⟩
    rcases List.mem_cons.mp hj with rfl | hj
    · exact ⟨i0, i1⟩
    · exact h2 j hj
theorem rise_pw : ∀ {ns : List Int}, riseB (ns.map D.int) = true → ns.Pairwise (· < ·)
  | [], _ => .nil
  | [_], _ => List.pairwise_singleton _ _
  | a :: b :: r, h => by
    simp only [List.map_cons, riseB, Bool.and_eq_true, decide_eq_true_eq] at h
    have ih := rise_pw (ns := b :: r) h.2
    refine List.pairwise_cons.mpr ⟨fun x hx => ?_, ih⟩
    rcases List.mem_cons.mp hx with rfl | hx
    · exact h.1
    · have := (List.pairwise_cons.mp ih).1 x hx
      omega
theorem rise_few {ns : List Int} (h : ∀ i ∈ ns, 1 ≤ i ∧ i ≤ 3) (p : ns.Pairwise (· < ·)) : ns.length ≤ 3 := by
  match ns, p with
  | [], _ => simp
  | [_], _ => simp
  | [_, _], _ => simp
  | [_, _, _], _ => simp
  | a :: b :: c :: d :: r, p =>
    exfalso
    have h1 := h a (by simp)
    have h2 := h d (by simp)
    simp only [List.pairwise_cons, List.mem_cons] at p
    have p1 := p.1 b (.inl rfl)
    have p2 := p.2.1 c (.inl rfl)
    have p3 := p.2.2.1 d (.inl rfl)
    omega
theorem LineL.len {l : D} (h : LineL l) : (lineT l).length ≤ 560 := by
  obtain ⟨w, es, r, rfl, _, _, pk, l3, lw, _⟩ := h.ex
  have h1 := lineT_len (w := w) pk
  have : 153 * r.length ≤ 153 * 3 := Nat.mul_le_mul_left _ l3
  omega
theorem DefL.keeps {d : D} (h : DefL d) : ∃ (t g : Str) (ns : List Int) (b : Int) (ls : List D), d = .tup [.str t, .str g, .tup (ns.map D.int), .int b, .tup ls] ∧ t.length = 4 ∧ (∀ c ∈ t.cps.toList, c ∈ [110, 98, 45]) ∧ g.length = 1 ∧ (∀ c ∈ g.cps.toList, c ∈ [110, 98, 45]) ∧ (∀ i ∈ ns, (1 : Int) ≤ i ∧ i ≤ 3) ∧ ns.Pairwise (· < ·) ∧ ns.length ≤ 3 ∧ 0 ≤ b ∧ b ≤ 4 ∧
    1 ≤ ls.length ∧ ls.length ≤ 24 ∧ (∀ l ∈ ls, LineL l) ∧ rightB (ns.map D.int) b ls.length 0 ls = true := by
  obtain ⟨t, g, ks, b, ls, rfl, h1, h2, h3, h4, h5, h6, h7⟩ := h.ex
  obtain ⟨ns, rfl, hns⟩ := ints_of h5
  have pw := rise_pw h6
  exact ⟨t, g, ns, b, ls, rfl, h1, h2, h3, h4, hns, pw, rise_few hns pw, h7⟩
end VL
set_option maxHeartbeats 2000000
namespace VL
open PySem PySem.Spec L2
open PyProof.Rows hiding St
def mPar (i j : Nat) (ma : VA) : VS := fun E ρ S => ma ρ S fun ds S1 => match ds with
  | [v, w] => E.nx ((ρ.set i (some v)).set j (some w)) S1
  | _ => False
theorem mPar_e {i j : Nat} {ma : VA} {E : VEnds} {ρ : Sl} {S : Store} : mPar i j ma E ρ S = ma ρ S fun ds S1 => match ds with
  | [v, w] => E.nx ((ρ.set i (some v)).set j (some w)) S1
  | _ => False := rfl
section
variable {X : Cx}
theorem s_par {i j : Nat} {x y : Str} {a b : Expr} {ma : VA} {px py pt pos : Pos} {kt k2 pt2} (hc : X.calm = true) (hN : X.N.Nodup) (hi : X.N[i]? = some x) (hj : X.N[j]? = some y) (hij : i ≠ j)
    (hx : X.env.scope.names.lookup x = some .local) (hy : X.env.scope.names.lookup y = some .local) (ha : PA X [a, b] (LA X.K ma))
    (hw : swappedStores [.Tuple [.Name x px, .Name y py] kt pt] (.Tuple [a, b] k2 pt2) X.env = pure (some [x, y]))
    (hs : swapsWithSole [.Tuple [.Name x px, .Name y py] kt pt] (.Tuple [a, b] k2 pt2) pos.line X.env = pure false := by rfl) :
    PS X (.Assign [.Tuple [.Name x px, .Name y py] kt pt] (.Tuple [a, b] k2 pt2) pos) (LS X.K (mPar i j ma)) := by
  refine PS.imp (ps_par hc hN hi hj hij hx hy ha hw hs) fun D' σ H ⟨ρ, S, G, E, vw, re, hm, ok⟩ => ⟨ρ, S, G, _, vw, re, hm, fun ds S1 vs H1 G1 a1 r1 h1 => ?_⟩
  match ds, r1, h1 with
  | [d1, d2], .cons r1 (.cons r2 .nil), h1 =>
    exact ⟨_, _, rfl, ok.nx _ S1 _ H1 G1 a1 (((re.mono a1.gg).set r1).set r2) h1⟩
end
end VL
set_option maxHeartbeats 2000000
namespace VL
open PySem PySem.Spec L2
open PyProof.Rows hiding St
end VL
set_option maxHeartbeats 2000000
namespace VL
open PySem PySem.Spec L2
open PyProof.Rows hiding St
end VL
set_option maxHeartbeats 2000000
namespace VL
open PySem PySem.Spec L2
open PyProof.Rows hiding St
section
variable {X : Cx}
def gSetD (mo mi : VE) : VG := fun d ρ S Q => mo ρ S fun o S1 => mi ρ S1 fun i S2 => match o, keyD i with
  | .ref a, some k => (match S2 a with
    | some (.dct kvs) => kvs.length < sizeLine ∧ Q ρ (supd S2 a (.dct (putD kvs k d)))
    | _ => False)
  | _, _ => False
theorem gSetD_e {mo mi : VE} {d : D} {ρ : Sl} {S : Store} {Q : Sl → Store → Prop} : gSetD mo mi d ρ S Q = mo ρ S fun o S1 => mi ρ S1 fun i S2 => match o, keyD i with
  | .ref a, some k => (match S2 a with
    | some (.dct kvs) => kvs.length < sizeLine ∧ Q ρ (supd S2 a (.dct (putD kvs k d)))
    | _ => False)
  | _, _ => False := rfl
theorem g_setd {o i : Expr} {mo mi : VE} {pos : Pos} (ho : PE X o (LE X.K mo)) (hi : PE X i (LE X.K mi))
    (hg : PG X (.Subscript o i pos) (gSub (LE X.K mo) (LE X.K mi) rSetD)) : PG X (.Subscript o i pos) (LG X.K (gSetD mo mi)) := by
  refine PG.imp hg fun v σ H Q' ⟨ρ, S, G, d, Q, vw, re, rd, hm, k⟩ => ?_
  refine ⟨ρ, S, G, _, vw, re, hm, fun o S1 vo H1 G1 a1 r1 h1 => ?_⟩
  refine ⟨ρ, S1, G1, _, a1.vw, re.mono a1.gg, h1, fun i S2 vi H2 G2 a2 r2 h2 => ?_⟩
  split at h2
  · rename_i a ky ek
    cases r1
    split at h2
    · rename_i kvs e
      obtain ⟨_, u, hu, ku⟩ := a2.vw.st _ _ e
      cases ku with
      | dct l =>
        have rr := ((rd.mono a1.gg).mono a2.gg)
        have a3 := a2.vw.wrote (o' := .dct (putD kvs ky d)) e (.dct (l.put (k := ky) rr))
        exact ⟨a, _, rfl, .inl ⟨_, ky, hu, key_ok r2 ek, by rw [l.length]; exact h2.1, rfl⟩, k ρ _ σ _ _ (a1.trans (a2.trans a3)) (re.mono (a1.trans (a2.trans a3)).gg) h2.2⟩
    · exact h2.elim
  · exact h2.elim
def mDict0M : VE := fun _ S Q => ∀ p, S p = none → Q (.ref p) (supd S p (.dct []))
theorem mDict0M_e {ρ : Sl} {S : Store} {Q : D → Store → Prop} : mDict0M ρ S Q = ∀ p, S p = none → Q (.ref p) (supd S p (.dct [])) := rfl
theorem v_dict0M {pos : Pos} : PE X (.Dict [] [] pos) (LE X.K mDict0M) :=
  PE.imp pe_dnewK fun σ H Q' ⟨ρ, S, G, Q, vw, re, hm, k⟩ => fun p hp => k _ _ _ _ _ (vw.stored (o := .dct []) hp (.dct .nil)) (.ref _) (hm p (vw.none hp).2)
end
end VL
set_option maxHeartbeats 2000000
namespace VL
open PySem PySem.Spec L2
open PyProof.Rows hiding St
end VL
set_option maxHeartbeats 2000000
namespace VL
open PySem PySem.Spec L2
/-- what is found: a line, the one ahead of it -/
abbrev Fnd := List (Int × Option Int)
def hasF (F : Fnd) (i : Int) : Bool := F.any fun q => decide (q.1 = i)
/-- the lines next of one -/
def nxOf (ls : List D) (i : Int) : List Int := match atI ls i with
  | some (.tup (.str w :: ps)) => (nextN w ps i).getD []
  | _ => []
/-- each line leads on within -/
def Flows (ls : List D) : Prop := ∀ i : Int, 0 ≤ i → i < ls.length → ∃ w ps ns, atI ls i = some (.tup (.str w :: ps)) ∧ nextN w ps i = some ns ∧ ∀ j ∈ ns, 0 ≤ j ∧ j < (ls.length : Int)
/-- from a line back to the first -/
def aheadF (F : Fnd) (i : Int) : Option Int := (F.find? fun q => decide (q.1 = i)).bind (·.2)
theorem pigeon : ∀ (n : Nat) (l : List Int), l.Nodup → (∀ x ∈ l, 0 ≤ x ∧ x < (n : Int)) → l.length ≤ n
  | 0, l, _, h => by
    cases l with
    | nil => exact Nat.le_refl _
    | cons x l => have := h x List.mem_cons_self; omega
  | n + 1, l, nd, h => by
    have r := pigeon n (l.erase n) (nd.erase _) fun x hx => by
      rw [nd.mem_erase_iff] at hx
      have := h x hx.2; have := hx.1
      omega
    rw [List.length_erase] at r
    split at r <;> omega
/-- what is found stays within -/
structure Good (n : Nat) (F : Fnd) (W : List Int) : Prop where
  nd : (F.map (·.1)).Nodup
  within : ∀ x ∈ F.map (·.1), 0 ≤ x ∧ x < (n : Int)
  wait : ∀ x ∈ W, 0 ≤ x ∧ x < (n : Int)
  short : W.length ≤ F.length
theorem Good.tail {n : Nat} {F : Fnd} {W : List Int} {h : Int} (g : Good n F (h :: W)) : Good n F W := ⟨g.nd, g.within, fun x m => g.wait x (List.mem_cons_of_mem _ m), by have := g.short; rw [List.length_cons] at this; omega⟩
end VL
set_option maxHeartbeats 2000000
namespace VL
open PySem PySem.Spec L2
inductive Rooted : Fnd → Prop
  | nil : Rooted []
  | snoc {F : Fnd} {t : Int} {o : Option Int} (r : Rooted F) (n : hasF F t = false) (h : ∀ i, o = some i → hasF F i = true) : Rooted (F ++ [(t, o)])
theorem hasF_snoc {F : Fnd} {t i : Int} {o : Option Int} : hasF (F ++ [(t, o)]) i = (hasF F i || decide (t = i)) := by
  unfold hasF; rw [List.any_append]; simp
theorem aheadF_old {F : Fnd} {t i : Int} {o : Option Int} (h : hasF F i = true) : aheadF (F ++ [(t, o)]) i = aheadF F i := by
  unfold aheadF hasF at *
  rw [List.find?_append]
  cases e : F.find? (fun q => decide (q.1 = i)) with
  | some q => rfl
  | none =>
    rw [List.find?_eq_none] at e
    rw [List.any_eq_true] at h
    obtain ⟨q, m, hq⟩ := h
    exact absurd hq (e q m)
def WayEnds (F : Fnd) : Nat → Int → Prop
  | 0, _ => False
  | m + 1, i => hasF F i = true ∧ ∀ h, aheadF F i = some h → WayEnds F m h
theorem WayEnds.mono {F : Fnd} : ∀ {m n : Nat} {i : Int}, WayEnds F m i → m ≤ n → WayEnds F n i
  | 0, _, _, h, _ => h.elim
  | m + 1, 0, _, _, l => by omega
  | m + 1, n + 1, i, h, l => ⟨h.1, fun j e => (h.2 j e).mono (by omega)⟩
theorem WayEnds.snoc {F : Fnd} {t : Int} {o : Option Int} : ∀ {m : Nat} {i : Int}, WayEnds F m i → WayEnds (F ++ [(t, o)]) m i
  | 0, _, h => h.elim
  | m + 1, i, h => ⟨by rw [hasF_snoc, h.1]; rfl, fun j e => (h.2 j (by rw [aheadF_old h.1] at e; exact e)).snoc⟩
/-- found, and waiting, as they stand between two rounds -/
structure Found (ls : List D) (F : Fnd) (W : List Int) : Prop where
  good : Good ls.length F W
  root : Rooted F
  sub : ∀ x ∈ W, hasF F x = true
theorem nxOf_in {ls : List D} (fl : Flows ls) {i : Int} (h : 0 ≤ i ∧ i < (ls.length : Int)) : ∀ t ∈ nxOf ls i, 0 ≤ t ∧ t < (ls.length : Int) := by
  obtain ⟨w, ps, ns, e, hn, hb⟩ := fl i h.1 h.2
  unfold nxOf; rw [e]; simp only [hn]; exact hb
theorem Found.first {ls : List D} {b : Int} (h : 0 ≤ b ∧ b < (ls.length : Int)) : Found ls [(b, none)] [b] :=
  ⟨⟨by simp, by simp [h.1, h.2], by simp [h.1, h.2], by simp⟩, .snoc (F := []) .nil rfl (fun _ e => by cases e), fun x m => by rw [List.mem_singleton.mp m]; simp [hasF]⟩
end VL
set_option maxHeartbeats 2000000
namespace VL
open PySem PySem.Spec L2
open PyProof.Rows hiding St
def mSortD (R : List D → Store → (D → Store → Prop) → Prop) : CV := fun ds S Q => match ds with
  | [d] => match rdD d S with
    | some kvs => ∃ ks : List Int, kvs.map (·.1) = ks.map Sum.inl ∧ ks.length < 64 ∧ ∀ ys : List Int, ys.Perm ks → ys.Pairwise (· ≤ ·) → R (ys.map D.int) S Q
    | none => False
  | _ => False
theorem mSortD_e {R : List D → Store → (D → Store → Prop) → Prop} {d : D} {S : Store} {Q : D → Store → Prop} : mSortD R [d] S Q = (match rdD d S with
    | some kvs => ∃ ks : List Int, kvs.map (·.1) = ks.map Sum.inl ∧ ks.length < 64 ∧ ∀ ys : List Int, ys.Perm ks → ys.Pairwise (· ≤ ·) → R (ys.map D.int) S Q
    | none => False) := rfl
theorem rpk_keys {K : PySem.W.Frag} {G : Hp} : ∀ {kvs : List (Key × V)} {ds : List (Key × D)}, RpK K G kvs ds → kvs.map (·.1) = ds.map (·.1)
  | _, _, .nil => rfl
  | _, _, .cons _ t => by rw [List.map_cons, List.map_cons, rpk_keys t]
theorem rpl_ints {K : PySem.W.Frag} {G : Hp} : ∀ ys : List Int, RpL K G (ys.map V.int) (ys.map D.int)
  | [] => .nil
  | y :: ys => .cons (.int y) (rpl_ints ys)
theorem cv_sortD {X : Cx} {R : List D → Store → (D → Store → Prop) → Prop} (hR : RecR R) (hc : X.calm = true) : CallV X (.builtin "sorted") (mSortD R) := by
  refine ⟨_, call_sortedDI hc, ?_⟩
  intro ds vs G S H Q Q' vw rl h k
  unfold mSortD at h
  split at h
  · split at h
    · rename_i d kvs e
      cases rl with
      | cons r t =>
        cases t
        obtain ⟨a, us, rfl, hd, rk⟩ := rdD_ok vw r e
        obtain ⟨ks, h1, h2, h3⟩ := h
        refine ⟨a, us, ks, rfl, hd, by rw [rpk_keys rk]; exact h1, h2, fun ys p pm pw hp => ?_⟩
        obtain ⟨S', G', d', q, a', rd⟩ := made_of hR vw hp (rpl_ints ys) (h3 ys pm pw)
        exact k d' S' _ _ _ a' rd q
    · exact h.elim
  · exact h.elim
/-- two rising rows of the same things -/
theorem sorted_eq : ∀ {l r : List Int}, l.Perm r → l.Pairwise (· ≤ ·) → r.Pairwise (· ≤ ·) → l = r := fun p a b => p.eq_of_pairwise (fun _ _ _ _ x y => Int.le_antisymm x y) a b
end VL
set_option maxHeartbeats 2000000
namespace VL
open PySem PySem.Spec L2
open PyProof.Rows hiding St
theorem right_stays {ks : List D} {b many : Int} : ∀ {ls : List D} {i : Nat}, rightB ks b many i ls = true → ∀ (j : Nat) l, ls[j]? = some l → stayB l ((i + j : Nat) : Int) many = true
  | [], _, _, j, l, e => by simp at e
  | l0 :: ls, i, h, j, l, e => by
    unfold rightB at h
    simp only [Bool.and_eq_true] at h
    cases j with
    | zero => simp at e; subst e; exact h.1.1
    | succ j =>
      have := right_stays h.2 j l (by simpa using e)
      rw [show i + (j + 1) = i + 1 + j by omega]; exact this
theorem flows_of {ks : List D} {b : Int} {ls : List D} (hl : ∀ l ∈ ls, LineL l) (h : rightB ks b ls.length 0 ls = true) : Flows ls := by
  intro i h0 h1
  obtain ⟨l, e, m⟩ := atI_ex h0 h1
  obtain ⟨w, es, r, rfl, he, hf, _⟩ := (hl l m).ex
  obtain ⟨ns, hn, _, hin⟩ := next_ex he hf i
  refine ⟨w, r, ns, e, hn, fun j hj => ?_⟩
  have st : stayB (.tup (.str w :: r)) i ls.length = true := by
    have e2 : ls[i.toNat]? = some (.tup (.str w :: r)) := by
      rw [← e]; have := atI_lit i.toNat ls; rw [Int.toNat_of_nonneg h0] at this; exact this.symm
    have := right_stays h i.toNat _ e2
    rw [Nat.zero_add, Int.toNat_of_nonneg h0] at this; exact this
  simp only [stayB, hn, List.all_append, Bool.and_eq_true, List.all_eq_true] at st
  have lt := st.1 (.int j) (List.mem_map.mpr ⟨j, hj, rfl⟩)
  refine ⟨?_, of_decide_eq_true lt⟩
  rcases hin j hj with ⟨e, _⟩ | g
  · omega
  · have q := (parts_fit he hf g).1
    obtain ⟨k, e, k0⟩ := isFrom_ex (show isFrom (.int j) = true from q)
    cases e; exact k0
/-- a program's def -/
theorem Prog.at {ps : List D} (h : Prog (.tup ps)) {d : Int} (h0 : 0 ≤ d) (h1 : d < (ps.length : Int)) : ∃ t g ks b ls, atI ps d = some (.tup [.str t, .str g, .tup ks, .int b, .tup ls]) ∧ 1 ≤ ls.length ∧ ls.length ≤ 24 ∧ (∀ l ∈ ls, LineL l) ∧ Flows ls := by
  obtain ⟨ds, e, _, _, hd, _⟩ := h.l.ex
  cases e
  obtain ⟨x, e, m⟩ := atI_ex h0 h1
  obtain ⟨t, g, ks, b, ls, rfl, _, _, _, _, _, _, _, _, l1, l24, hl, hr⟩ := (hd x m).ex
  exact ⟨t, g, ks, b, ls, e, l1, l24, hl, flows_of hl hr⟩
end VL
set_option maxHeartbeats 4000000
namespace VL
open PySem PySem.Spec L2
open PyProof.Rows hiding St
end VL
set_option maxHeartbeats 4000000
namespace VL
open PySem PySem.Spec L2
open PyProof.Rows hiding St
end VL
set_option maxHeartbeats 4000000
namespace VL
open PySem PySem.Spec L2
open PyProof.Rows hiding St
end VL
set_option maxHeartbeats 4000000
namespace VL
open PySem PySem.Spec L2
/-- a way of just so many lines leads there -/
def reachN (ls : List D) (b : Int) : Nat → Int → Prop
  | 0, i => i = b
  | k + 1, i => ∃ h, reachN ls b k h ∧ i ∈ nxOf ls h
/-- found and waiting, with how far each lies -/
structure Lev (ls : List D) (b : Int) (F : Fnd) (W : List Int) (δ : Int → Nat) : Prop where
  base : hasF F b = true ∧ aheadF F b = none ∧ δ b = 0
  up : ∀ i h, hasF F i = true → aheadF F i = some h → hasF F h = true ∧ δ i = δ h + 1 ∧ i ∈ nxOf ls h
  root : ∀ i, hasF F i = true → aheadF F i = none → i = b
  done : ∀ i, hasF F i = true → i ∉ W → ∀ j ∈ nxOf ls i, hasF F j = true ∧ δ j ≤ δ i + 1
  wsub : ∀ x ∈ W, hasF F x = true
  rise : W.Pairwise fun x y => δ x ≤ δ y
  span : ∀ h ∈ W.head?, ∀ x ∈ W, δ x ≤ δ h + 1
  low : ∀ i, hasF F i = true → i ∉ W → ∀ x ∈ W, δ i ≤ δ x
end VL
set_option maxHeartbeats 4000000
namespace VL
open PySem PySem.Spec L2
theorem Lev.first {ls : List D} {b : Int} : Lev ls b [(b, none)] [b] (fun _ => 0) where
  base := ⟨by simp [hasF], by simp [aheadF], rfl⟩
  up := fun i h a e => by
    have : b = i := by simpa [hasF] using a
    subst this
    simp [aheadF] at e
  root := fun i a _ => by
    have : b = i := by simpa [hasF] using a
    exact this.symm
  done := fun i a n => by
    have : b = i := by simpa [hasF] using a
    exact absurd (by simp [this]) n
  wsub := fun x m => by rw [List.mem_singleton.mp m]; simp [hasF]
  rise := by simp
  span := fun _ _ _ _ => Nat.zero_le _
  low := fun _ _ _ _ _ => Nat.zero_le _
end VL
set_option maxHeartbeats 4000000
namespace VL
open PySem PySem.Spec L2
/-- lies at just k -/
def Dist (ls : List D) (b : Int) (k : Nat) (i : Int) : Prop := reachN ls b k i ∧ ∀ j, j < k → ¬ reachN ls b j i
/-- the table up to k, the newest those at k -/
structure Tab (ls : List D) (b : Int) (k : Nat) (T : List (Int × Nat)) (N : List Int) : Prop where
  nd : (T.map (·.1)).Nodup
  is : ∀ q ∈ T, Dist ls b q.2 q.1 ∧ q.2 ≤ k
  all : ∀ j i, j ≤ k → reachN ls b j i → ∃ q ∈ T, q.1 = i
  new : ∀ i, i ∈ N ↔ Dist ls b k i
  rise : N.Pairwise (· < ·)
theorem Tab.first {ls : List D} {b : Int} : Tab ls b 0 [(b, 0)] [b] where
  nd := by simp
  is := fun q m => by rw [List.mem_singleton.mp m]; exact ⟨⟨rfl, fun j h => absurd h (Nat.not_lt_zero _)⟩, Nat.le_refl _⟩
  all := fun j i h r => by
    obtain rfl : j = 0 := by omega
    exact ⟨(b, 0), by simp, (show i = b from r).symm⟩
  new := fun i => by
    rw [List.mem_singleton]
    exact ⟨fun e => ⟨e, fun j h => absurd h (Nat.not_lt_zero _)⟩, fun d => d.1⟩
  rise := by simp
end VL
set_option maxHeartbeats 4000000
namespace VL
open PySem PySem.Spec L2
end VL
set_option maxHeartbeats 2000000
namespace VL
open PySem PySem.Spec L2
open PyProof.Rows hiding St
end VL
set_option maxHeartbeats 2000000
namespace PySem
open Sem (wp)
end PySem
namespace VL
open PySem PySem.Spec L2
open PyProof.Rows hiding St
end VL
set_option maxHeartbeats 2000000
namespace VL
open PySem PySem.Spec L2
open PyProof.Rows hiding St
end VL
set_option maxHeartbeats 4000000
namespace VL
open PySem PySem.Spec L2
open PyProof.Rows hiding St
/-- at which sign a home stands -/
def signN (h : D) : Nat := match h with
  | .tup [.str w, .int k] => if w = "peg" then k.toNat else 4 + k.toNat
  | _ => 0
def kindW (w : Str) : Nat := if w = "none" ∨ w = "new" ∨ w = "getb" then 98 else 110
def givesN (ps : List D) (d : D) : Nat := match d with
  | .int i => (match atI ps i with
    | some (.tup (_ :: .str g :: _)) => g.cps.toList.headD 0
    | _ => 0)
  | _ => 0
/-- what a home holds behind a line: what another one held, or a kind -/
def srcL (ps : List D) (l : D) (t : Nat) : Nat ⊕ Nat := match l with
  | .tup (.str w :: r) => (match writesW w r with
    | h :: _ => if t = signN h then (if w = "copy" then .inl (signN (r.getD 1 .non)) else if w = "call" then .inr (givesN ps (r.getD 0 .non)) else .inr (kindW w)) else .inl t
    | [] => .inl t)
  | _ => .inl t
theorem ext8 {a b : List Nat} (ha : a.length = 8) (hb : b.length = 8) (h : ∀ t, t < 8 → a.getD t 0 = b.getD t 0) : a = b := by
  apply List.ext_getElem (by omega)
  intro t h1 h2
  have := h t (by omega)
  rw [List.getD_eq_getElem?_getD, List.getD_eq_getElem?_getD, List.getElem?_eq_getElem h1, List.getElem?_eq_getElem h2] at this
  exact this
/-- a stand may be whatever where another one is not -/
def Low (a b : List Nat) : Prop := ∀ t, t < 8 → a.getD t 0 = b.getD t 0 ∨ a.getD t 0 = 45
theorem Low.refl (a : List Nat) : Low a a := fun _ _ => .inl rfl
theorem Low.trans {a b c : List Nat} (h : Low a b) (g : Low b c) : Low a c := fun t ht => by
  rcases h t ht with e | e
  · rw [e]; exact g t ht
  · exact .inr e
inductive Fact (ps ls : List D) (fs : List Nat) : Int → Nat → Nat → Prop
  | first {t : Nat} (h : t < 8) : Fact ps ls fs 0 t (fs.getD t 0)
  | copy {i j : Int} {s t k : Nat} (f : Fact ps ls fs i s k) (n : j ∈ nxOf ls i) (e : srcL ps ((atI ls i).getD .non) t = .inl s) (h : t < 8) : Fact ps ls fs j t k
  | made {i j : Int} {s t k c : Nat} (f : Fact ps ls fs i s k) (n : j ∈ nxOf ls i) (e : srcL ps ((atI ls i).getD .non) t = .inr c) (h : t < 8) : Fact ps ls fs j t c
/-- told truly, as far as told -/
def Just (P : Nat → Prop) (k : Nat) : Prop := (k ≠ 45 → P k) ∧ (k = 45 → P 45 ∨ ∃ a b, a ≠ b ∧ P a ∧ P b)
/-- a stand's kind of a home, told just by what the home holds -/
def Meets (P : Nat → Prop) (k : Nat) : Prop := Just P k ∧ ∀ k', P k' → k = k' ∨ k = 45
theorem Meets.one {P : Nat → Prop} {a b : Nat} (h : Meets P a) (g : Meets P b) : a = b := by
  by_cases ea : a = 45
  · rcases h.1.2 ea with q | ⟨x, y, ne, q1, q2⟩
    · rcases g.2 45 q with e | e <;> omega
    · rcases g.2 x q1 with e | e
      · rcases g.2 y q2 with e2 | e2
        · omega
        · omega
      · omega
  · have := g.2 a (h.1.1 ea)
    by_cases eb : b = 45
    · subst eb
      rcases g.1.2 rfl with q | ⟨x, y, ne, q1, q2⟩
      · rcases h.2 45 q with e | e <;> omega
      · rcases h.2 x q1 with e | e
        · rcases h.2 y q2 with e2 | e2 <;> omega
        · omega
    · omega
def StandAt (ps ls : List D) (fs : List Nat) (i : Int) : Option (List Nat) → Prop
  | none => ∀ t k, ¬ Fact ps ls fs i t k
  | some st => st.length = 8 ∧ ∀ t, t < 8 → Meets (Fact ps ls fs i t) (st.getD t 0)
theorem StandAt.one {ps ls : List D} {fs : List Nat} {i : Int} {a b : Option (List Nat)} (h : StandAt ps ls fs i a) (g : StandAt ps ls fs i b) : a = b := by
  have fact : ∀ {st : List Nat}, (∀ t, t < 8 → Meets (Fact ps ls fs i t) (st.getD t 0)) → ∃ t k, Fact ps ls fs i t k := fun {st} h => by
    obtain ⟨⟨a, b⟩, _⟩ := h 0 (by decide)
    by_cases k : st.getD 0 0 = 45
    · rcases b k with q | ⟨x, y, ne, q1, q2⟩
      · exact ⟨_, _, q⟩
      · exact ⟨_, _, q1⟩
    · exact ⟨_, _, a k⟩
  cases a with
  | none => cases b with
    | none => rfl
    | some st => obtain ⟨t, k, f⟩ := fact g.2; exact (h t k f).elim
  | some st => cases b with
    | none => obtain ⟨t, k, f⟩ := fact h.2; exact (g t k f).elim
    | some st' => rw [ext8 h.1 g.1 fun t ht => (h.2 t ht).one (g.2 t ht)]
end VL
set_option maxHeartbeats 4000000
namespace VL
open PySem PySem.Spec L2
open PyProof.Rows hiding St
def Src (ps ls : List D) : Prop := ∀ (i : Int) (t : Nat), t < 8 → (∀ s, srcL ps ((atI ls i).getD .non) t = .inl s → s < 8) ∧ ∀ c, srcL ps ((atI ls i).getD .non) t = .inr c → c ∈ [110, 98, 45]
end VL
set_option maxHeartbeats 4000000
namespace VL
open PySem PySem.Spec L2
open PyProof.Rows hiding St
def jumpsW : List Str := ["go", "if", "ifnone", "same", "back"]
/-- no jumps, a back at last -/
structure Straight (ls : List D) : Prop where
  pos : 1 ≤ ls.length
  on : ∀ (i : Nat) l, ls[i]? = some l → i + 1 < ls.length → ∃ w r, l = .tup (.str w :: r) ∧ w ∉ jumpsW
  end_ : ls[ls.length - 1]? = some (.tup [.str (Str.ofString "back")])
theorem next_on {w : Str} {r : List D} {i : Int} (h : w ∉ jumpsW) : nextN w r i = some [i + 1] := by
  simp only [jumpsW, List.mem_cons, List.not_mem_nil, or_false, not_or] at h
  obtain ⟨a, b, c, d, e⟩ := h
  unfold nextN
  rw [if_neg e, if_neg a, if_neg (by simp only [not_or]; exact ⟨b, c, d⟩)]
theorem Straight.nx {ls : List D} (s : Straight ls) {i : Nat} (h : i < ls.length) : nxOf ls (i : Int) = if i + 1 < ls.length then [(i : Int) + 1] else [] := by
  unfold nxOf
  rw [atI_lit]
  by_cases e : i + 1 < ls.length
  · rw [if_pos e]
    obtain ⟨w, r, q, hw⟩ := s.on i _ (List.getElem?_eq_getElem h) e
    rw [List.getElem?_eq_getElem h, q]
    simp only [next_on hw, Option.getD_some]
  · rw [if_neg e]
    have : i = ls.length - 1 := by omega
    rw [this, s.end_]
    rfl
end VL
set_option maxHeartbeats 4000000
namespace VL
open PySem PySem.Spec L2
open PyProof.Rows hiding St
def valT (kvs : List (NK × D)) (k : NK) : Option D := (kvs.find? fun p => decide (p.1 = k)).map (·.2)
def putT (kvs : List (NK × D)) (k : NK) (d : D) : List (NK × D) := if (valT kvs k).isSome then kvs.map (fun p => if p.1 = k then (p.1, d) else p) else kvs ++ [(k, d)]
section
variable {K : PySem.W.Frag} {G : Hp}
theorem EntR.len : ∀ {xs : List (NK × Addr × Value)} {kvs : List (NK × D)}, EntR K G xs kvs → xs.length = kvs.length
  | _, _, .nil => rfl
  | _, _, .cons _ _ _ t => by simp [t.len]
theorem EntR.val {k : NK} : ∀ {xs : List (NK × Addr × Value)} {kvs : List (NK × D)}, EntR K G xs kvs → (atKey xs k = none ∧ valT kvs k = none) ∨ ∃ q u v d, atKey xs k = some (q, u) ∧ valT kvs k = some d ∧ RelV v u ∧ Rp K G v d
  | _, _, .nil => .inl ⟨rfl, rfl⟩
  | _, _, .cons (k := k') (q := q) (u := u) (d := d) _ _ ⟨v, r1, r2⟩ t => by
    unfold atKey valT
    rw [List.find?_cons, List.find?_cons]
    by_cases e : k' = k
    · simp only [e, decide_true]
      exact .inr ⟨q, u, v, d, rfl, rfl, r1, r2⟩
    · simp only [e, decide_false]
      exact t.val
theorem EntR.append : ∀ {xs ys : List (NK × Addr × Value)} {kvs kws : List (NK × D)}, EntR K G xs kvs → EntR K G ys kws → EntR K G (xs ++ ys) (kvs ++ kws)
  | _, _, _, _, .nil, s => s
  | _, _, _, _, .cons a b c t, s => .cons a b c (t.append s)
theorem EntR.putAll {k : NK} {u : Value} {d : D} (rv : ∃ v, RelV v u ∧ Rp K G v d) : ∀ {xs : List (NK × Addr × Value)} {kvs : List (NK × D)}, EntR K G xs kvs → EntR K G (xs.map (putAt k u)) (kvs.map fun p => if p.1 = k then (p.1, d) else p)
  | _, _, .nil => .nil
  | _, _, .cons (k := k') a b c t => by
    rw [List.map_cons, List.map_cons]
    unfold putAt
    by_cases e : k' = k
    · rw [if_pos e, if_pos e]; exact .cons a b rv (t.putAll rv)
    · rw [if_neg e, if_neg e]; exact .cons a b c (t.putAll rv)
theorem EntR.put {k : NK} {q : Addr} {u : Value} {d : D} {xs : List (NK × Addr × Value)} {kvs : List (NK × D)} (r : EntR K G xs kvs) (hk : k.depth ≤ 8 ∧ keyN (dOfN k) = some k) (rk : Rp K G (.ref q) (dOfN k)) (rv : ∃ v, RelV v u ∧ Rp K G v d) : EntR K G (storedH xs k q u) (putT kvs k d) := by
  unfold putT
  rcases r.val (k := k) with ⟨a, b⟩ | ⟨_, _, _, _, a, b, _⟩
  · rw [storedH_new a, b]; exact r.append (.cons hk rk rv .nil)
  · rw [storedH_old a, b]; exact r.putAll rv
end
section
variable {X : Cx} {pins : List (Addr × Obj)} {σ : L2.St} {H G : Hp} {s : Shared} {p : Addr} {xs : List (NK × Addr × Value)} {kvs : List (NK × D)}
theorem EntR.is (I : L2.Inv X pins σ H s) (g : Same G H) : ∀ {xs : List (NK × Addr × Value)} {kvs : List (NK × D)}, EntR X.K G xs kvs → ∀ x ∈ xs, (PySem.nestedKind X.prog X.w).is s.heap x.1 x.2.1
  | _, _, .nil, x, m => nomatch m
  | _, _, .cons hk rk _ t, x, m => by
    rcases List.mem_cons.mp m with e | m
    · subst e; exact ⟨nested_of I g _ hk.2 rk rfl, hk.1⟩
    · exact t.is I g x m
/-- at p: a dict of the store whose keys are tuples, to be read -/
def TD (H : Hp) (w : World) (p : Addr) (xs : List (NK × Addr × Value)) : Prop := H p = some (.ext (dtPhi w p xs)) ∨ ∃ ob, H p = some (.frz ob (.ext (dtPhi w p xs)))
theorem TD.phi (I : L2.Inv X pins σ H s) (t : TD H X.w p xs) : dtPhi X.w p xs s.heap := by
  rcases t with e | ⟨ob, e⟩
  · exact (I.hok p _ e).1
  · exact (I.hok p _ e).2.1
theorem TD.of (I : L2.Inv X pins σ H s) (g : Same G H) (t : TD H X.w p xs) (r : EntR X.K G xs kvs) : (p == sysModules) = false ∧ xs.length ≤ sizeLine ∧ s.heap.DictOfH (PySem.nestedKind X.prog X.w) p xs := by
  obtain ⟨a, b, c, o, es, ep, h1, h2, h3, h4⟩ := t.phi I
  exact ⟨a, b, o, es, ep, h1, h2, h3, h4, r.is I g, c⟩
end
theorem cx_w {CX : CXT} {P : Program} {w : World} {K : PySem.W.Frag} {mg : Str → Option Value} {base : Heap} {N : List Str} {x : Str} {sc : Scope} {f : Addr} {cdv : Value} {A : Around} {outer : List Env} {s : Shared} {H : Hp} {E : XK} : (cxOf CX P w K mg base N x sc f cdv A outer s H E).w = w := rfl
end VL
set_option maxHeartbeats 4000000
namespace VL
open PySem PySem.Spec L2
open PyProof.Rows hiding St
/-- what a home's kind becomes behind a line: pairs of a sign and a kind -/
def bhN (ps : List D) (l : D) (s c : Nat) : List (Nat × Nat) := match l with
  | .tup (.str w :: r) => (match writesW w r with
    | h :: _ => (if s ≠ signN h then [(s, c)] else []) ++ (if w = "copy" then (if signN (r.getD 1 .non) = s then [(signN h, c)] else []) else (if s = signN h then [(signN h, if w = "call" then givesN ps (r.getD 0 .non) else kindW w)] else []))
    | [] => [(s, c)])
  | _ => []
theorem Fact.all {ps ls : List D} {fs : List Nat} (src : Src ps ls) {i : Int} {t k : Nat} (f : Fact ps ls fs i t k) : ∀ t', t' < 8 → ∃ k', Fact ps ls fs i t' k' := by
  have step : ∀ {i j : Int}, (∀ t', t' < 8 → ∃ k', Fact ps ls fs i t' k') → j ∈ nxOf ls i → ∀ t', t' < 8 → ∃ k', Fact ps ls fs j t' k' := fun {i j} ih n t' ht => by
    cases e : srcL ps ((atI ls i).getD .non) t' with
    | inl s =>
      obtain ⟨k', f'⟩ := ih s ((src i t' ht).1 s e)
      exact ⟨k', .copy f' n e ht⟩
    | inr c =>
      obtain ⟨k', f'⟩ := ih 0 (by decide)
      exact ⟨c, .made f' n e ht⟩
  induction f with
  | first h => exact fun t' ht => ⟨_, .first ht⟩
  | copy f n e h ih => exact step ih n
  | made f n e h ih => exact step ih n
/-- a fact: a line, a sign, a kind -/
abbrev FT := Int × Nat × Nat
/-- where a fact goes on to -/
def nxF (ps ls : List D) (f : FT) : List FT := (nxOf ls f.1).flatMap fun j => (bhN ps ((atI ls f.1).getD .non) f.2.1 f.2.2).map fun p => (j, p.1, p.2)
structure FI (ps ls : List D) (fs : List Nat) (L W : List FT) : Prop where
  nd : L.Nodup
  fl : ∀ f ∈ L, Fact ps ls fs f.1 f.2.1 f.2.2
  fw : ∀ f ∈ W, Fact ps ls fs f.1 f.2.1 f.2.2
  on : ∀ f ∈ L, ∀ g ∈ nxF ps ls f, g ∈ L ∨ g ∈ W
  st : ∀ t, t < 8 → (0, t, fs.getD t 0) ∈ L ∨ (0, t, fs.getD t 0) ∈ W
/-- a new one -/
theorem FI.new {ps ls : List D} {fs : List Nat} {L W : List FT} {f : FT} (q : FI ps ls fs L (W ++ [f])) (h : f ∉ L) (go : ∀ g ∈ nxF ps ls f, Fact ps ls fs g.1 g.2.1 g.2.2) : FI ps ls fs (L ++ [f]) (W ++ nxF ps ls f) := by
  have sub : ∀ g, g ∈ L ∨ g ∈ W ++ [f] → g ∈ L ++ [f] ∨ g ∈ W ++ nxF ps ls f := fun g hg => by
    rcases hg with m | m
    · exact .inl (List.mem_append_left _ m)
    · rcases List.mem_append.mp m with m | m
      · exact .inr (List.mem_append_left _ m)
      · rw [List.mem_singleton.mp m]; exact .inl (by simp)
  refine ⟨?_, fun g m => ?_, fun g m => ?_, fun a ha g hg => ?_, fun t ht => sub _ (q.st t ht)⟩
  · rw [List.nodup_append]
    exact ⟨q.nd, by simp, fun a ha b hb => by rw [List.mem_singleton.mp hb]; exact fun z => h (z ▸ ha)⟩
  · rcases List.mem_append.mp m with m | m
    · exact q.fl g m
    · rw [List.mem_singleton.mp m]; exact q.fw f (by simp)
  · rcases List.mem_append.mp m with m | m
    · exact q.fw g (List.mem_append_left _ m)
    · exact go g m
  · rcases List.mem_append.mp ha with ha | ha
    · exact sub g (q.on a ha g hg)
    · rw [List.mem_singleton.mp ha] at hg; exact .inr (List.mem_append_right _ hg)
end VL
set_option maxHeartbeats 4000000
namespace VL
open PySem PySem.Spec L2
open PyProof.Rows hiding St
end VL
set_option maxHeartbeats 2000000
namespace VL
open PySem PySem.Spec L2
open PyProof.Rows hiding St
abbrev VXs := Str → List (Str × D) → Sl → Store → Prop
def PayR (K : PySem.W.Frag) (G : Hp) (fs : List (Str × D)) (dd : Option Addr) (H : Hp) : Prop := (fs = [] ∧ dd = none) ∨ (fs ≠ [] ∧ ∃ d vs, dd = some d ∧ H d = some (.xd vs) ∧ RpF K G vs fs)
def WOk (K : PySem.W.Frag) (mg : Str → Option Value) (G : Hp) (S : Store) (H : Hp) (Wv : VXs) (W : WX) : Prop :=
  ∀ n fs cls dd ρ S' σ H' G', Aft K G S H S' H' G' → REnv K G' σ ρ → mg n = some cls → PayR K G' fs dd H' → Wv n fs ρ S' → W cls dd σ H'
section
variable {K : PySem.W.Frag} {mg : Str → Option Value} {G G1 H H1 : Hp} {S S1 : Store} {Wv : VXs} {W : WX}
theorem WOk.after (o : WOk K mg G S H Wv W) (a : Aft K G S H S1 H1 G1) : WOk K mg G1 S1 H1 Wv W := fun n fs cls dd ρ S' σ H' G' b => o n fs cls dd ρ S' σ H' G' (a.trans b)
end
def VEnds.gone (E : VEnds) (i : Nat) : VEnds := { nx := fun ρ S => E.nx (ρ.set i none) S, rt := E.rt, bk := fun ρ S => E.bk (ρ.set i none) S, ct := fun ρ S => E.ct (ρ.set i none) S }
theorem gone_nx {E : VEnds} {i : Nat} : (E.gone i).nx = fun ρ S => E.nx (ρ.set i none) S := rfl
theorem gone_rt {E : VEnds} {i : Nat} : (E.gone i).rt = E.rt := rfl
theorem gone_bk {E : VEnds} {i : Nat} : (E.gone i).bk = fun ρ S => E.bk (ρ.set i none) S := rfl
theorem gone_ct {E : VEnds} {i : Nat} : (E.gone i).ct = fun ρ S => E.ct (ρ.set i none) S := rfl
section
variable {X : Cx} {a D : Addr} {oe : Obj} {pn : List (Addr × Obj)} {m : VE} {e : Expr} {y : Str} {p2 p3 pos : Pos} {b : Bool}
/-- names of classes, one behind another -/
inductive ClsR (X : Cx) : List Expr → List V → List Value → Prop
  | nil : ClsR X [] [] []
  | own {y : Str} {C : Addr} {p : Pos} {es : List Expr} {vs : List V} {us : List Value} (hg : Gl X y) (hm : X.mg y = some (.ref C)) (hd : (y == ("__debug__" : Str)) = false) (t : ClsR X es vs us) : ClsR X (.Name y p :: es) (.ref C :: vs) (.ref C :: us)
theorem ClsR.len {es : List Expr} {vs : List V} {us : List Value} (c : ClsR X es vs us) : vs.length = us.length := by
  induction c with
  | nil => rfl
  | own hg hm hd t ih => simp [ih]
end
end VL
set_option maxHeartbeats 2000000
namespace VL
open PySem PySem.Spec L2
open PyProof.Rows hiding St
end VL
set_option maxHeartbeats 2000000
namespace VL
open PySem PySem.Spec L2
open PyProof.Rows hiding St
end VL
set_option maxHeartbeats 2000000
namespace VL
open PySem PySem.Spec L2
open PyProof.Rows hiding St
mutual
/-- no dict, no address, texts of true signs -/
def layD : D → Bool
  | .non => true | .bl _ => true | .int _ => true | .str s => PyData.strOk s
  | .tup ds => layL ds | .lst ds => layL ds | .ro ds => layL ds | .dct _ => false | .ref _ => false
def layL : List D → Bool
  | [] => true
  | d :: ds => layD d && layL ds
end
mutual
theorem lay_ok : ∀ d : D, layD d = true → (py d).canLay0 = true ∧ (py d).depth ≤ dep d
  | .non, _ => ⟨rfl, Nat.zero_le _⟩
  | .bl b, _ => ⟨rfl, Nat.zero_le _⟩
  | .int i, _ => ⟨rfl, Nat.zero_le _⟩
  | .str s, h => ⟨by have h' : PyData.strOk s = true := by simpa only [layD] using h
                     exact h', Nat.zero_le _⟩
  | .tup ds, h => by
    obtain ⟨a, b⟩ := layL_ok ds (by simpa only [layD] using h)
    exact ⟨by simpa only [py, PyData.canLay0] using a, by simp only [py, PyData.depth, dep]; omega⟩
  | .lst ds, h => by
    obtain ⟨a, b⟩ := layL_ok ds (by simpa only [layD] using h)
    exact ⟨by simpa only [py, PyData.canLay0] using a, by simp only [py, PyData.depth, dep]; omega⟩
  | .ro ds, h => by
    obtain ⟨a, b⟩ := layL_ok ds (by simpa only [layD] using h)
    exact ⟨by simpa only [py, PyData.canLay0] using a, by simp only [py, PyData.depth, dep]; omega⟩
  | .dct _, h => by simp only [layD, Bool.false_eq_true] at h
  | .ref _, h => by simp only [layD, Bool.false_eq_true] at h
theorem layL_ok : ∀ ds : List D, layL ds = true → PyData.canLayAll0 (pyL ds) = true ∧ PyData.depthAll (pyL ds) ≤ depL ds
  | [], _ => ⟨rfl, Nat.zero_le _⟩
  | d :: ds, h => by
    simp only [layL, Bool.and_eq_true] at h
    obtain ⟨a, b⟩ := lay_ok d h.1
    obtain ⟨c, e⟩ := layL_ok ds h.2
    exact ⟨by simp only [pyL, PyData.canLayAll0, a, c, Bool.and_self], by simp only [pyL, PyData.depthAll, depL]; omega⟩
end
theorem layL_of : ∀ {ds : List D}, (∀ d ∈ ds, layD d = true) → layL ds = true
  | [], _ => rfl
  | d :: ds, h => by simp only [layL, h d (by simp), layL_of (ds := ds) (fun e he => h e (List.mem_cons_of_mem _ he)), Bool.and_self]
theorem shaped_lay {d : D} (h : layD d = true) (k : dep d ≤ 64) : SeqAt.shaped (py d) = true := by
  obtain ⟨a, b⟩ := lay_ok d h
  unfold SeqAt.shaped
  rw [a, Bool.true_and, decide_eq_true_eq]; omega
theorem rsv_lay {S : Store} {d : D} (h : layD d = true) : rsv S d = d := by
  cases d <;> first | rfl | simp only [layD, Bool.false_eq_true] at h
theorem okq_lay {S : Store} {d : D} (h : layD d = true) (k : dep d ≤ 64) : okq S d := okq_of (rsv_lay h) (shaped_lay h k)
end VL
set_option maxHeartbeats 2000000
namespace VL
open PySem PySem.Spec L2
open PyProof.Rows hiding St
end VL
set_option maxHeartbeats 2000000
namespace VL
open PySem PySem.Spec L2
open PyProof.Rows hiding St
def Free (b : List Nat) : Prop := ∀ c ∈ b, c ≠ 32 ∧ c ≠ 10
def Seg (L : Nat) (t : List Nat) : Prop := ∀ p b s, t = p ++ b ++ s → Free b → b.length ≤ L
theorem Seg.mono {L M : Nat} {t : List Nat} (h : Seg L t) (hm : L ≤ M) : Seg M t := fun p b s e f => Nat.le_trans (h p b s e f) hm
theorem Seg.sub {L : Nat} {t p s b : List Nat} (h : Seg L t) (e : t = p ++ b ++ s) : Seg L b := fun p' b' s' e' f => h (p ++ p') b' (s' ++ s) (by rw [e, e']; simp) f
theorem Seg.short {L : Nat} {t : List Nat} (h : t.length ≤ L) : Seg L t := fun p b s e _ => by
  have := congrArg List.length e
  simp only [List.length_append] at this; omega
theorem Seg.app {L M : Nat} {a b : List Nat} (ha : Seg L a) (hb : Seg M b) : Seg (L + M) (a ++ b) := by
  intro p x s e f
  rw [List.append_assoc] at e
  rcases List.append_eq_append_iff.mp e with ⟨u, e1, e2⟩ | ⟨u, e1, e2⟩
  · have := hb u x s (by rw [e2, List.append_assoc]) f; omega
  · rcases List.append_eq_append_iff.mp e2 with ⟨v, e3, e4⟩ | ⟨v, e3, e4⟩
    · have h1 := ha p x v (by rw [e1, e3, List.append_assoc]) f; omega
    · have f1 : Free u := fun c hc => f c (by rw [e3]; exact List.mem_append_left _ hc)
      have f2 : Free v := fun c hc => f c (by rw [e3]; exact List.mem_append_right _ hc)
      have h1 := ha p u [] (by rw [e1, List.append_nil]) f1
      have h2 := hb [] v s (by rw [e4, List.nil_append]) f2
      rw [e3, List.length_append]; omega
/-- what bounds a text -/
structure BndL (L n : Nat) (t : List Nat) : Prop where
  seg : Seg L t
  nls : t.count 10 ≤ n
  sps : t.count 32 ≤ n
  ok : ∀ c ∈ t, PyData.strOk ⟨#[c]⟩ = true
  len : t.length ≤ 300 * n
theorem BndL.sub {L n : Nat} {t p s b : List Nat} (h : BndL L n t) (e : t = p ++ b ++ s) : BndL L n b := by
  have h1 := h.nls; have h2 := h.sps; have h3 := h.len
  rw [e] at h1 h2 h3
  simp only [List.count_append, List.length_append] at h1 h2 h3
  exact ⟨h.seg.sub e, by omega, by omega, fun c hc => h.ok c (by rw [e]; exact List.mem_append_left _ (List.mem_append_right _ hc)), by omega⟩
theorem BndL.mono {L M n m : Nat} {t : List Nat} (h : BndL L n t) (h1 : L ≤ M) (h2 : n ≤ m) : BndL M m t :=
  ⟨h.seg.mono h1, Nat.le_trans h.nls h2, Nat.le_trans h.sps h2, h.ok, Nat.le_trans h.len (Nat.mul_le_mul_left _ h2)⟩
/-- a piece is cut out of the text and up to a sign put in its place: the pieces left -/
theorem BndL.put {L n : Nat} {a y b x : List Nat} (h : BndL L n (a ++ y ++ b)) (hx : x.length ≤ 1) (ok : ∀ c ∈ x, PyData.strOk ⟨#[c]⟩ = true) : BndL (L + 1 + L) (n + 1) (a ++ x ++ b) := by
  have ha : BndL L n a := h.sub (p := []) (s := y ++ b) (by simp)
  have hb : BndL L n b := h.sub (p := a ++ y) (s := []) (by simp)
  have c1 := List.count_le_length (a := 10) (l := x)
  have c2 := List.count_le_length (a := 32) (l := x)
  have h1 := h.nls; have h2 := h.sps; have h3 := h.len
  simp only [List.count_append, List.length_append] at h1 h2 h3
  refine ⟨(ha.seg.app (Seg.short hx)).app hb.seg, ?_, ?_, fun c hc => ?_, ?_⟩
  · simp only [List.count_append]; omega
  · simp only [List.count_append]; omega
  · simp only [List.mem_append] at hc
    rcases hc with (hc | hc) | hc
    · exact ha.ok c hc
    · exact ok c hc
    · exact hb.ok c hc
  · simp only [List.length_append]; omega
end VL
set_option maxHeartbeats 2000000
namespace VL
open PySem PySem.Spec L2
open PyProof.Rows hiding St
end VL
set_option maxHeartbeats 2000000
namespace VL
open PySem PySem.Spec L2
open PyProof.Rows hiding St
end VL
set_option maxHeartbeats 2000000
namespace VL
open PySem PySem.Spec L2
open PyProof.Rows hiding St
section
variable {X : Cx}
theorem RpK.at {K : PySem.W.Frag} {G : Hp} : ∀ {kvs : List (Key × V)} {ds : List (Key × D)} {i : Nat} {k : Key} {d : D}, RpK K G kvs ds → ds[i]? = some (k, d) → ∃ v, kvs[i]? = some (k, v) ∧ Rp K G v d
  | _, _, _, _, _, .nil, e => by simp at e
  | _, _, 0, _, _, .cons h _, e => by simp at e; obtain ⟨rfl, rfl⟩ := e; exact ⟨_, rfl, h⟩
  | _, _, i + 1, k, d, .cons _ t, e => by
    obtain ⟨u, h1, h2⟩ := RpK.at t (i := i) (k := k) (d := d) (by simpa using e)
    exact ⟨u, by simpa using h1, h2⟩
end
end VL
set_option maxHeartbeats 2000000
namespace VL
open PySem PySem.Spec L2
open PyProof.Rows hiding St
end VL
set_option maxHeartbeats 2000000
namespace VL
open PySem PySem.Spec L2
open PyProof.Rows hiding St
section
variable {X : Cx}
def maxI : List Int → Int → Int
  | [], d => d
  | n :: ns, _ => ns.foldl max n
theorem argBest_max (is : List Int) (n : Int) (ns : List Int) (e : is = n :: ns) : is.getD (argBest (fun i j => decide (is.getD i 0 > is.getD j 0)) (is.length - 1)) 0 = ns.foldl max n := by
  obtain ⟨b1, b2⟩ := argBest_gt (fun i => is.getD i 0) (is.length - 1)
  have up : ∀ (l : List Int) (m : Int), (∀ x ∈ l, x ≤ l.foldl max m) ∧ m ≤ l.foldl max m ∧ (l.foldl max m = m ∨ l.foldl max m ∈ l) := by
    intro l
    induction l with
    | nil => intro m; exact ⟨fun _ h => (nomatch h), Int.le_refl _, .inl rfl⟩
    | cons a l ih =>
      intro m
      obtain ⟨h1, h2, h3⟩ := ih (max m a)
      rw [List.foldl_cons]
      refine ⟨fun x hx => ?_, by omega, ?_⟩
      · rcases List.mem_cons.mp hx with rfl | hx
        · omega
        · exact h1 x hx
      · rcases h3 with h3 | h3
        · rw [h3]
          rcases Int.le_total m a with z | z
          · right; rw [Int.max_eq_right z]; simp
          · left; rw [Int.max_eq_left z]
        · exact .inr (List.mem_cons_of_mem _ h3)
  obtain ⟨u1, u2, u3⟩ := up ns n
  have hlen : is.length = ns.length + 1 := by rw [e]; rfl
  have b1' : argBest (fun i j => decide (is.getD i 0 > is.getD j 0)) (is.length - 1) ≤ is.length - 1 := b1
  generalize argBest (fun i j => decide (is.getD i 0 > is.getD j 0)) (is.length - 1) = q at b1' b2
  have b2' : ∀ j, j ≤ is.length - 1 → is.getD j 0 ≤ is.getD q 0 := b2
  have mem : is.getD q 0 ∈ is := PySem.getD_mem (by omega)
  have le1 : is.getD q 0 ≤ ns.foldl max n := by
    rw [e] at mem
    rcases List.mem_cons.mp mem with z | z
    · rw [← e] at z; rw [z]; exact u2
    · rw [← e] at z; exact u1 _ z
  have ge1 : ns.foldl max n ≤ is.getD q 0 := by
    have m2 : ns.foldl max n ∈ is := by
      rw [e]
      rcases u3 with z | z
      · rw [z]; simp
      · exact List.mem_cons_of_mem _ z
    obtain ⟨i, hi, ei⟩ := List.mem_iff_getElem.mp m2
    have := b2' i (by omega)
    rw [show is.getD i 0 = ns.foldl max n by rw [List.getD_eq_getElem?_getD, List.getElem?_eq_getElem hi, ← ei] <;> rfl] at this
    exact this
  omega
variable {o : Expr} {td : TE} {m : VE} {dv : Int} {j : Nat} {p pos apos mpos kp kp2 : Pos}
end
end VL
set_option maxHeartbeats 2000000
namespace VL
open PySem PySem.Spec L2
open PyProof.Rows hiding St
structure Seen (ls : List D) (L : List Int) : Prop where
  nd : L.Nodup
  first : (0 : Int) ∈ L
  way : ∀ i ∈ L, ∃ k, reachN ls 0 k i
  rg : ∀ i ∈ L, 0 ≤ i ∧ i < (ls.length : Int)
theorem Seen.len {ls : List D} {L : List Int} (s : Seen ls L) : L.length ≤ ls.length := pigeon _ _ s.nd s.rg
theorem nx_nodup (ls : List D) (i : Int) : (nxOf ls i).Nodup := by
  unfold nxOf
  split
  · rename_i w ps _
    cases e : nextN w ps i with
    | none => simp
    | some ns =>
      simp only [Option.getD_some]
      unfold nextN at e
      split at e
      · cases e; simp
      split at e
      · split at e
        · cases e; simp
        · cases e
      split at e
      · split at e
        · cases e
          unfold sort2
          split
          · simp
          · split <;> simp <;> omega
        · cases e
      · cases e; simp
  · simp
theorem Seen.more {ls : List D} (fl : Flows ls) {L : List Int} (s : Seen ls L) {a : Int} (ha : a ∈ L) : Seen ls (L ++ (nxOf ls a).filter fun t => !decide (t ∈ L)) where
  nd := by
    rw [List.nodup_append]
    refine ⟨s.nd, (nx_nodup ls a).filter _, fun x hx y hy z => ?_⟩
    subst z
    have := (List.mem_filter.mp hy).2
    simp at this
    exact this hx
  first := List.mem_append_left _ s.first
  way := fun i hi => by
    rcases List.mem_append.mp hi with hi | hi
    · exact s.way i hi
    · obtain ⟨k, hk⟩ := s.way a ha
      exact ⟨k + 1, a, hk, (List.mem_filter.mp hi).1⟩
  rg := fun i hi => by
    rcases List.mem_append.mp hi with hi | hi
    · exact s.rg i hi
    · exact nxOf_in fl (s.rg a ha) i (List.mem_filter.mp hi).1
theorem Seen.one {ls : List D} (h : 1 ≤ ls.length) : Seen ls [0] where
  nd := by simp
  first := by simp
  way := fun i hi => ⟨0, List.mem_singleton.mp hi⟩
  rg := fun i hi => by rw [List.mem_singleton.mp hi]; omega
theorem sub_len2 {a b : List Int} (h : a.Nodup) (s : ∀ x ∈ a, x ∈ b) : a.length ≤ b.length := by
  induction a generalizing b with
  | nil => simp
  | cons x a ih =>
    obtain ⟨h1, h2⟩ := List.nodup_cons.mp h
    have hx := s x (by simp)
    have := ih h2 (b := b.erase x) fun y hy => by
      have hne : y ≠ x := fun z => h1 (z ▸ hy)
      exact (List.mem_erase_of_ne hne).mpr (s y (List.mem_cons_of_mem _ hy))
    rw [List.length_erase_of_mem hx] at this
    have pos : 0 < b.length := List.length_pos_of_mem hx
    rw [List.length_cons]; omega
end VL
set_option maxHeartbeats 4000000
namespace VL
open PySem PySem.Spec L2
open PyProof.Rows hiding St
end VL
set_option maxHeartbeats 4000000
namespace VL
open PySem PySem.Spec L2
open PyProof.Rows hiding St
section
variable {X : Cx}
theorem keys_ints {is : List Int} {kvs : List (Key × Value)} (e : kvs.map (·.1) = is.map fun i => (Sum.inl i : Key)) {i : Nat} {v : Value} (h : ∃ k x, kvs[i]? = some (k, x) ∧ (mixKind P w).is k v = true) : ∃ t, v = Value.int (is.getD i 0) t := by
  obtain ⟨k, x, h1, h2⟩ := h
  have e1 : (kvs.map (·.1))[i]? = some k := by rw [List.getElem?_map, h1]; rfl
  rw [e, List.getElem?_map] at e1
  obtain ⟨j, hj, rfl⟩ := Option.map_eq_some_iff.mp e1
  obtain ⟨t, e3⟩ := relV_key (show keyIs (.inl j) v = true from h2)
  exact ⟨t, by rw [e3, List.getD_eq_getElem?_getD, hj]; rfl⟩
end
end VL
set_option maxHeartbeats 4000000
namespace VL
open PySem PySem.Spec L2
open PyProof.Rows hiding St
end VL
set_option maxHeartbeats 4000000
namespace VL
open PySem PySem.Spec L2
open PyProof.Rows hiding St
end VL
set_option maxHeartbeats 4000000
namespace VL
open PySem PySem.Spec L2
open PyProof.Rows hiding St
end VL
set_option maxHeartbeats 4000000
namespace VL
open PySem PySem.Spec L2
open PyProof.Rows hiding St
def WkB (N : Int → List Int) (laid : List Int) : Nat → Int → Int → Prop
  | 0, a, b => a = b
  | i + 1, a, b => ∃ c, WkB N laid i a c ∧ b ∈ N c ∧ b ∉ laid
def WkF (N : Int → List Int) (laid : List Int) : Nat → Int → Int → Prop
  | 0, a, b => a = b
  | i + 1, a, b => ∃ t, t ∈ N a ∧ t ∉ laid ∧ WkF N laid i t b
theorem WkF.snoc {N : Int → List Int} {laid : List Int} : ∀ {i : Nat} {a b c : Int}, WkF N laid i a b → c ∈ N b → c ∉ laid → WkF N laid (i + 1) a c
  | 0, a, b, c, h, h1, h2 => by rw [show a = b from h]; exact ⟨c, h1, h2, rfl⟩
  | i + 1, a, b, c, ⟨t, h1, h2, h3⟩, h4, h5 => ⟨t, h1, h2, h3.snoc h4 h5⟩
theorem WkB.cons {N : Int → List Int} {laid : List Int} : ∀ {i : Nat} {a b c : Int}, b ∈ N a → b ∉ laid → WkB N laid i b c → WkB N laid (i + 1) a c
  | 0, a, b, c, h1, h2, h => by rw [← show b = c from h]; exact ⟨a, rfl, h1, h2⟩
  | i + 1, a, b, c, h1, h2, ⟨d, h3, h4, h5⟩ => ⟨d, WkB.cons h1 h2 h3, h4, h5⟩
/-- the law's ends behind i turns -/
structure EndsL (K : List Int) (N : Int → List Int) (laid : List Int) (i : Nat) (E : List Int) : Prop where
  up : E.Pairwise (· < ·)
  sub : ∀ b ∈ E, b ∈ K
  mem : ∀ b, b ∈ E ↔ ∃ a ∈ K, WkB N laid i a b
  len : E.length ≤ K.length
theorem EndsL.next {K : List Int} {N : Int → List Int} {laid : List Int} {i : Nat} {E F : List Int} (h : EndsL K N laid i E) (hN : ∀ a ∈ K, ∀ b ∈ N a, b ∈ K) (up : F.Pairwise (· < ·)) (m : ∀ t, t ∈ F ↔ ∃ a ∈ E, t ∈ N a ∧ t ∉ laid) : EndsL K N laid (i + 1) F := by
  have sub : ∀ b ∈ F, b ∈ K := fun b hb => by
    obtain ⟨a, ha, h1, _⟩ := (m b).mp hb
    exact hN a (h.sub a ha) b h1
  refine ⟨up, sub, fun b => ?_, sub_len2 (up.imp fun h => Int.ne_of_lt h) sub⟩
  rw [m b]
  constructor
  · rintro ⟨c, hc, h1, h2⟩
    obtain ⟨a, ha, hw⟩ := (h.mem c).mp hc
    exact ⟨a, ha, c, hw, h1, h2⟩
  · rintro ⟨a, ha, c, hw, h1, h2⟩
    exact ⟨c, (h.mem c).mpr ⟨a, ha, hw⟩, h1, h2⟩
end VL
set_option maxHeartbeats 4000000
namespace PySem.SeqAt
open MeetsSeq
end PySem.SeqAt
namespace VL
open PySem PySem.Spec L2 PySem.SeqAt
open PyProof.Rows hiding St
end VL
set_option maxHeartbeats 4000000
namespace VL
open PySem PySem.Spec L2
open PyProof.Rows hiding St
theorem pickAt_5 {α : Type} {a b c d e f : α} {l : List α} {pi : List Nat} : pickAt (a :: b :: c :: d :: e :: f :: l) (5 :: pi) = f :: pickAt (a :: b :: c :: d :: e :: f :: l) pi := rfl
mutual
/-- ints up to n, rows up to L -/
def okN (n L : Nat) : D → Bool
  | .non => true | .bl _ => true | .int i => decide (i.natAbs ≤ n) | .str s => PyData.strOk s && decide (s.length ≤ L)
  | .tup ds => decide (ds.length ≤ L) && okM n L ds
  | .lst ds => decide (ds.length ≤ L) && okM n L ds
  | .dct kvs => kvs.isEmpty
  | .ro _ => false | .ref _ => false
def okM (n L : Nat) : List D → Bool
  | [] => true
  | d :: ds => okN n L d && okM n L ds
end
theorem okM_iff {n L : Nat} : ∀ {ds : List D}, okM n L ds = true ↔ ∀ d ∈ ds, okN n L d = true
  | [] => ⟨fun _ d h => (nomatch h), fun _ => rfl⟩
  | d :: ds => by rw [okM, Bool.and_eq_true, okM_iff (ds := ds), List.forall_mem_cons]
theorem okN_tup {n L : Nat} {ds : List D} : okN n L (.tup ds) = true ↔ ds.length ≤ L ∧ ∀ d ∈ ds, okN n L d = true := by rw [okN, Bool.and_eq_true, decide_eq_true_eq, okM_iff]
theorem okN_lst {n L : Nat} {ds : List D} : okN n L (.lst ds) = true ↔ ds.length ≤ L ∧ ∀ d ∈ ds, okN n L d = true := by rw [okN, Bool.and_eq_true, decide_eq_true_eq, okM_iff]
mutual
theorem okN_mono {n L n2 L2 : Nat} (hn : n ≤ n2) (hL : L ≤ L2) : ∀ d : D, okN n L d = true → okN n2 L2 d = true
  | .non, _ => rfl
  | .bl _, _ => rfl
  | .int i, h => decide_eq_true (Nat.le_trans (of_decide_eq_true h) hn)
  | .str s, h => by
    rw [okN, Bool.and_eq_true, decide_eq_true_eq] at h ⊢
    exact ⟨h.1, by omega⟩
  | .tup ds, h => by
    rw [okN, Bool.and_eq_true, decide_eq_true_eq] at h ⊢
    exact ⟨by omega, okM_mono hn hL ds h.2⟩
  | .lst ds, h => by
    rw [okN, Bool.and_eq_true, decide_eq_true_eq] at h ⊢
    exact ⟨by omega, okM_mono hn hL ds h.2⟩
  | .dct _, h => h
  | .ro _, h => by simp [okN] at h
  | .ref _, h => by simp [okN] at h
theorem okM_mono {n L n2 L2 : Nat} (hn : n ≤ n2) (hL : L ≤ L2) : ∀ ds : List D, okM n L ds = true → okM n2 L2 ds = true
  | [], _ => rfl
  | d :: ds, h => by
    rw [okM, Bool.and_eq_true] at h ⊢
    exact ⟨okN_mono hn hL d h.1, okM_mono hn hL ds h.2⟩
end
theorem cntL_app : ∀ (a b : List D), cntL (a ++ b) = cntL a + cntL b
  | [], b => by simp [cntL]
  | d :: a, b => by
    have ih := cntL_app a b
    rw [List.cons_append, cntL, cntL, ih]; omega
theorem cntL_cut (a : List D) (i : Nat) (h : i < a.length) : cntL a = cntL (a.take i) + (cnt a[i] + 2) + cntL (a.drop (i + 1)) := by
  have e : a = a.take i ++ a[i] :: a.drop (i + 1) := by rw [← List.drop_eq_getElem_cons h, List.take_append_drop]
  conv => lhs; rw [e]
  rw [cntL_app, cntL]; omega
theorem cntL_take (a : List D) (i : Nat) : cntL (a.take i) ≤ cntL a := by
  conv => rhs; rw [← List.take_append_drop i a]
  rw [cntL_app]; omega
theorem cntL_drop (a : List D) (i : Nat) : cntL (a.drop i) ≤ cntL a := by
  conv => rhs; rw [← List.take_append_drop i a]
  rw [cntL_app]; omega
theorem depL_le {e : Nat} : ∀ {ds : List D}, depL ds ≤ e ↔ ∀ d ∈ ds, dep d ≤ e
  | [] => ⟨fun _ d h => (nomatch h), fun _ => Nat.zero_le _⟩
  | d :: ds => by rw [depL, Nat.max_le, depL_le (ds := ds), List.forall_mem_cons]
theorem depL_mem {ds : List D} {d : D} (h : d ∈ ds) : dep d ≤ depL ds := depL_le.mp (Nat.le_refl _) d h
/-- a thing bent: a little wider, a little deeper -/
structure Bent (n L c e : Nat) (d : D) : Prop where
  ok : okN n L d = true
  cn : cnt d ≤ c
  de : dep d ≤ e
theorem Bent.mono {n L c e n2 L2 c2 e2 : Nat} {d : D} (h : Bent n L c e d) (hn : n ≤ n2 := by omega) (hL : L ≤ L2 := by omega) (hc : c ≤ c2 := by omega) (he : e ≤ e2 := by omega) : Bent n2 L2 c2 e2 d :=
  ⟨okN_mono hn hL d h.ok, Nat.le_trans h.cn hc, Nat.le_trans h.de he⟩
/-- a row of things -/
structure BentL (n L c e : Nat) (ds : List D) : Prop where
  ok : ∀ d ∈ ds, okN n L d = true
  cn : cntL ds ≤ c
  de : ∀ d ∈ ds, dep d ≤ e
theorem BentL.tup {n L c e : Nat} {ds : List D} (h : BentL n L c e ds) (hl : ds.length ≤ L) : Bent n L (c + 3) (e + 1) (.tup ds) :=
  ⟨okN_tup.mpr ⟨hl, h.ok⟩, by rw [cnt]; have := h.cn; omega, by rw [dep]; have := depL_le.mpr h.de; omega⟩
theorem BentL.lst {n L c e : Nat} {ds : List D} (h : BentL n L c e ds) (hl : ds.length ≤ L) : Bent n L (c + 3) (e + 1) (.lst ds) :=
  ⟨okN_lst.mpr ⟨hl, h.ok⟩, by rw [cnt]; have := h.cn; omega, by rw [dep]; have := depL_le.mpr h.de; omega⟩
theorem BentL.nil {n L c e : Nat} : BentL n L c e [] := ⟨fun _ h => (nomatch h), Nat.zero_le _, fun _ h => (nomatch h)⟩
theorem BentL.app {n L c1 c2 e : Nat} {a b : List D} (h1 : BentL n L c1 e a) (h2 : BentL n L c2 e b) : BentL n L (c1 + c2) e (a ++ b) :=
  ⟨fun d hd => (List.mem_append.mp hd).elim (h1.ok d) (h2.ok d), by rw [cntL_app]; have := h1.cn; have := h2.cn; omega, fun d hd => (List.mem_append.mp hd).elim (h1.de d) (h2.de d)⟩
theorem BentL.cons {n L c1 c2 e : Nat} {a : D} {b : List D} (h1 : Bent n L c1 e a) (h2 : BentL n L c2 e b) : BentL n L (c1 + 2 + c2) e (a :: b) :=
  ⟨fun d hd => (List.mem_cons.mp hd).elim (fun z => z ▸ h1.ok) (h2.ok d), by rw [cntL]; have := h1.cn; have := h2.cn; omega, fun d hd => (List.mem_cons.mp hd).elim (fun z => z ▸ h1.de) (h2.de d)⟩
theorem BentL.take {n L c e : Nat} {a : List D} (h : BentL n L c e a) (i : Nat) : BentL n L c e (a.take i) :=
  ⟨fun d hd => h.ok d (List.mem_of_mem_take hd), Nat.le_trans (cntL_take _ _) h.cn, fun d hd => h.de d (List.mem_of_mem_take hd)⟩
theorem BentL.drop {n L c e : Nat} {a : List D} (h : BentL n L c e a) (i : Nat) : BentL n L c e (a.drop i) :=
  ⟨fun d hd => h.ok d (List.mem_of_mem_drop hd), Nat.le_trans (cntL_drop _ _) h.cn, fun d hd => h.de d (List.mem_of_mem_drop hd)⟩
theorem BentL.mono {n L c e n2 L2 c2 e2 : Nat} {ds : List D} (h : BentL n L c e ds) (hn : n ≤ n2 := by omega) (hL : L ≤ L2 := by omega) (hc : c ≤ c2 := by omega) (he : e ≤ e2 := by omega) : BentL n2 L2 c2 e2 ds :=
  ⟨fun d hd => okN_mono hn hL d (h.ok d hd), Nat.le_trans h.cn hc, fun d hd => Nat.le_trans (h.de d hd) he⟩
/-- one put in another's place -/
theorem BentL.put {n L c e c1 : Nat} {a : List D} {d : D} (h : BentL n L c e a) (i : Nat) (hi : i < a.length) (h1 : Bent n L (cnt a[i] + c1) e d) : BentL n L (c + c1) e (a.take i ++ d :: a.drop (i + 1)) := by
  refine ⟨fun x hx => ?_, ?_, fun x hx => ?_⟩
  · rcases List.mem_append.mp hx with hx | hx
    · exact h.ok x (List.mem_of_mem_take hx)
    · rcases List.mem_cons.mp hx with rfl | hx
      · exact h1.ok
      · exact h.ok x (List.mem_of_mem_drop hx)
  · rw [cntL_app, cntL]
    have := cntL_cut a i hi
    have := h.cn
    have := h1.cn
    omega
  · rcases List.mem_append.mp hx with hx | hx
    · exact h.de x (List.mem_of_mem_take hx)
    · rcases List.mem_cons.mp hx with rfl | hx
      · exact h1.de
      · exact h.de x (List.mem_of_mem_drop hx)
theorem Bent.row {n L c e : Nat} {ds : List D} (h : Bent n L c e (.tup ds)) : BentL n L (c - 3) (e - 1) ds ∧ ds.length ≤ L ∧ 3 ≤ c ∧ 1 ≤ e := by
  obtain ⟨h1, h2, h3⟩ := h
  obtain ⟨l, o⟩ := okN_tup.mp h1
  rw [cnt] at h2
  rw [dep] at h3
  exact ⟨⟨o, by omega, fun d hd => by have := depL_mem hd; omega⟩, l, by omega, by omega⟩
theorem BentL.mem {n L c e : Nat} {ds : List D} (h : BentL n L c e ds) {d : D} (hd : d ∈ ds) : Bent n L c e d := by
  refine ⟨h.ok d hd, ?_, h.de d hd⟩
  obtain ⟨i, hi, rfl⟩ := List.mem_iff_getElem.mp hd
  have := cntL_cut ds i hi
  have := h.cn
  omega
/-- the ends behind i turns, in any order, each with a way -/
structure EndsN (K : List Int) (N : Int → List Int) (laid : List Int) (i : Nat) (F : List (Int × List Int)) : Prop where
  nd : (F.map (·.1)).Nodup
  mem : ∀ b, b ∈ F.map (·.1) ↔ ∃ a ∈ K, WkB N laid i a b
  way : ∀ p ∈ F, p.2.length = i + 1 ∧ ∀ x ∈ p.2, x ∈ K
theorem wkb_sub {K : List Int} {N : Int → List Int} {laid : List Int} (hN : ∀ a ∈ K, ∀ b ∈ N a, b ∈ K) : ∀ (i : Nat) {a b : Int}, a ∈ K → WkB N laid i a b → b ∈ K
  | 0, a, b, ha, h => by rw [← show a = b from h]; exact ha
  | i + 1, a, b, ha, ⟨c, h1, h2, _⟩ => hN c (wkb_sub hN i ha h1) b h2
theorem EndsN.sub {K : List Int} {N : Int → List Int} {laid : List Int} {i : Nat} {F : List (Int × List Int)} (h : EndsN K N laid i F) (hN : ∀ a ∈ K, ∀ b ∈ N a, b ∈ K) : ∀ b ∈ F.map (·.1), b ∈ K := fun b hb => by
  obtain ⟨a, ha, hw⟩ := (h.mem b).mp hb
  exact wkb_sub hN i ha hw
/-- the next ends, so far: of the first j ends, and of the next one's first q lines -/
structure SoF (K : List Int) (N : Int → List Int) (laid : List Int) (i : Nat) (E R : List Int) (at' : Int) (G : List (Int × List Int)) : Prop where
  nd : (G.map (·.1)).Nodup
  mem : ∀ t, t ∈ G.map (·.1) ↔ (∃ a ∈ E, t ∈ N a ∧ t ∉ laid) ∨ (t ∈ R ∧ t ∉ laid)
  way : ∀ p ∈ G, p.2.length = i + 2 ∧ ∀ x ∈ p.2, x ∈ K
theorem SoF.put {K : List Int} {N : Int → List Int} {laid : List Int} {i : Nat} {E R : List Int} {a t : Int} {G : List (Int × List Int)} {w : List Int} (h : SoF K N laid i E R a G) (c : t ∉ laid) (c2 : t ∉ G.map (·.1)) (hw : w.length = i + 2 ∧ ∀ x ∈ w, x ∈ K) : SoF K N laid i E (R ++ [t]) a (G ++ [(t, w)]) :=
  ⟨by rw [List.map_append, List.nodup_append]; exact ⟨h.nd, by simp, fun x hx y hy => by rw [show y = t by simpa using hy]; exact fun z => c2 (by rw [← z]; exact hx)⟩, fun u => by
    rw [List.map_append, List.mem_append, h.mem u, List.mem_append, List.mem_singleton]
    have e : u ∈ [(t, w)].map (·.1) ↔ u = t := by simp
    rw [e]
    constructor
    · rintro ((z | ⟨z, y⟩) | rfl)
      · exact .inl z
      · exact .inr ⟨.inl z, y⟩
      · exact .inr ⟨.inr rfl, c⟩
    · rintro (z | ⟨z | rfl, y⟩)
      · exact .inl (.inl z)
      · exact .inl (.inr ⟨z, y⟩)
      · exact .inr rfl, fun p hp => by
    rcases List.mem_append.mp hp with hp | hp
    · exact h.way p hp
    · rw [List.mem_singleton.mp hp]; exact hw⟩
theorem SoF.next {K : List Int} {N : Int → List Int} {laid : List Int} {i : Nat} {E : List Int} {a b : Int} {G : List (Int × List Int)} (h : SoF K N laid i E (N a) a G) : SoF K N laid i (E ++ [a]) [] b G :=
  ⟨h.nd, (by
    intro t
    rw [h.mem t]
    constructor
    · rintro (⟨x, hx, z⟩ | z)
      · exact .inl ⟨x, List.mem_append_left _ hx, z⟩
      · exact .inl ⟨a, by simp, z⟩
    · rintro (⟨x, hx, z⟩ | ⟨z, _⟩)
      · rcases List.mem_append.mp hx with hx | hx
        · exact .inl ⟨x, hx, z⟩
        · rw [List.mem_singleton.mp hx] at z; exact .inr z
      · cases z), h.way⟩
theorem SoF.len {K : List Int} {N : Int → List Int} {laid : List Int} {i : Nat} {E R : List Int} {a : Int} {G : List (Int × List Int)} (h : SoF K N laid i E R a G) (hE : ∀ a ∈ E, ∀ b ∈ N a, b ∈ K) (hR : ∀ b ∈ R, b ∈ K) : G.length ≤ K.length := by
  have := sub_len2 (a := G.map (·.1)) (b := K) h.nd fun t ht => by
    rcases (h.mem t).mp ht with ⟨a, ha, h1, _⟩ | ⟨h1, _⟩
    · exact hE a ha t h1
    · exact hR t h1
  rwa [List.length_map] at this
theorem EndsN.next {K : List Int} {N : Int → List Int} {laid : List Int} {i : Nat} {F G : List (Int × List Int)} {a : Int} (h : EndsN K N laid i F) (g : SoF K N laid i (F.map (·.1)) [] a G) : EndsN K N laid (i + 1) G := by
  refine ⟨g.nd, fun b => ?_, g.way⟩
  rw [g.mem b]
  constructor
  · rintro (⟨c, hc, h1, h2⟩ | ⟨z, _⟩)
    · obtain ⟨a, ha, hw⟩ := (h.mem c).mp hc
      exact ⟨a, ha, c, hw, h1, h2⟩
    · cases z
  · rintro ⟨a, ha, c, hw, h1, h2⟩
    exact .inl ⟨c, (h.mem c).mpr ⟨a, ha, hw⟩, h1, h2⟩
end VL
set_option maxHeartbeats 4000000
namespace VL
open PySem PySem.Spec L2
open PyProof.Rows hiding St
/-- as mSeq, but vx stops ahead of it -/
def mHold (t u : VS) : VS := mSeq t u
theorem mHold_e {t u : VS} {E : VEnds} {ρ : Sl} {S : Store} : mHold t u E ρ S = mSeq t u E ρ S := rfl
section
variable {X : Cx}
theorem s_hold {st : Stmt} {rest : List Stmt} {t u : VS} (h1 : PS X st (LS X.K t)) (h2 : PSs X rest (LS X.K u)) : PSs X (st :: rest) (LS X.K (mHold t u)) := s_cons h1 h2
end
end VL
set_option maxHeartbeats 4000000
namespace VL
open PySem PySem.Spec L2
open PyProof.Rows hiding St
end VL
set_option maxHeartbeats 4000000
namespace VL
open PySem PySem.Spec L2
open PyProof.Rows hiding St
end VL
set_option maxHeartbeats 4000000
namespace VL
open PySem PySem.Spec L2
open PyProof.Rows hiding St
end VL
set_option maxHeartbeats 4000000
namespace VL
open PySem PySem.Spec L2
open PyProof.Rows hiding St
end VL
set_option maxHeartbeats 4000000
namespace VL
open PySem PySem.Spec L2
open PyProof.Rows hiding St
theorem mFor_draw {c : CT} {mi : VW} {mb : VS} {E : VEnds} {ρ : Sl} {S : Store} (h : mi ρ S fun ds kp S1 => mFor c (fun _ _ Qi => Qi ds kp S1) mb E ρ S) : mFor c mi mb E ρ S := h
end VL
set_option maxHeartbeats 2000000
namespace VL
open PySem PySem.Spec L2
open PyProof.Rows hiding St
def clsA (mg : Str → Option Value) (c : Str) : Addr := match mg c with
  | some (.ref C) => C
  | _ => 0
theorem clsA_eq {mg : Str → Option Value} {c : Str} {C : Addr} (h : mg c = some (.ref C)) : clsA mg c = C := by unfold clsA; rw [h]
/-- a class of the top, with the names of its fields -/
structure ClsT (K : PySem.W.Frag) (mg : Str → Option Value) (c : Str) (fs : List Str) : Prop where
  ex : ∃ C, mg c = some (.ref C) ∧ Cls K C ∧ ∀ f ∈ fs, NoAttr K C f
/-- a method of it -/
structure HasM (K : PySem.W.Frag) (mg : Str → Option Value) (c m qual : Str) (st : Stmt) : Prop where
  ex : ∃ C f fd, mg c = some (.ref C) ∧ Cls K C ∧ Meth K C m f ∧ Fun K m qual st f fd
/-- its __init__ -/
structure HasI (K : PySem.W.Frag) (mg : Str → Option Value) (c qual : Str) (st : Stmt) : Prop where
  ex : ∃ C f fd, mg c = some (.ref C) ∧ Mk K C f ∧ Fun K "__init__" qual st f fd
def fldD : List (Str × D) → Str → Option D
  | [], _ => none
  | (g, d) :: fs, f => if g = f then some d else fldD fs f
def putFD (f : Str) (d : D) : List (Str × D) → List (Str × D)
  | [] => [(f, d)]
  | (g, x) :: fs => if g = f then (g, d) :: fs else (g, x) :: putFD f d fs
section
variable {K : PySem.W.Frag} {G : Hp}
theorem RpF.lookup : ∀ {vs : List (Str × V)} {ds : List (Str × D)} {f : Str} {d : D}, RpF K G vs ds → fldD ds f = some d → ∃ v, vs.lookup f = some v ∧ Rp K G v d
  | _, _, _, _, .nil, h => by cases h
  | _, _, f, d, .cons (k := k) h t, e => by
    unfold fldD at e
    by_cases hk : k = f
    · rw [if_pos hk] at e; cases e
      exact ⟨_, by rw [List.lookup_cons, show (f == k) = true by rw [hk]; exact beq_self_eq_true f], h⟩
    · rw [if_neg hk] at e
      obtain ⟨v, h1, h2⟩ := RpF.lookup t e
      exact ⟨v, by rw [List.lookup_cons, show (f == k) = false by rw [beq_eq_false_iff_ne]; exact fun z => hk z.symm]; exact h1, h2⟩
theorem RpF.lookupN : ∀ {vs : List (Str × V)} {ds : List (Str × D)} {f : Str}, RpF K G vs ds → fldD ds f = none → vs.lookup f = none
  | _, _, _, .nil, h => rfl
  | _, _, f, .cons (k := k) h t, e => by
    unfold fldD at e
    by_cases hk : k = f
    · rw [if_pos hk] at e; cases e
    · rw [if_neg hk] at e
      rw [List.lookup_cons, show (f == k) = false by rw [beq_eq_false_iff_ne]; exact fun z => hk z.symm]
      exact RpF.lookupN t e
theorem RpF.put {v : V} {d : D} {f : Str} (r : Rp K G v d) : ∀ {vs : List (Str × V)} {ds : List (Str × D)}, RpF K G vs ds → RpF K G (putF f v vs) (putFD f d ds)
  | _, _, .nil => .cons r .nil
  | _, _, .cons (k := k) h t => by
    unfold putF putFD
    by_cases hk : k = f
    · rw [if_pos hk, if_pos hk]; exact .cons r t
    · rw [if_neg hk, if_neg hk]; exact .cons h (RpF.put r t)
theorem RpF.length : ∀ {vs : List (Str × V)} {ds : List (Str × D)}, RpF K G vs ds → vs.length = ds.length
  | _, _, .nil => rfl
  | _, _, .cons _ t => by simp [t.length]
end
section
variable {X : Cx} {e : Expr} {m : VE} {pos : Pos}
def mFld (C : Addr) (f : Str) (m : VE) : VE := fun ρ S Q => m ρ S fun d S1 => match d with
  | .ref a => (match S1 a with
    | some (.ins C' fs) => C' = C ∧ (match fldD fs f with
      | some d => Q d S1
      | none => False)
    | _ => False)
  | _ => False
theorem mFld_e {C : Addr} {f : Str} {m : VE} {ρ : Sl} {S : Store} {Q : D → Store → Prop} : mFld C f m ρ S Q = m ρ S fun d S1 => match d with
  | .ref a => (match S1 a with
    | some (.ins C' fs) => C' = C ∧ (match fldD fs f with
      | some d => Q d S1
      | none => False)
    | _ => False)
  | _ => False := rfl
theorem v_fld {mg : Str → Option Value} {c f : Str} {fs : List Str} (T : ClsT X.K mg c fs) (hf : f ∈ fs) (he : PE X e (LE X.K m)) (hmg : X.mg = mg := by rfl) (hb : attributeBase e f X.env (eval e X.env) = eval e X.env := by rfl) : PE X (.Attribute e f pos) (LE X.K (mFld (clsA mg c) f m)) := by
  subst hmg
  obtain ⟨C, hm, hc, hn⟩ := T.ex
  refine PE.imp (pe_fld he hb) fun σ H Q' ⟨ρ, S, G, Q, vw, re, hq, k⟩ => ?_
  refine ⟨ρ, S, G, _, vw, re, hq, fun d S1 v1 H1 G1 a1 r1 h1 => ?_⟩
  split at h1
  · rename_i a
    split at h1
    · rename_i C' fs' e1
      obtain ⟨e2, h2⟩ := h1
      rw [clsA_eq hm] at e2
      subst e2
      split at h2
      · rename_i d' e3
        cases r1
        obtain ⟨_, u, hu, ku⟩ := a1.vw.st _ _ e1
        cases ku with
        | ins r =>
          obtain ⟨v, l, rv⟩ := r.lookup e3
          exact ⟨a, _, _, _, v, rfl, hu, hc, hn f hf, l, k _ _ _ _ _ a1 rv h2⟩
      · exact h2.elim
    · exact h1.elim
  · exact h1.elim
/-- e.f = value -/
def mFldS (C : Addr) (f : Str) (mo mv : VE) : VS := fun E ρ S => mv ρ S fun d S1 => mo ρ S1 fun o S2 => match o with
  | .ref a => (match S2 a with
    | some (.ins C' fs) => C' = C ∧ fs.length < 1000 ∧ E.nx ρ (supd S2 a (.ins C' (putFD f d fs)))
    | _ => False)
  | _ => False
theorem mFldS_e {C : Addr} {f : Str} {mo mv : VE} {E : VEnds} {ρ : Sl} {S : Store} : mFldS C f mo mv E ρ S = mv ρ S fun d S1 => mo ρ S1 fun o S2 => match o with
  | .ref a => (match S2 a with
    | some (.ins C' fs) => C' = C ∧ fs.length < 1000 ∧ E.nx ρ (supd S2 a (.ins C' (putFD f d fs)))
    | _ => False)
  | _ => False := rfl
theorem s_fld {mg : Str → Option Value} {c f : Str} {fs : List Str} {o v : Expr} {mo mv : VE} {pos' : Pos} (T : ClsT X.K mg c fs) (hf : f ∈ fs) (ho : PE X o (LE X.K mo)) (hv : PE X v (LE X.K mv)) (hmg : X.mg = mg := by rfl) (hs : swapsWith v (some (.Attribute o f pos')) pos.line X.env = pure false := by rfl) :
    PS X (.Assign [.Attribute o f pos'] v pos) (LS X.K (mFldS (clsA mg c) f mo mv)) := by
  subst hmg
  obtain ⟨C, hm, hc, hn⟩ := T.ex
  refine PS.imp (ps_fld ho hv hs) fun D' σ H ⟨ρ, S, G, E, vw, re, hq, ok⟩ => ?_
  refine ⟨ρ, S, G, _, vw, re, hq, fun d S1 y H1 G1 a1 r1 h1 => ⟨ρ, S1, G1, _, a1.vw, re.mono a1.gg, h1, fun o S2 x H2 G2 a2 r2 h2 => ?_⟩⟩
  split at h2
  · rename_i a
    split at h2
    · rename_i C' fs' e1
      obtain ⟨e2, hl, h3⟩ := h2
      rw [clsA_eq hm] at e2
      subst e2
      cases r2
      obtain ⟨_, u, hu, ku⟩ := a2.vw.st _ _ e1
      cases ku with
      | @ins _ dx vs _ r =>
        have a3 := a2.vw.wrote (o' := .ins C' (putFD f d fs')) (u := .ins C' dx (putF f y vs)) e1 (.ins (r.put (r1.mono a2.gg)))
        exact ⟨a, C', dx, vs, rfl, hu, hc, hn f hf, by rw [r.length]; exact hl, ok.nx ρ _ σ _ _ (a1.trans (a2.trans a3)) (re.mono (a1.trans (a2.trans a3)).gg) h3⟩
    · exact h2.elim
  · exact h2.elim
end
structure DefM (P : Program) (w : World) (K : PySem.W.Frag) (mg : Str → Option Value) (base : Heap) (k : Nat) (c m : Str) (ps : List Str) (sp : VSp) : Prop where
  ex : ∃ (C f : Addr) (fd : FuncData), mg c = some (.ref C) ∧ Cls K C ∧ Meth K C m f ∧ Binds K fd ps [] ∧ FnG P w K mg base CX0 k f fd ps (LSp K ps.length sp)
  run : ∀ (st : Stmt) (qual : Str) (C f : Addr) (fd : FuncData), mg c = some (.ref C) → Meth K C m f → Fun K m qual st f fd → FnG P w K mg base CX0 k f fd ps (LSp K ps.length sp)
structure DefI (P : Program) (w : World) (K : PySem.W.Frag) (mg : Str → Option Value) (base : Heap) (k : Nat) (c : Str) (ps : List Str) (sp : VSp) : Prop where
  ex : ∃ (C f : Addr) (fd : FuncData), mg c = some (.ref C) ∧ Mk K C f ∧ Binds K fd ps [] ∧ FnG P w K mg base CX0 k f fd ps (LSp K ps.length sp)
/-- a def's body, by its place in a class -/
theorem fng_mk {P : Program} {w : World} {K : PySem.W.Frag} {mg : Str → Option Value} {base : Heap} {k : Nat} {x qual : Str} {N ps : List Str} {st : Stmt} {sp : VSp} {f : Addr} {fd : FuncData} (F : Fun K x qual st f fd) (Sc : FnScope N ps (defScope st))
    (hbody : ∀ (f : Addr) (cdv : Value) (A : Around) (outer : List Env) (s : Shared) (H : Hp) (E : XK), A.guards = some [] → Room k (A.deeper (envOfC qual (defScope st) s.heap.objs.size f cdv)) → PySem.W.codeIn K cdv qual = true →
      ∃ m, PSs (XC P w K mg base N qual (defScope st) f cdv A outer s H E) (defBody st) (LS K m) ∧ ∀ ds S Q, ds.length = ps.length → sp ds S Q → m { nx := fun _ S' => Fin Q .non S', rt := Fin Q } (startD N ds) S) :
    FnG P w K mg base CX0 (k + 1) f fd ps (LSp K ps.length sp) := by
  obtain ⟨oc, od, kV, doc, pm, an, cdv, ct, osl, rfl, lk, hcd⟩ := F.ex
  refine g_of lk hcd Sc (fun vs H Q E h => h.1) fun A outer s H E hr hg => ?_
  obtain ⟨m, hs, hm'⟩ := hbody f cdv A outer s H E hg hr hcd
  refine ⟨_, PSs.nox hs, fun vs Q h => ?_⟩
  obtain ⟨hl, ds, S, G, Qv, vw, r, q, k'⟩ := h
  refine ⟨startD N ds, S, G, _, vw, REnv.start r, hm' ds S Qv (by rw [← r.length]; exact hl) q, ⟨?_, ?_, ?_, ?_⟩⟩
  · rintro ρ S' σ H' G' a re ⟨d1, S1, st, q1⟩
    obtain ⟨G1, a1, r1⟩ := st.okN a.vw
    exact k' d1 S1 _ H' G1 (a.trans a1) r1 q1
  · rintro d S' v H' G' a rv ⟨d1, S1, st, q1⟩
    rcases st.ok a.vw rv with ⟨G1, a1, r1⟩ | ⟨b, u, ev, hu, mu, k2⟩
    · exact .inl (k' d1 S1 _ H' G1 (a.trans a1) r1 q1)
    · exact .inr ⟨b, u, ev, hu, mu, fun od => let ⟨G1, a1, r1⟩ := k2 od; k' d1 S1 _ _ G1 (a.trans a1) r1 q1⟩
  · intro ρ S' σ H' G' a re q; exact q.elim
  · intro ρ S' σ H' G' a re q; exact q.elim
theorem Fun.uniq {K : PySem.W.Frag} {x q1 q2 : Str} {st1 st2 : Stmt} {f : Addr} {fd1 fd2 : FuncData} (F1 : Fun K x q1 st1 f fd1) (F2 : Fun K x q2 st2 f fd2) : fd2 = fd1 := by
  obtain ⟨_, _, _, _, _, _, _, _, _, _, lk1, _⟩ := F1.ex
  obtain ⟨_, _, _, _, _, _, _, _, _, _, lk2, _⟩ := F2.ex
  rw [lk1] at lk2
  injection lk2 with e
  injection e with _ _ e _
  injection e with e
  exact e.symm
theorem Meth.uniq {K : PySem.W.Frag} {C f g : Addr} {m : Str} (a : Meth K C m f) (b : Meth K C m g) : g = f := by
  have h := a.at_.symm.trans b.at_
  injection h with h
  injection h with h
  injection h with h
  exact h.symm
theorem DefM.mk' {P : Program} {w : World} {K : PySem.W.Frag} {mg : Str → Option Value} {base : Heap} {k : Nat} {c x qual : Str} {N ps : List Str} {st : Stmt} {sp : VSp} (h : HasM K mg c x qual st) (Sc : FnScope N ps (defScope st))
    (hb : ∀ (kV doc pm : Value) (an : Option Addr) (cdv ct : Value) (us : List Value), us.length = ps.length → bindArgs (PySem.W.fnOf x qual (defArgs st) (defBody st) (defScope st) .none kV doc pm an cdv ct) ⟨us, []⟩ = pure (ps.zip us))
    (hbody : ∀ (f : Addr) (cdv : Value) (A : Around) (outer : List Env) (s : Shared) (H : Hp) (E : XK), A.guards = some [] → Room k (A.deeper (envOfC qual (defScope st) s.heap.objs.size f cdv)) → PySem.W.codeIn K cdv qual = true →
      ∃ m, PSs (XC P w K mg base N qual (defScope st) f cdv A outer s H E) (defBody st) (LS K m) ∧ ∀ ds S Q, ds.length = ps.length → sp ds S Q → m { nx := fun _ S' => Fin Q .non S', rt := Fin Q } (startD N ds) S) : DefM P w K mg base (k + 1) c x ps sp := by
  obtain ⟨C, f, fd, hm, hc, me, F⟩ := h.ex
  have main := fng_mk F Sc hbody
  refine ⟨⟨C, f, fd, hm, hc, me, F.binds hb, main⟩, fun st2 q2 C2 f2 fd2 hm2 me2 F2 => ?_⟩
  have eC : C2 = C := by rw [hm] at hm2; injection hm2 with e; injection e with e; exact e.symm
  subst eC
  obtain rfl := Meth.uniq me me2
  rw [Fun.uniq F F2]
  exact main
theorem DefI.mk' {P : Program} {w : World} {K : PySem.W.Frag} {mg : Str → Option Value} {base : Heap} {k : Nat} {c qual : Str} {N ps : List Str} {st : Stmt} {sp : VSp} (h : HasI K mg c qual st) (Sc : FnScope N ps (defScope st))
    (hb : ∀ (kV doc pm : Value) (an : Option Addr) (cdv ct : Value) (us : List Value), us.length = ps.length → bindArgs (PySem.W.fnOf "__init__" qual (defArgs st) (defBody st) (defScope st) .none kV doc pm an cdv ct) ⟨us, []⟩ = pure (ps.zip us))
    (hbody : ∀ (f : Addr) (cdv : Value) (A : Around) (outer : List Env) (s : Shared) (H : Hp) (E : XK), A.guards = some [] → Room k (A.deeper (envOfC qual (defScope st) s.heap.objs.size f cdv)) → PySem.W.codeIn K cdv qual = true →
      ∃ m, PSs (XC P w K mg base N qual (defScope st) f cdv A outer s H E) (defBody st) (LS K m) ∧ ∀ ds S Q, ds.length = ps.length → sp ds S Q → m { nx := fun _ S' => Fin Q .non S', rt := Fin Q } (startD N ds) S) : DefI P w K mg base (k + 1) c ps sp := by
  obtain ⟨C, f, fd, hm, mk, F⟩ := h.ex
  exact ⟨C, f, fd, hm, mk, F.binds hb, fng_mk F Sc hbody⟩
section
variable {X : Cx} {c x : Str} {k : Nat} {ps : List Str} {sp : VSp} {o e : Expr} {es : List Expr} {mo : VE} {ms : VA} {p pos apos : Pos}
def mMeth (C : Addr) (m : Str) (n : Nat) (sp : VSp) (mo : VE) (ms : VA) : VE := fun ρ S Q => mo ρ S fun o S1 => match o with
  | .ref a => (match S1 a with
    | some (.ins C' fs) => C' = C ∧ fldD fs m = none ∧ ms ρ S1 fun ds S2 => ds.length + 1 = n ∧ sp (.ref a :: ds) S2 Q
    | _ => False)
  | _ => False
theorem mMeth_e {C : Addr} {m : Str} {n : Nat} {ρ : Sl} {S : Store} {Q : D → Store → Prop} : mMeth C m n sp mo ms ρ S Q = mo ρ S fun o S1 => match o with
  | .ref a => (match S1 a with
    | some (.ins C' fs) => C' = C ∧ fldD fs m = none ∧ ms ρ S1 fun ds S2 => ds.length + 1 = n ∧ sp (.ref a :: ds) S2 Q
    | _ => False)
  | _ => False := rfl
theorem v_meth {mg : Str → Option Value} {m : Str} {pl : Sem Bool} (F : DefM X.prog X.w X.K mg X.base k c m ps sp) (hr : Room k X.A) (hgd : X.A.guards = some []) (ho : PE X o (LE X.K mo)) (ha : PA X (e :: es) (LA X.K ms)) (hmg : X.mg = mg := by rfl)
    (hst : starEach (e :: es) X.env = (false, eval e X.env) :: starEach es X.env := by rfl) (hpl : (backTo pos (starEach es X.env)).any (·.1) = false := by rfl)
    (ht : eval (.Call (.Attribute o m apos) (e :: es) [] pos) X.env = (do
      let ov ← eval o X.env
      standAt apos.atName
      let (f, first) ← holding [ov] (getMethod ov m pl)
      callWith pos f first (backTo pos (starEach (e :: es) X.env)) (backToKw pos (keywordEach [] X.env))) := by rfl) :
    PE X (.Call (.Attribute o m apos) (e :: es) [] pos) (LE X.K (mMeth (clsA mg c) m ps.length sp mo ms)) := by
  subst hmg
  obtain ⟨C, f, fd, hm, hc, me, hb, G0⟩ := F.ex
  have main : PE X (.Call (.Attribute o m apos) (e :: es) [] pos) (tMeth C m (LSp X.K ps.length sp) [] E0 (LE X.K mo) (LA X.K ms)) := by
    refine ⟨fun pins s σ H Q I h => ?_⟩
    refine PySem.W.methodCall_KW (pl := pl) (thn (ho.run pins s σ H _ I h) fun u s1 ⟨x, H1, I1, rx, a, dx, fs, ex, ea, l, q⟩ => ?_) ht
    subst ex
    obtain rfl : u = Value.ref a := rx
    refine getmeth_ok I1 ea hc me l ?_
    refine PySem.W.callWith_K (first := [.ref a]) (h₀ := X.base) I.ok.mod.kin me.kp (thn (ha.run pos pins s1 σ H1 _ I1 q) fun us s2 ⟨vs, H2, I2, r, q2⟩ => ⟨I2.kIn, ?_⟩) hst hpl
    exact go_fn (us := .ref a :: us) (vs := .ref a :: vs) G0 hr hgd hb .nil pass0 I2 (.cons rfl r) q2
  refine PE.imp main fun σ H Q' ⟨ρ, S, G, Q, vw, re, hq, kk⟩ => ?_
  refine ⟨ρ, S, G, _, vw, re, hq, fun d S1 v1 H1 G1 a1 r1 h1 => ?_⟩
  split at h1
  · rename_i a
    split at h1
    · rename_i C' fs' e1
      obtain ⟨e2, h2, h3⟩ := h1
      rw [clsA_eq hm] at e2
      subst e2
      cases r1
      obtain ⟨_, u, hu, ku⟩ := a1.vw.st _ _ e1
      cases ku with
      | @ins _ dx vs _ r =>
        refine ⟨a, dx, vs, rfl, hu, r.lookupN h2, ρ, S1, G1, _, a1.vw, re.mono a1.gg, h3, fun ds S2 us H2 G2 a2 r2 h4 => ?_⟩
        show LSp _ _ _ (V.ref a :: (us ++ [])) _ _ _
        rw [List.append_nil]
        exact ⟨by rw [List.length_cons, r2.length]; exact h4.1, _, S2, G2, Q, a2.vw, .cons (.ref a) r2, h4.2, fun d S' v H' G' a3 r3 q => kk d S' v H' G' (a1.trans (a2.trans a3)) r3 q⟩
    · exact h1.elim
  · exact h1.elim
theorem v_meth0 {mg : Str → Option Value} {m : Str} {pl : Sem Bool} (F : DefM X.prog X.w X.K mg X.base k c m ps sp) (hr : Room k X.A) (hgd : X.A.guards = some []) (ho : PE X o (LE X.K mo)) (hmg : X.mg = mg := by rfl)
    (ht : eval (.Call (.Attribute o m apos) [] [] pos) X.env = (do
      let ov ← eval o X.env
      standAt apos.atName
      let (f, first) ← holding [ov] (getMethod ov m pl)
      callWith pos f first (backTo pos (starEach [] X.env)) (backToKw pos (keywordEach [] X.env))) := by rfl) :
    PE X (.Call (.Attribute o m apos) [] [] pos) (LE X.K (mMeth (clsA mg c) m ps.length sp mo mNil)) := by
  subst hmg
  obtain ⟨C, f, fd, hm, hc, me, hb, G0⟩ := F.ex
  have main : PE X (.Call (.Attribute o m apos) [] [] pos) (tMeth C m (LSp X.K ps.length sp) [] E0 (LE X.K mo) tNil) := by
    refine ⟨fun pins s σ H Q I h => ?_⟩
    refine PySem.W.methodCall_KW (pl := pl) (thn (ho.run pins s σ H _ I h) fun u s1 ⟨x, H1, I1, rx, a, dx, fs, ex, ea, l, q⟩ => ?_) ht
    subst ex
    obtain rfl : u = Value.ref a := rx
    refine getmeth_ok I1 ea hc me l ?_
    exact PySem.W.callWith_K0 (first := [.ref a]) I1.kIn me.kp (go_fn (us := [.ref a]) (vs := [.ref a]) G0 hr hgd hb .nil pass0 I1 (.cons rfl .nil) q)
  refine PE.imp main fun σ H Q' ⟨ρ, S, G, Q, vw, re, hq, kk⟩ => ?_
  refine ⟨ρ, S, G, _, vw, re, hq, fun d S1 v1 H1 G1 a1 r1 h1 => ?_⟩
  split at h1
  · rename_i a
    split at h1
    · rename_i C' fs' e1
      obtain ⟨e2, h2, h3⟩ := h1
      rw [clsA_eq hm] at e2
      subst e2
      cases r1
      obtain ⟨_, u, hu, ku⟩ := a1.vw.st _ _ e1
      cases ku with
      | @ins _ dx vs _ r =>
        refine ⟨a, dx, vs, rfl, hu, r.lookupN h2, ?_⟩
        exact ⟨h3.1, _, S1, G1, Q, a1.vw, .cons (.ref a) .nil, h3.2, fun d S' v H' G' a3 r3 q => kk d S' v H' G' (a1.trans a3) r3 q⟩
    · exact h1.elim
  · exact h1.elim
def mMake (C : Addr) (n : Nat) (sp : VSp) (ms : VA) : VE := fun ρ S Q => ms ρ S fun ds S1 => ds.length + 1 = n ∧ ∀ a, S1 a = none → sp (.ref a :: ds) (supd S1 a (.ins C [])) fun d S2 => d = .non ∧ Q (.ref a) S2
theorem mMake_e {C : Addr} {n : Nat} {ρ : Sl} {S : Store} {Q : D → Store → Prop} : mMake C n sp ms ρ S Q = ms ρ S fun ds S1 => ds.length + 1 = n ∧ ∀ a, S1 a = none → sp (.ref a :: ds) (supd S1 a (.ins C [])) fun d S2 => d = .non ∧ Q (.ref a) S2 := rfl
theorem go_make {C f : Addr} {fd : FuncData} {pins : List (Addr × Obj)} {σ : L2.St} {H : Hp} {s : Shared} {Q : VK} {us : List Value} {vs : List V} {spm : Sp} (M : Mk X.K C f) (F : FnG X.prog X.w X.K X.mg X.base CX0 k f fd ps spm) (hr : Room (k + 1) X.A) (hgd : X.A.guards = some []) (hb : Binds X.K fd ps [])
    (I : Inv X pins σ H s) (r : Vals vs us)
    (h : ∀ x dx, H x = none → H dx = none → dx ≠ x → spm (.ref x :: vs) (upd (upd H dx (.own x)) x (.ins C dx [])) (fun v H2 => v = .non ∧ Q (.ref x) H2) E0) :
    wpAny (model X.prog X.w) X.A (call (.ref C) us) (EP X pins σ Q) X.xe s := by
  have hq := h (s.heap.objs.size + 1) s.heap.objs.size (I.hok.fresh (Nat.le_succ _)) (I.hok.fresh (Nat.le_refl _)) (Nat.ne_of_lt (Nat.lt_succ_self _))
  have I2 := Inv.made (C := C) I
  have r2 : Vals (V.ref (s.heap.objs.size + 1) :: vs) (Value.ref (s.heap.objs.size + 1) :: us) := .cons rfl r
  have hl : (Value.ref (s.heap.objs.size + 1) :: us ++ []).length = ps.length := by
    have e := r2.length
    rw [F.len _ _ _ _ hq] at e
    rw [List.append_nil]
    exact e.symm
  have hbb := hb _ (Value.ref (s.heap.objs.size + 1) :: us) I2.kIn hl
  rw [List.append_nil] at hbb
  refine wpAny_call (make_map (f := f) I.kIn M.makes M.init (beq_iff_eq.mp M.fn) (codeAny_mono (F.go _ X.stack _ _ ⟨Value.ref (s.heap.objs.size + 1) :: us, []⟩ (Value.ref (s.heap.objs.size + 1) :: us) _ _ E0 (hr.make C us []) hgd
    (I2.env0.make C us []) hbb r2 hq) fun r s' hq' => ?_))
  cases r with
  | error e => exact pass0 pins σ _ _ e s' I2 hq'
  | ok fl =>
    cases fl with
    | ret u =>
      obtain ⟨v, H', I3, rv, ev, q3⟩ := I2.after hq'
      subst ev
      exact ⟨rv, ⟨V.ref (s.heap.objs.size + 1), H', I3, rfl, q3⟩⟩
    | next => exact False.elim hq'
    | brk => exact False.elim hq'
    | cont => exact False.elim hq'
theorem lsp_make {K : PySem.W.Frag} {C : Addr} {G : Hp} {S : Store} {H : Hp} {n : Nat} {ds : List D} {vs : List V} {Q : D → Store → Prop} {Q' : VK} (vw : View K G S H) (r : RpL K G vs ds) (hn : ds.length + 1 = n) (h : ∀ a, S a = none → sp (.ref a :: ds) (supd S a (.ins C [])) fun d S2 => d = .non ∧ Q (.ref a) S2)
    (kk : ∀ d S' v H' G', Aft K G S H S' H' G' → Rp K G' v d → Q d S' → Q' v H') :
    ∀ x dx, H x = none → H dx = none → dx ≠ x → LSp K n sp (.ref x :: vs) (upd (upd H dx (.own x)) x (.ins C dx [])) (fun v H2 => v = .non ∧ Q' (.ref x) H2) E0 := by
  intro x dx hx hdx ne
  have n0 := vw.none hdx
  have aj := (Aft.refl vw).junk (u := .own x) hdx n0.2 n0.1
  have hx2 : (upd H dx (.own x)) x = none := by rw [upd_ne ne.symm]; exact hx
  have a2 := aj.vw.stored (o := .ins C []) (u := .ins C dx []) hx2 (.ins .nil)
  have nx := vw.none hx
  refine ⟨by rw [List.length_cons, r.length]; exact hn, _, _, _, _, a2.vw, .cons (.ref x) (r.mono (aj.trans a2).gg), h x nx.2, fun d S' v H' G' a3 r3 ⟨e, q⟩ => ?_⟩
  subst e
  cases r3
  exact ⟨rfl, kk _ _ _ _ _ ((aj.trans a2).trans a3) (.ref x) q⟩
theorem v_make0 {mg : Str → Option Value} (F : DefI X.prog X.w X.K mg X.base k x ps sp) (hr : Room (k + 1) X.A) (hgd : X.A.guards = some []) (hg : Gl X x) (hmg : X.mg = mg := by rfl) (hdb : (x == ("__debug__" : Str)) = false := by decide) :
    PE X (.Call (.Name x p) [] [] pos) (LE X.K (mMake (clsA mg x) ps.length sp mNil)) := by
  subst hmg
  obtain ⟨C, f, fd, hm, mk, hb, G0⟩ := F.ex
  have main : PE X (.Call (.Name x p) [] [] pos) (tMake C (LSp X.K ps.length sp) [] E0 tNil) := by
    refine ⟨fun pins s σ H Q I h => ?_⟩
    refine wpAny_Call_Name_kw (ld_glob I hg hm ?_ hdb)
    exact PySem.W.callWith_K0 I.kIn mk.kp (go_make (us := []) mk G0 hr hgd hb I .nil h)
  refine PE.imp main fun σ H Q' ⟨ρ, S, G, Q, vw, re, hq, kk⟩ => ?_
  rw [clsA_eq hm] at hq
  exact lsp_make vw .nil hq.1 hq.2 fun d S' v H' G' a3 r3 q => kk d S' v H' G' a3 r3 q
end
end VL
set_option maxHeartbeats 2000000
namespace VL
open PySem PySem.Spec L2
open PyProof.Rows hiding St
section
variable {X : Cx}
def rMaxK (K : PySem.W.Frag) : List V → List V → Hp → VK → Prop := fun xs zs H Q => ∃ a kvs is d, xs = [.ref a] ∧ zs = [.int d] ∧ Rd H a (.dK kvs) ∧ kvs.map (·.1) = is.map (fun i => (Sum.inl i : Key)) ∧ Q (.int (maxI is d)) H
theorem cr_maxK (hc : X.calm = true) : CallRK X (.builtin "max") [Str.ofString "default"] (rMaxK X.K) := by
  intro pins s σ H xs zs us ws Q I rx rz h
  obtain ⟨a, kvs, is, d, rfl, rfl, ha, hv, q⟩ := h
  obtain ⟨u, rfl, r1⟩ := vals1 rx
  cases r1
  obtain ⟨z, rfl, r2⟩ := vals1 rz
  obtain ⟨t, rfl⟩ := r2
  obtain ⟨_, hsys, vs, rel, dof⟩ := dk_rd I.hok ha
  obtain ⟨ep, dat⟩ := dof.dictAt
  have ek : vs.map (·.1) = is.map fun i => (Sum.inl i : Key) := by rw [← rel.keys]; exact hv
  have len : vs.length = is.length := by
    have e1 := congrArg List.length ek
    rw [List.length_map, List.length_map] at e1
    exact e1
  have lt : a < s.heap.objs.size := dat.lt_size
  refine PySem.call_max_walkD (d := .int d t) (wpAny_pyIter_dict hsys dat ?_)
  refine ⟨_, _, _, _, _, _, _, s.heap, _, rfl, (Walks.dictKeys (knd := mixKind X.prog X.w) (A := X.A.in1) (I.ok.hd hc) s.heap.objs.size a (Nat.ne_of_lt lt) vs ep).toS,
    ⟨⟨_, Heap.get?_push_size _ rfl, rfl, rfl⟩, dat.push _⟩, fun b hb => ?_, fun b o e hb => ?_, fun b o e => Heap.get?_push_of_some _ e, fun hz s' m => ?_, fun hp => ⟨fun i j vi vj s3 Q3 E3 _ hi hj h3 => CmpOf.ints_gt (fun i => is.getD i 0) (fun i v h => keys_ints ek h) i j vi vj s3 Q3 E3 hi hj h3, fun v s' hP m => ?_⟩⟩
  · show b < (s.heap.push _).objs.size
    rw [Heap.size_push]
    rcases List.mem_cons.mp hb with e | hb
    · rw [e]; exact Nat.lt_succ_self _
    · rw [List.mem_singleton.mp hb]; exact Nat.lt_succ_of_lt lt
  · exact absurd (Heap.lt_size e) ((List.mem_singleton.mp hb) ▸ Nat.lt_irrefl _)
  · obtain ⟨h', tk, rfl, hk'⟩ := PySem.W.moved_old rfl rfl m
    have : is = [] := List.eq_nil_of_length_eq_zero (by omega)
    subst this
    exact ⟨.int d, H, I.kept (t' := tk) hk', ⟨t, rfl⟩, q⟩
  · obtain ⟨h', tk, rfl, hk'⟩ := PySem.W.moved_old rfl rfl m
    obtain ⟨t2, rfl⟩ := keys_ints ek hP
    cases is with
    | nil => rw [List.length_nil] at len; rw [len] at hp; exact absurd hp (Nat.lt_irrefl _)
    | cons n ns =>
      have := argBest_max (n :: ns) n ns rfl
      rw [len]
      rw [this]
      exact ⟨.int (ns.foldl max n), H, I.kept (t' := tk) hk', ⟨t2, rfl⟩, q⟩
def mMaxKD (m : VE) (dv : Int) : VE := fun ρ S Q => m ρ S fun d S1 => match rdD d S1 with
  | some kvs => ∃ is : List Int, kvs.map (·.1) = is.map (fun i => (Sum.inl i : Key)) ∧ Q (.int (maxI is dv)) S1
  | none => False
theorem mMaxKD_e {m : VE} {dv : Int} {ρ : Sl} {S : Store} {Q : D → Store → Prop} : mMaxKD m dv ρ S Q = m ρ S fun d S1 => match rdD d S1 with
  | some kvs => ∃ is : List Int, kvs.map (·.1) = is.map (fun i => (Sum.inl i : Key)) ∧ Q (.int (maxI is dv)) S1
  | none => False := rfl
theorem v_maxKD {e : Expr} {m : VE} {dv : Int} {j : Nat} {p pos kp kp2 : Pos} (hc : X.calm = true) (hg : Gl X "max") (hm : X.mg "max" = none) (he : PE X e (LE X.K m))
    (h1 : starEach [e] X.env = (false, eval e X.env) :: starEach [] X.env := by rfl) (h2 : backTo pos (starEach [e] X.env) = (false, eval e X.env) :: backTo pos (starEach [] X.env) := by rfl) (h3 : (backTo pos (starEach [e] X.env)).any (·.1) = false := by rfl) :
    PE X (.Call (.Name "max" p) [e] [⟨some "default", .Constant (.int dv) j kp, kp2⟩] pos) (LE X.K (mMaxKD m dv)) := by
  refine PE.imp (pe_callBK (cr_maxK hc) hg hm (by first | rfl | decide +kernel) (pa_cons he pa_nil h1) (pk_cons pe_int pk_nil) (by decide) (by decide) h2 h3) fun σ H Q' ⟨ρ, S, G, Q, vw, re, hm, k⟩ => ?_
  refine ⟨ρ, S, G, _, vw, re, hm, fun d S1 v H1 G1 a1 r1 h1 => ?_⟩
  split at h1
  · rename_i kvs e
    obtain ⟨is, ek, q⟩ := h1
    obtain ⟨a, ks, rfl, hr, rk⟩ := rdD_ok a1.vw r1 e
    exact ⟨a, ks, is, dv, rfl, rfl, hr, by rw [rpk_keys rk]; exact ek, k _ S1 _ _ _ a1 (.int _) q⟩
  · exact h1.elim
def mFrz (m : VE) : VE := fun ρ S Q => m ρ S fun d S1 => match d with
  | .ref a => match S1 a with
    | some (.lst ds) => ∀ S2, S2 a = none → (∀ b, b ≠ a → S2 b = S1 b) → Q (.lst ds) S2
    | _ => False
  | _ => False
theorem mFrz_e {m : VE} {ρ : Sl} {S : Store} {Q : D → Store → Prop} : mFrz m ρ S Q = m ρ S fun d S1 => match d with
  | .ref a => match S1 a with
    | some (.lst ds) => ∀ S2, S2 a = none → (∀ b, b ≠ a → S2 b = S1 b) → Q (.lst ds) S2
    | _ => False
  | _ => False := rfl
theorem v_frz {e : Expr} {m : VE} (h : PE X e (LE X.K m)) : PE X e (LE X.K (mFrz m)) := by
  refine PE.imp h fun σ H Q' ⟨ρ, S, G, Q, vw, re, hm, k⟩ => ?_
  refine ⟨ρ, S, G, _, vw, re, hm, fun d S1 v1 H1 G1 a1 r1 h1 => ?_⟩
  split at h1
  · rename_i a
    split at h1
    · rename_i ds e1
      cases r1
      obtain ⟨_, u, hu, ku⟩ := a1.vw.st _ _ e1
      cases ku with
      | lst l =>
        have h2 := h1 (sdel S1 a) (by unfold sdel; rw [if_pos rfl]) fun b hb => by unfold sdel; rw [if_neg hb]
        have a2 := a1.vw.freezes (S1 := sdel S1 a) e1 hu (by unfold sdel; rw [if_pos rfl]) fun b x hx => by
          unfold sdel at hx
          split at hx
          · cases hx
          · exact hx
        exact k _ _ _ _ _ (a1.trans a2) (.lst upd_same (l.mono a2.gg)) h2
    · exact h1.elim
  · exact h1.elim
def rsd (S : Store) (d : D) : D := match d with
  | .lst ds => .lst (ds.map (rsv S))
  | d => rsv S d
theorem dpl_rsv {K : PySem.W.Frag} {G H : Hp} {S : Store} (vw : View K G S H) : ∀ (ds : List D) {vs : List V}, PyData.canLayAll0 (pyL (ds.map (rsv S))) = true → RpL K G vs ds → DpAll K H vs (pyL (ds.map (rsv S)))
  | [], _, _, .nil => .nil
  | d :: ds, _, c, .cons h t => by
    simp only [List.map_cons, pyL, PyData.canLayAll0, Bool.and_eq_true] at c ⊢
    exact .cons (dp_rsv vw c.1 h) (dpl_rsv vw ds c.2 t)
theorem dp_rsd {K : PySem.W.Frag} {G H : Hp} {S : Store} {d : D} {v : V} (vw : View K G S H) (c : (py (rsd S d)).canLay0 = true) (r : Rp K G v d) : Dp K H v (py (rsd S d)) := by
  cases d with
  | lst ds =>
    cases r with
    | lst h l => exact .lst (SqL.of (vw.gh _ _ h)) (dpl_rsv vw ds (by simpa [rsd, py, PyData.canLay0] using c) l)
  | _ =>
    simp only [rsd] at c ⊢
    exact dp_rsv vw c r
def mNeR : R2V := fun x y S Q => SeqAt.shaped (py (rsd S x)) = true ∧ SeqAt.shaped (py (rsd S y)) = true ∧ Q (.bl (!PyData.eqv (py (rsd S x)) (py (rsd S y)))) S
theorem mNeR_e {x y : D} {S : Store} {Q : D → Store → Prop} : mNeR x y S Q = (SeqAt.shaped (py (rsd S x)) = true ∧ SeqAt.shaped (py (rsd S y)) = true ∧ Q (.bl (!PyData.eqv (py (rsd S x)) (py (rsd S y)))) S) := rfl
theorem ov_neR (hu : X.A.units + 64 < cLine) : OpV X (compareOp .NotEq) mNeR := by
  refine ⟨_, op_neD hu, ?_⟩
  intro x y v1 v2 G S H Q Q' vw r1 r2 h k
  exact ⟨_, _, dp_rsd vw (SeqAt.canLay_of_shaped h.1) r1, dp_rsd vw (SeqAt.canLay_of_shaped h.2.1) r2, h.1, h.2.1, k _ S _ H G (Aft.refl vw) (.bl _) h.2.2⟩
variable {c m qual : Str} {k : Nat} {ps ks : List Str} {sp : VSp} {st : Stmt} {pi : List Nat} {o : Expr} {kws : List Keyword} {mo : VE} {mk : VA} {apos pos : Pos}
def BindM (m qual : Str) (st : Stmt) (ps : List Str) (n : Nat) (ks : List Str) (pi : List Nat) : Prop := ∀ (kV doc pm : Value) (an : Option Addr) (cdv ct : Value) (us ws : List Value), us.length = n → ws.length = ks.length →
  bindArgs (PySem.W.fnOf m qual (defArgs st) (defBody st) (defScope st) .none kV doc pm an cdv ct) ⟨us, ks.zip ws⟩ = pure (ps.zip (pickAt (us ++ ws) pi))
def mMethK (C : Addr) (m : Str) (j q : Nat) (pi : List Nat) (sp : VSp) (mo : VE) (mk : VA) : VE := fun ρ S Q => mo ρ S fun o S1 => match o with
  | .ref a => (match S1 a with
    | some (.ins C' fs) => C' = C ∧ fldD fs m = none ∧ mk ρ S1 fun es S2 => es.length = j ∧ (pickAt (.ref a :: es) pi).length = q ∧ sp (pickAt (.ref a :: es) pi) S2 Q
    | _ => False)
  | _ => False
theorem mMethK_e {C : Addr} {j q : Nat} {ρ : Sl} {S : Store} {Q : D → Store → Prop} : mMethK C m j q pi sp mo mk ρ S Q = mo ρ S fun o S1 => match o with
  | .ref a => (match S1 a with
    | some (.ins C' fs) => C' = C ∧ fldD fs m = none ∧ mk ρ S1 fun es S2 => es.length = j ∧ (pickAt (.ref a :: es) pi).length = q ∧ sp (pickAt (.ref a :: es) pi) S2 Q
    | _ => False)
  | _ => False := rfl
theorem v_methK0 {mg : Str → Option Value} {pl : Sem Bool} (F : DefM X.prog X.w X.K mg X.base k c m ps sp) (hh : HasM X.K mg c m qual st) (hb : BindM m qual st ps 1 ks pi) (hr : Room k X.A) (hgd : X.A.guards = some []) (ho : PE X o (LE X.K mo)) (hkw : PK X kws (LA X.K mk)) (hmg : X.mg = mg := by rfl)
    (hall : (backToKw pos (keywordEach kws X.env)).all (·.1.isSome) = true := by rfl) (hks : (backToKw pos (keywordEach kws X.env)).filterMap (·.1) = ks := by rfl)
    (hpl : ((backTo pos (starEach [] X.env)).any (·.1) || (backToKw pos (keywordEach kws X.env)).any (·.1.isNone)) = false := by rfl)
    (ht : eval (.Call (.Attribute o m apos) [] kws pos) X.env = (do
      let ov ← eval o X.env
      standAt apos.atName
      let (f, first) ← holding [ov] (getMethod ov m pl)
      callWith pos f first (backTo pos (starEach [] X.env)) (backToKw pos (keywordEach kws X.env))) := by rfl) :
    PE X (.Call (.Attribute o m apos) [] kws pos) (LE X.K (mMethK (clsA mg c) m ks.length ps.length pi sp mo mk)) := by
  subst hmg
  obtain ⟨C, f, fd, hm, hc, me, Fn⟩ := hh.ex
  have G0 := F.run st qual C f fd hm me Fn
  refine ⟨fun pins s σ H Q' I h => ?_⟩
  obtain ⟨ρ, S, Gh, Q, vw, re, hq, kk⟩ := h
  refine PySem.W.methodCall_KW (pl := pl) (thn (ho.run pins s σ H (fun v H1 => _) I ⟨ρ, S, Gh, _, vw, re, hq, fun d S1 v H1 G1 a1 r1 h1 => (⟨d, S1, G1, a1, r1, h1⟩ : ∃ d S1 G1, Aft X.K Gh S H S1 H1 G1 ∧ Rp X.K G1 v d ∧ (match d with
    | .ref a => (match S1 a with
      | some (.ins C' fs) => C' = clsA X.mg c ∧ fldD fs m = none ∧ mk ρ S1 fun es S2 => es.length = ks.length ∧ (pickAt (.ref a :: es) pi).length = ps.length ∧ sp (pickAt (.ref a :: es) pi) S2 Q
      | _ => False)
    | _ => False))⟩) fun u s1 ⟨x, H1, I1, rx, d, S1, G1, a1, r1, h1⟩ => ?_) ht
  split at h1
  · rename_i a
    split at h1
    · rename_i C' fs' e1
      obtain ⟨e2, h2, h3⟩ := h1
      rw [clsA_eq hm] at e2
      subst e2
      cases r1
      obtain ⟨_, uo, hu, ku⟩ := a1.vw.st _ _ e1
      cases ku with
      | @ins _ dx vs _ r =>
        obtain rfl : u = Value.ref a := rx
        refine getmeth_ok I1 hu hc me (r.lookupN h2) ?_
        refine PySem.W.callWith_KW0 (first := [.ref a]) (h₀ := X.base) I.ok.mod.kin me.kp hall ?_ hpl
        refine thn (hkw.run pos pins s1 σ H1 (fun zs H2 => _) I1 ⟨ρ, S1, G1, _, a1.vw, re.mono a1.gg, h3, fun es2 S2 zs H2 G2 a2 r2 h2 => (⟨es2, S2, G2, a2, r2, h2⟩ : ∃ es2 S2 G2, Aft X.K G1 S1 H1 S2 H2 G2 ∧ RpL X.K G2 zs es2 ∧ (es2.length = ks.length ∧ (pickAt (.ref a :: es2) pi).length = ps.length ∧ sp (pickAt (.ref a :: es2) pi) S2 Q))⟩) fun ws s2 ⟨zs, H2, I2, rz, es2, S2, G2, a2, r2, l2, l3, h4⟩ => ⟨I2.kIn, ?_⟩
        rw [hks]
        have lw : ws.length = ks.length := by rw [← rz.length, r2.length]; exact l2
        obtain ⟨oc, od, kV, doc, pm, an, cdv, ct, osl, rfl, lk, hcd⟩ := Fn.ex
        have rp := rpl_pick ((RpL.cons (.ref a) .nil : RpL X.K G2 [V.ref a] [D.ref a]).append r2) pi
        exact go_fnk (us := [.ref a]) (vs := [.ref a]) G0 hr hgd (BindsTo.of_eq (hb kV doc pm an cdv ct [.ref a] ws rfl lw)) pass0 I2 (.cons rfl .nil) rz
          ⟨by rw [rp.length]; exact l3, _, S2, G2, _, a2.vw, rp, h4, fun d S' v H' G' a3 r3 q => kk d S' v H' G' (a1.trans (a2.trans a3)) r3 q⟩
    · exact h1.elim
  · exact h1.elim
end
end VL
set_option maxHeartbeats 2000000
namespace VL
open PySem PySem.Spec L2
open PyProof.Rows hiding St
def fl_Boxes (x0 x1 : D) : List (Str × D) := [("numbers_at", x0), ("words_at", x1)]
theorem fd_Boxes_0 {x0 x1 : D} : fldD (fl_Boxes x0 x1) "numbers_at" = some x0 := by kernel_rfl
theorem fp_Boxes_0 {x0 x1 y : D} : putFD "numbers_at" y (fl_Boxes x0 x1) = fl_Boxes y x1 := by kernel_rfl
theorem fd_Boxes_1 {x0 x1 : D} : fldD (fl_Boxes x0 x1) "words_at" = some x1 := by kernel_rfl
theorem fp_Boxes_1 {x0 x1 y : D} : putFD "words_at" y (fl_Boxes x0 x1) = fl_Boxes x0 y := by kernel_rfl
theorem fm_Boxes_0 {x0 x1 : D} : fldD (fl_Boxes x0 x1) "make" = none := by kernel_rfl
theorem fm_Boxes_1 {x0 x1 : D} : fldD (fl_Boxes x0 x1) "many" = none := by kernel_rfl
theorem fm_Boxes_2 {x0 x1 : D} : fldD (fl_Boxes x0 x1) "numbers_of" = none := by kernel_rfl
theorem fm_Boxes_3 {x0 x1 : D} : fldD (fl_Boxes x0 x1) "words_of" = none := by kernel_rfl
theorem fm_Boxes_4 {x0 x1 : D} : fldD (fl_Boxes x0 x1) "put_number" = none := by kernel_rfl
theorem fm_Boxes_5 {x0 x1 : D} : fldD (fl_Boxes x0 x1) "put_word" = none := by kernel_rfl
theorem fm_Boxes_6 {x0 x1 : D} : fldD (fl_Boxes x0 x1) "resettle" = none := by kernel_rfl
theorem fm_Boxes_7 {x0 x1 : D} : fldD (fl_Boxes x0 x1) "held" = none := by kernel_rfl
theorem fm_Boxes_8 {x0 x1 : D} : fldD (fl_Boxes x0 x1) "copied" = none := by kernel_rfl
theorem fi_Boxes {x0 x1 : D} : (putFD "words_at" x1 (putFD "numbers_at" x0 [])) = fl_Boxes x0 x1 := by kernel_rfl
theorem fz_Boxes {x0 x1 : D} : ((fl_Boxes x0 x1).length < 1000) = True := eq_true (by show 2 < 1000; decide)
theorem length_putFD (f : Str) (d : D) : ∀ fs : List (Str × D), (putFD f d fs).length ≤ fs.length + 1
  | [] => by simp [putFD]
  | (g, x) :: r => by
    have ih := length_putFD f d r
    unfold putFD
    split <;> simp <;> omega
theorem fz_0 : (([] : List (Str × D)).length < 1000) = True := eq_true (by decide)
theorem fz_1 {f0 : Str} {d0 : D} : ((putFD f0 d0 []).length < 1000) = True := eq_true (by
  have h0 := length_putFD f0 d0 []
  simp only [List.length_nil] at *
  omega)
theorem fz_2 {f0 f1 : Str} {d0 d1 : D} : ((putFD f1 d1 (putFD f0 d0 [])).length < 1000) = True := eq_true (by
  have h0 := length_putFD f0 d0 []
  have h1 := length_putFD f1 d1 (putFD f0 d0 [])
  simp only [List.length_nil] at *
  omega)
theorem fz_3 {f0 f1 f2 : Str} {d0 d1 d2 : D} : ((putFD f2 d2 (putFD f1 d1 (putFD f0 d0 []))).length < 1000) = True := eq_true (by
  have h0 := length_putFD f0 d0 []
  have h1 := length_putFD f1 d1 (putFD f0 d0 [])
  have h2 := length_putFD f2 d2 (putFD f1 d1 (putFD f0 d0 []))
  simp only [List.length_nil] at *
  omega)
theorem fz_4 {f0 f1 f2 f3 : Str} {d0 d1 d2 d3 : D} : ((putFD f3 d3 (putFD f2 d2 (putFD f1 d1 (putFD f0 d0 [])))).length < 1000) = True := eq_true (by
  have h0 := length_putFD f0 d0 []
  have h1 := length_putFD f1 d1 (putFD f0 d0 [])
  have h2 := length_putFD f2 d2 (putFD f1 d1 (putFD f0 d0 []))
  have h3 := length_putFD f3 d3 (putFD f2 d2 (putFD f1 d1 (putFD f0 d0 [])))
  simp only [List.length_nil] at *
  omega)
theorem fz_5 {f0 f1 f2 f3 f4 : Str} {d0 d1 d2 d3 d4 : D} : ((putFD f4 d4 (putFD f3 d3 (putFD f2 d2 (putFD f1 d1 (putFD f0 d0 []))))).length < 1000) = True := eq_true (by
  have h0 := length_putFD f0 d0 []
  have h1 := length_putFD f1 d1 (putFD f0 d0 [])
  have h2 := length_putFD f2 d2 (putFD f1 d1 (putFD f0 d0 []))
  have h3 := length_putFD f3 d3 (putFD f2 d2 (putFD f1 d1 (putFD f0 d0 [])))
  have h4 := length_putFD f4 d4 (putFD f3 d3 (putFD f2 d2 (putFD f1 d1 (putFD f0 d0 []))))
  simp only [List.length_nil] at *
  omega)
theorem fz_6 {f0 f1 f2 f3 f4 f5 : Str} {d0 d1 d2 d3 d4 d5 : D} : ((putFD f5 d5 (putFD f4 d4 (putFD f3 d3 (putFD f2 d2 (putFD f1 d1 (putFD f0 d0 [])))))).length < 1000) = True := eq_true (by
  have h0 := length_putFD f0 d0 []
  have h1 := length_putFD f1 d1 (putFD f0 d0 [])
  have h2 := length_putFD f2 d2 (putFD f1 d1 (putFD f0 d0 []))
  have h3 := length_putFD f3 d3 (putFD f2 d2 (putFD f1 d1 (putFD f0 d0 [])))
  have h4 := length_putFD f4 d4 (putFD f3 d3 (putFD f2 d2 (putFD f1 d1 (putFD f0 d0 []))))
  have h5 := length_putFD f5 d5 (putFD f4 d4 (putFD f3 d3 (putFD f2 d2 (putFD f1 d1 (putFD f0 d0 [])))))
  simp only [List.length_nil] at *
  omega)
theorem fz_7 {f0 f1 f2 f3 f4 f5 f6 : Str} {d0 d1 d2 d3 d4 d5 d6 : D} : ((putFD f6 d6 (putFD f5 d5 (putFD f4 d4 (putFD f3 d3 (putFD f2 d2 (putFD f1 d1 (putFD f0 d0 []))))))).length < 1000) = True := eq_true (by
  have h0 := length_putFD f0 d0 []
  have h1 := length_putFD f1 d1 (putFD f0 d0 [])
  have h2 := length_putFD f2 d2 (putFD f1 d1 (putFD f0 d0 []))
  have h3 := length_putFD f3 d3 (putFD f2 d2 (putFD f1 d1 (putFD f0 d0 [])))
  have h4 := length_putFD f4 d4 (putFD f3 d3 (putFD f2 d2 (putFD f1 d1 (putFD f0 d0 []))))
  have h5 := length_putFD f5 d5 (putFD f4 d4 (putFD f3 d3 (putFD f2 d2 (putFD f1 d1 (putFD f0 d0 [])))))
  have h6 := length_putFD f6 d6 (putFD f5 d5 (putFD f4 d4 (putFD f3 d3 (putFD f2 d2 (putFD f1 d1 (putFD f0 d0 []))))))
  simp only [List.length_nil] at *
  omega)
theorem cx_mg {CX : CXT} {P : Program} {w : World} {K : PySem.W.Frag} {mg : Str → Option Value} {base : Heap} {N : List Str} {x : Str} {sc : Scope} {f : Addr} {cdv : Value} {A : Around} {outer : List Env} {s : Shared} {H : Hp} {E : XK} : (cxOf CX P w K mg base N x sc f cdv A outer s H E).mg = mg := rfl
theorem cx_mg2 {CX : CXT} {P : Program} {w : World} {K : PySem.W.Frag} {mg : Str → Option Value} {base : Heap} {N : List Str} {x : Str} {sc : Scope} {f : Addr} {cdv : Value} {A : Around} {outer : List Env} {s : Shared} {H : Hp} {E : XK} : (cxOf CX P w K mg base N x sc f cdv A outer s H E).nox.mg = mg := rfl
end VL
namespace Lw
open PySem L2 VL
open PyProof.Rows hiding St
set_option maxHeartbeats 4000000
def top (i : Nat) : Stmt := PySem.Challenge.pw_livepoints_k51_boxes.main.body.getD i (.Pass ⟨0, 0, 0, 0⟩)
local macro_rules | `(tactic| walk_at "VX") => `(tactic| simp -implicitDefEqProofs only [↓mFld_e, ↓mFldS_e, ↓mMeth_e, ↓mMethK_e, ↓mMake_e, ↓mMaxKD_e, ↓mFrz_e, mNeR_e, pickAt_5, gone_nx, gone_rt, gone_bk, gone_ct, cx_w, ↓mSortD_e, ↓gSetD_e, ↓mDict0M_e, ↓mPar_e, rdL_lst, pickAt_nil, pickAt_0, pickAt_1, pickAt_2, pickAt_3, pickAt_4, List.append_eq, ↓mMulA_i, ↓mMulA_t, ↓mMulA_l, ↓bList_e, tyn_supd, keyD_int, keyD_str, ↓mDSub_e, rdD_dct, ↓rFrz_e, ↓rMut_e, mCT_1, mCT_m, setAll_c, setAll_n, wipeD_n, wipeD_c, ↓mVar_e, ↓mC_e, ↓mOp_e, ↓mNum_e, ↓mInt0_e, ↓mAdd_e, ↓mMul_e, ↓mEq_e, ↓mNe_e, ↓mIx_e, ↓mNil_e, ↓mCons_e, ↓mTup_e, ↓mLst_e, ↓mLstM_e, ↓mTest_e, ↓mNot_e, ↓mOr_e, ↓mIfE_e, ↓mCB_e, ↓mLen_e, ↓mInt1_e, ↓mInt2_e, ↓mTupOf_e, ↓mIsi_e, ↓mCall_e, ↓mNx_e, ↓mSeq_e, ↓mDrop_e, ↓mRet_e, ↓mIf_e, ↓mAsg_e, ↓mSet_e, ↓gSetIx_e, ↓mSq_e, ↓mRng1_e, ↓mYes_e, ↓mApp_e, ↓mReprW_e, ↓on_nx, ↓on_rt, ↓on_bk, ↓on_ct, ↓lo_nx, ↓lo_rt, ↓lo_bk, ↓lo_ct, ↓reduceIte, Nat.reduceMul, sizeT, Nat.reduceLeDiff, mergeD, List.foldl_cons, List.foldl_nil, putD, keysD, keyD, List.any_nil, gv, startD, List.map_cons, List.map_nil, List.length_cons, List.length_nil, List.cons_append, List.nil_append, List.replicate_succ, List.replicate_zero, Nat.reduceAdd, Nat.reduceSub, List.set_cons_zero, List.set_cons_succ, if_true, if_false, Bool.false_eq_true, atI_0, atI_1, atI_2, atI_3, atI_4, and_true, true_and, ne_eq, not_true_eq_false, not_false_eq_true, isT, String.reduceEq, decide_true, decide_false, Bool.or_false, Bool.false_or, Bool.true_or, Bool.or_true, Bool.and_false, Bool.false_and, Bool.and_true, Bool.true_and, Bool.not_true, Bool.not_false, tyn_non, tyn_bl, tyn_int, tyn_str, tyn_tup, tyn_lst, tyn_ro, tyn_dct, ixN20, ixN21, rdS_supd, rdL_supd, rdR_supd, supd_same, supd_supd, cast0, cast1, cast2, cast3, cast4, cast5, rdL_lst, rdL_tup, rdL_int, rdR_lst, rdR_ro, rdS_tup, rdS_lst, rdS_ro, okq_non, okq_bl, okq_int, okq_str, eqq_int, eqq_bl, eqq_str, Int.reduceEq, Int.reduceLT, Int.reduceLE, Int.reduceAdd, Int.reduceSub, Int.reduceMul, Int.reduceNeg, Int.reducePow, Int.reduceToNat, Int.reduceMod, cx_mg, cx_mg2, Nat.reduceLT, fz_0, fz_1, fz_2, fz_3, fz_4, fz_5, fz_6, fz_7, fd_Boxes_0, fp_Boxes_0, fd_Boxes_1, fp_Boxes_1, fm_Boxes_0, fm_Boxes_1, fm_Boxes_2, fm_Boxes_3, fm_Boxes_4, fm_Boxes_5, fm_Boxes_6, fm_Boxes_7, fm_Boxes_8, fi_Boxes, fz_Boxes])
local macro_rules | `(tactic| simp?! only [$ls,*]) => `(tactic| simp -implicitDefEqProofs only [↓mFld_e, ↓mFldS_e, ↓mMeth_e, ↓mMethK_e, ↓mMake_e, ↓mMaxKD_e, ↓mFrz_e, mNeR_e, pickAt_5, gone_nx, gone_rt, gone_bk, gone_ct, cx_w, ↓mSortD_e, ↓gSetD_e, ↓mDict0M_e, ↓mPar_e, rdL_lst, pickAt_nil, pickAt_0, pickAt_1, pickAt_2, pickAt_3, pickAt_4, List.append_eq, ↓mMulA_i, ↓mMulA_t, ↓mMulA_l, ↓bList_e, tyn_supd, keyD_int, keyD_str, ↓mDSub_e, rdD_dct, ↓rFrz_e, ↓rMut_e, mCT_1, mCT_m, setAll_c, setAll_n, wipeD_n, wipeD_c, ↓mVar_e, ↓mC_e, ↓mOp_e, ↓mNum_e, ↓mInt0_e, ↓mAdd_e, ↓mMul_e, ↓mEq_e, ↓mNe_e, ↓mIx_e, ↓mNil_e, ↓mCons_e, ↓mTup_e, ↓mLst_e, ↓mLstM_e, ↓mTest_e, ↓mNot_e, ↓mOr_e, ↓mIfE_e, ↓mCB_e, ↓mLen_e, ↓mInt1_e, ↓mInt2_e, ↓mTupOf_e, ↓mIsi_e, ↓mCall_e, ↓mNx_e, ↓mSeq_e, ↓mDrop_e, ↓mRet_e, ↓mIf_e, ↓mAsg_e, ↓mSet_e, ↓gSetIx_e, ↓mSq_e, ↓mRng1_e, ↓mYes_e, ↓mApp_e, ↓mReprW_e, ↓on_nx, ↓on_rt, ↓on_bk, ↓on_ct, ↓lo_nx, ↓lo_rt, ↓lo_bk, ↓lo_ct, ↓reduceIte, Nat.reduceMul, sizeT, Nat.reduceLeDiff, mergeD, List.foldl_cons, List.foldl_nil, putD, keysD, keyD, List.any_nil, gv, startD, List.map_cons, List.map_nil, List.length_cons, List.length_nil, List.cons_append, List.nil_append, List.replicate_succ, List.replicate_zero, Nat.reduceAdd, Nat.reduceSub, List.set_cons_zero, List.set_cons_succ, if_true, if_false, Bool.false_eq_true, atI_0, atI_1, atI_2, atI_3, atI_4, and_true, true_and, ne_eq, not_true_eq_false, not_false_eq_true, isT, String.reduceEq, decide_true, decide_false, Bool.or_false, Bool.false_or, Bool.true_or, Bool.or_true, Bool.and_false, Bool.false_and, Bool.and_true, Bool.true_and, Bool.not_true, Bool.not_false, tyn_non, tyn_bl, tyn_int, tyn_str, tyn_tup, tyn_lst, tyn_ro, tyn_dct, ixN20, ixN21, rdS_supd, rdL_supd, rdR_supd, supd_same, supd_supd, cast0, cast1, cast2, cast3, cast4, cast5, rdL_lst, rdL_tup, rdL_int, rdR_lst, rdR_ro, rdS_tup, rdS_lst, rdS_ro, okq_non, okq_bl, okq_int, okq_str, eqq_int, eqq_bl, eqq_str, Int.reduceEq, Int.reduceLT, Int.reduceLE, Int.reduceAdd, Int.reduceSub, Int.reduceMul, Int.reduceNeg, Int.reducePow, Int.reduceToNat, Int.reduceMod, cx_mg, cx_mg2, Nat.reduceLT, fz_0, fz_1, fz_2, fz_3, fz_4, fz_5, fz_6, fz_7, fd_Boxes_0, fp_Boxes_0, fd_Boxes_1, fp_Boxes_1, fm_Boxes_0, fm_Boxes_1, fm_Boxes_2, fm_Boxes_3, fm_Boxes_4, fm_Boxes_5, fm_Boxes_6, fm_Boxes_7, fm_Boxes_8, fi_Boxes, fz_Boxes, $ls,*])
local macro_rules | `(tactic| simp_all?! only [$ls,*]) => `(tactic| simp only [List.all_cons, List.all_nil, smb, sml, smlL, smlK, smlKey, VL.cnt, cntL, cntK, cntKey, dep, depL, depK, Nat.reduceAdd, Nat.reduceLeDiff, decide_true, Bool.and_true, Bool.true_and, $ls,*])
local macro_rules | `(tactic| walk_at "SM") => `(tactic| simp only [List.all_cons, List.all_nil, smb, sml, smlL, smlK, smlKey, VL.cnt, cntL, cntK, cntKey, dep, depL, depK, Nat.reduceAdd, Nat.reduceLeDiff, decide_true, Bool.and_true, Bool.true_and])
/-- what the top has left -/
structure Tx (K : PySem.W.Frag) (w : World) (mg : Str → Option Value) : Prop where
  f_Boxes_held : HasM K mg "Boxes" "held" "Boxes.held" (inClass (top 2) 8)
  f_Boxes_init : HasI K mg "Boxes" "Boxes.__init__" (inClass (top 2) 0)
  f_Boxes_make : HasM K mg "Boxes" "make" "Boxes.make" (inClass (top 2) 1)
  k_Boxes : ClsT K mg "Boxes" ["numbers_at", "words_at"]
  f_law_pot : Has K mg "_law_pot" (top 4)
  f_law_take : Has K mg "_law_take" (top 5)
  f_law : Has K mg "law" (top 7)
  b_abs : mg "abs" = none
  b_bool : mg "bool" = none
  b_isinstance : mg "isinstance" = none
  b_len : mg "len" = none
  b_list : mg "list" = none
  b_max : mg "max" = none
  b_min : mg "min" = none
  b_range : mg "range" = none
  b_repr : mg "repr" = none
  b_sorted : mg "sorted" = none
  b_tuple : mg "tuple" = none
section
variable {P : Program} {w : World} {K : PySem.W.Frag} {mg : Str → Option Value} {base : Heap}
abbrev s_law_pot : Stmt := top 4
abbrev n_law_pot : List Str := ["_law_script", "_law_k", "_law_cell"]
theorem sc_law_pot : FnScope n_law_pot ["_law_script", "_law_k"] (defScope s_law_pot) := ⟨rfl, rfl, rfl, by decide +kernel, rfl, by decide +kernel, by decide +kernel⟩
def sp_law_pot : VSp := fun ds S Q => match ds with
  | [.ro ds, .int k] => (∃ ns : List Int, ds = ns.map D.int) ∧ 0 ≤ k ∧ k < 64 ∧ ∀ (p : Addr) (S' : Store), S p = none → Pot S' p → But p S S' → Q (.ref p) S'
  | _ => False
theorem ok_law_pot (T : Tx K w mg) : DefV P w K mg base 1 "_law_pot" ["_law_script", "_law_k"] sp_law_pot := by
  refine DefV.mk' T.f_law_pot sc_law_pot (fun _ _ _ _ _ _ us hl => match us, hl with | [_, _], _ => rfl) (fun f cdv A outer s H E hgd hr hcd => ⟨_, (s_cons (s_set 2 sc_law_pot.nd rfl (by first | exact Or.inl rfl | exact Or.inr rfl) (v_if (t_cmp ov_lt (v_var 1) (v_callB cv_len rfl T.b_len (by decide +kernel) (a_cons (v_var 0) a_nil))) (v_callB cv_abs rfl T.b_abs (by decide +kernel) (a_cons (v_sub (v_var 0) (v_var 1)) a_nil)) v_int))
      (s_one (s_ret (v_lstM (a_cons (v_callB (cv_max2 rfl) rfl T.b_max (by decide +kernel) (a_cons v_int (a_cons (v_op ov_sub (v_var 2) (v_op ov_pow v_int v_int)) a_nil))) (a_cons (v_op ov_mod (v_op ov_add (v_op ov_add (v_op ov_add (v_op ov_mulL (v_op ov_mod (v_var 2) v_int) v_int) (v_op ov_mulL (v_op ov_mulL v_int (v_var 1)) (v_var 1))) (v_op ov_mulL v_int (v_var 1))) v_int) v_int) a_nil)))))), ?_⟩)
  intro ds S Q hl h
  unfold sp_law_pot at h
  split at h
  · rename_i ds k
    obtain ⟨⟨ns, rfl⟩, h0, h1, kk⟩ := h
    walk_at "VX"
    have main : ∀ i : Int, 0 ≤ i → CPow 10 18 ∧ CMul (i % 2147483629) 48271 ∧ CMul 7919 k ∧ CMul (7919 * k) k ∧ CMul 613 k ∧ ∀ a, S a = none → VL.Fin Q (D.ref a) (supd S a (SO.lst [D.int (if i - 1000000000000000000 > 0 then i - 1000000000000000000 else 0), D.int ((i % 2147483629 * 48271 + 7919 * k * k + 613 * k + 29) % 2147483629)])) := by
      intro i hi
      refine ⟨cpow10 (by decide) (by decide), cmul_r (by decide) (by decide), cmul_l (by decide) (by decide), cmul_r (by omega) (by omega), cmul_l (by decide) (by decide), fun a ha => fin_same (kk a _ ha (Pot.mk' (by split <;> omega) (Int.emod_nonneg _ (by decide)) ?_) But.supd)⟩
      have := Int.emod_lt_of_pos (i % 2147483629 * 48271 + 7919 * k * k + 613 * k + 29) (show (0 : Int) < 2147483629 by decide)
      omega
    by_cases hk : k < (ns.length : Int)
    · obtain ⟨n, en⟩ := atI_ints h0 hk
      rw [if_pos (by simpa using hk), en]
      exact main _ (by split <;> omega)
    · rw [if_neg (by simpa using hk)]
      simpa using main 0 (by decide)
  · exact h.elim
abbrev s_Boxes_held : Stmt := inClass (top 2) 8
abbrev n_Boxes_held : List Str := ["self", "one"]
theorem sc_Boxes_held : FnScope n_Boxes_held ["self"] (defScope s_Boxes_held) := ⟨rfl, rfl, rfl, by decide +kernel, rfl, by decide +kernel, by decide +kernel⟩
/-- a dict from 1 on -/
def rowK (n : Nat) (g : Nat → D) : List (Key × D) := (List.range n).map fun (j : Nat) => ((Sum.inl ((j : Int) + 1) : Key), g j)
theorem rowK_find {g : Nat → D} : ∀ {n j : Nat}, j < n → valD (rowK n g) (Sum.inl ((j : Int) + 1)) = some (g j) := by
  intro n
  induction n with
  | zero => intro j h; omega
  | succ n ih =>
    intro j h
    have e : rowK (n + 1) g = rowK n g ++ [((Sum.inl ((n : Int) + 1) : Key), g n)] := by unfold rowK; rw [List.range_succ, List.map_append]; rfl
    rw [e]
    unfold valD
    rw [List.find?_append]
    by_cases hj : j < n
    · have := ih hj
      unfold valD at this
      cases q : (rowK n g).find? fun kv => decide (kv.1 = (Sum.inl ((j : Int) + 1) : Key)) with
      | none => rw [q] at this; cases this
      | some z => rw [q] at this; exact this
    · have : j = n := by omega
      subst this
      have : (rowK j g).find? (fun kv => decide (kv.1 = (Sum.inl ((j : Int) + 1) : Key))) = none := by
        rw [List.find?_eq_none]
        intro x hx
        obtain ⟨i, hi, rfl⟩ := List.mem_map.mp hx
        have := List.mem_range.mp hi
        simp
        omega
      rw [this]
      simp
theorem rowK_keys (n : Nat) (g : Nat → D) : (rowK n g).map (·.1) = ((List.range n).map fun (j : Nat) => (j : Int) + 1).map Sum.inl := by
  unfold rowK; rw [List.map_map, List.map_map]; rfl
theorem range_up (n : Nat) : ((List.range n).map fun (j : Nat) => (j : Int) + 1).Pairwise (· ≤ ·) := by
  rw [List.pairwise_map]
  exact List.pairwise_lt_range.imp fun {a b} (h : a < b) => by omega
theorem rowK_no (n : Nat) (g : Nat → D) : ((rowK n g).any fun kv => decide (kv.1 = (Sum.inl ((n : Int) + 1) : Key))) = false := by
  rw [Bool.eq_false_iff]
  intro hx
  obtain ⟨x, hx, e⟩ := List.any_eq_true.mp hx
  obtain ⟨i, hi, rfl⟩ := List.mem_map.mp hx
  have := List.mem_range.mp hi
  simp at e
  omega
theorem rowK_succ {n : Nat} {g g2 : Nat → D} {d : D} (h : g2 n = d) (hg : ∀ j, j < n → g2 j = g j) : rowK n g ++ [((Sum.inl ((n : Int) + 1) : Key), d)] = rowK (n + 1) g2 := by
  unfold rowK
  rw [List.range_succ, List.map_append, ← h]
  congr 1
  exact List.map_congr_left fun j hj => by rw [hg j (List.mem_range.mp hj)]
theorem maxI_range : ∀ n : Nat, maxI ((List.range n).map fun (j : Nat) => (j : Int) + 1) 0 = n
  | 0 => rfl
  | 1 => rfl
  | n + 2 => by
    have ih := maxI_range (n + 1)
    rw [List.range_succ, List.map_append]
    cases q : (List.range (n + 1)).map fun (j : Nat) => (j : Int) + 1 with
    | nil => simp at q
    | cons h t =>
      rw [q] at ih
      show (t ++ [((n + 1 : Nat) : Int) + 1]).foldl max h = _
      rw [List.foldl_append]
      have ih2 : t.foldl max h = ((n + 1 : Nat) : Int) := ih
      rw [ih2]
      simp only [List.foldl_cons, List.foldl_nil]
      omega
def zrs (n : Nat) : List D := List.replicate n (.int 0)
def numG (bs : List (Nat × Nat)) (j : Nat) : D := .lst (zrs (bs.getD j (0, 0)).1)
def wrdG (bs : List (Nat × Nat)) (j : Nat) : D := .lst (zrs (bs.getD j (0, 0)).2)
def cellB (bs : List (Nat × Nat)) (j : Nat) : D := .tup [.int ((j : Int) + 1), .tup (zrs (bs.getD j (0, 0)).1), .tup (zrs (bs.getD j (0, 0)).2)]
def heldB (bs : List (Nat × Nat)) : List D := (List.range bs.length).map (cellB bs)
/-- a row of boxes at a, its dicts at p and q -/
structure BoxesAt (mg : Str → Option Value) (S : Store) (a p q : Addr) (bs : List (Nat × Nat)) : Prop where
  ob : S a = some (.ins (clsA mg "Boxes") (fl_Boxes (.ref p) (.ref q)))
  nu : S p = some (.dct (rowK bs.length (numG bs)))
  wo : S q = some (.dct (rowK bs.length (wrdG bs)))
  ne : p ≠ q
def sp_Boxes_held (mg : Str → Option Value) : VSp := fun ds S Q => match ds with
  | [.ref a] => ∃ p q bs, BoxesAt mg S a p q bs ∧ bs.length < 60 ∧ ∀ r S', S r = none → S' r = some (.lst (heldB bs)) → (∀ b, b ≠ r → S' b = S b) → Q (.ref r) S'
  | _ => False
theorem ok_Boxes_held (T : Tx K w mg) : DefM P w K mg base 1 "Boxes" "held" ["self"] (sp_Boxes_held mg) := by
  refine DefM.mk' T.f_Boxes_held sc_Boxes_held (fun _ _ _ _ _ _ us hl => match us, hl with | [_], _ => rfl) (fun f cdv A outer s H E hgd hr hcd => ⟨_, (s_one (s_ret (v_lc (c := (.one 1)) (own := [("one", 1)]) recR_mut (by simp [CT.within]) rfl sc_Boxes_held.nd (i_seq (v_callB (cv_sortD recR_frz rfl) rfl T.b_sorted (by decide +kernel) (a_cons (v_fld (f := "numbers_at") T.k_Boxes (List.Mem.head _) (v_var 0)) a_nil))) (blkOk_by (N := n_Boxes_held) (sc := defScope s_Boxes_held) (by decide +kernel)) (fun _ _ _ _ _ => (pg_name (i := 1) sc_Boxes_held.nd rfl (by first | exact Or.inl rfl | exact Or.inr rfl))) (fun _ _ _ _ _ => ts_nil) (fun _ _ _ _ _ => (v_tup (a_cons (v_var 1) (a_cons (v_callT cv_tuple rfl T.b_tuple (by decide +kernel) (a_cons (v_dsub (units1 hr.units) (v_fld (f := "numbers_at") T.k_Boxes (List.Mem.head _) (v_var 0)) (v_var 1)) a_nil)) (a_cons (v_callT cv_tuple rfl T.b_tuple (by decide +kernel) (a_cons (v_dsub (units1 hr.units) (v_fld (f := "words_at") T.k_Boxes (List.Mem.tail _ (List.Mem.head _)) (v_var 0)) (v_var 1)) a_nil)) a_nil)))))))), ?_⟩)
  intro ds S Q hl h
  unfold sp_Boxes_held at h
  split at h
  · rename_i a
    obtain ⟨p, q, bs, B, l, k⟩ := h
    have r1 : rdD (.ref p) S = some (rowK bs.length (numG bs)) := by simp only [rdD, B.nu]
    have r2 : rdD (.ref q) S = some (rowK bs.length (wrdG bs)) := by simp only [rdD, B.wo]
    walk_at "VX"
    refine mLc_of (((List.range bs.length).map fun (j : Nat) => (j : Int) + 1).map D.int) (fun d => match d with | .int i => [cellB bs (i - 1).toNat] | _ => []) (kp := fun _ => True) (S1 := S) (fun Qi h => ?_) ?_ trivial (fun d hd J h => ?_) ?_
    · simp?! only [B.ob, r1]
      refine ⟨_, rowK_keys _ _, by simp; omega, fun ys hp hs => ?_⟩
      rw [sorted_eq hp hs (range_up _)]
      exact h
    · have := sizeLine_eq
      simp
      omega
    · obtain ⟨i, hi, rfl⟩ := List.mem_map.mp hd
      obtain ⟨j, hj, rfl⟩ := List.mem_map.mp hi
      have hj := List.mem_range.mp hj
      simp?! only [B.ob, r1, r2, rowK_find hj, numG, wrdG]
      have e : ((j : Int) + 1 - 1).toNat = j := by omega
      simp only [e] at h
      exact h
    · have e : (((List.range bs.length).map fun (j : Nat) => (j : Int) + 1).map D.int).flatMap (fun d => match d with | .int i => [cellB bs (i - 1).toNat] | _ => []) = heldB bs := by
        rw [List.map_map, List.flatMap_map]
        unfold heldB
        rw [List.map_eq_flatMap]
        refine congrArg (fun f => List.flatMap f _) (funext fun j => ?_)
        show [cellB bs ((j : Int) + 1 - 1).toNat] = [cellB bs j]
        rw [show ((j : Int) + 1 - 1).toNat = j by omega]
      rw [e]
      walk_at "VX"
      intro r hr
      exact fin_same (k r _ hr supd_same fun b hb => supd_ne hb)
  · exact h.elim
abbrev s_Boxes_init : Stmt := inClass (top 2) 0
abbrev n_Boxes_init : List Str := ["self"]
theorem sc_Boxes_init : FnScope n_Boxes_init ["self"] (defScope s_Boxes_init) := ⟨rfl, rfl, rfl, by decide +kernel, rfl, by decide +kernel, by decide +kernel⟩
def sp_Boxes_init (mg : Str → Option Value) : VSp := fun ds S Q => match ds with
  | [.ref a] => S a = some (.ins (clsA mg "Boxes") []) ∧ ∀ p q S', S p = none → S q = none → BoxesAt mg S' a p q [] → (∀ b, b ≠ a → b ≠ p → b ≠ q → S' b = S b) → Q .non S'
  | _ => False
theorem ok_Boxes_init (T : Tx K w mg) : DefI P w K mg base 1 "Boxes" ["self"] (sp_Boxes_init mg) := by
  refine DefI.mk' T.f_Boxes_init sc_Boxes_init (fun _ _ _ _ _ _ us hl => match us, hl with | [_], _ => rfl) (fun f cdv A outer s H E hgd hr hcd => ⟨_, (s_cons (s_fld (f := "numbers_at") T.k_Boxes (List.Mem.head _) (v_var 0) v_dict0M)
      (s_one (s_fld (f := "words_at") T.k_Boxes (List.Mem.tail _ (List.Mem.head _)) (v_var 0) v_dict0M))), ?_⟩)
  intro ds S Q hl h
  unfold sp_Boxes_init at h
  split at h
  · rename_i a
    obtain ⟨e, k⟩ := h
    walk_at "VX"
    intro p hp
    have ap : a ≠ p := fun z => by subst z; rw [e] at hp; cases hp
    rw [supd_ne ap, e]
    walk_at "VX"
    intro q hq
    have aq : q ≠ a := fun z => by subst z; rw [supd_same] at hq; cases hq
    have pq : q ≠ p := fun z => by subst z; rw [supd_ne ap.symm, supd_same] at hq; cases hq
    rw [supd_ne aq, supd_ne pq] at hq
    rw [supd_ne aq.symm, supd_same]
    walk_at "VX"
    refine fin_same (k p q _ hp hq ⟨by rw [supd_same], ?_, ?_, pq.symm⟩ fun b b1 b2 b3 => ?_)
    · rw [supd_ne ap.symm, supd_ne pq.symm, supd_ne ap.symm, supd_same]; rfl
    · rw [supd_ne aq, supd_same]; rfl
    · rw [supd_ne b1, supd_ne b3, supd_ne b1, supd_ne b2]
  · exact h.elim
abbrev s_law_take : Stmt := top 5
abbrev n_law_take : List Str := ["_law_pot_here", "_law_many", "_law_digit"]
theorem sc_law_take : FnScope n_law_take ["_law_pot_here", "_law_many"] (defScope s_law_take) := ⟨rfl, rfl, rfl, by decide +kernel, rfl, by decide +kernel, by decide +kernel⟩
def sp_law_take : VSp := fun ds S Q => match ds with
  | [.ref p, .int m] => Pot S p ∧ 0 < m ∧ m.natAbs.log2 < 9000 ∧ ∀ (r : Int) (S' : Store), 0 ≤ r → r < m → Pot S' p → But p S S' → Q (.int r) S'
  | _ => False
theorem ok_law_take (T : Tx K w mg) : DefV P w K mg base 1 "_law_take" ["_law_pot_here", "_law_many"] sp_law_take := by
  refine DefV.mk' T.f_law_take sc_law_take (fun _ _ _ _ _ _ us hl => match us, hl with | [_, _], _ => rfl) (fun f cdv A outer s H E hgd hr hcd => ⟨_, (s_cons (s_if (t_cmp ov_gt (v_sub (v_var 0) v_int) v_int) (s_cons (s_set 2 sc_law_take.nd rfl (by first | exact Or.inl rfl | exact Or.inr rfl) (v_op ov_mod (v_sub (v_var 0) v_int) (v_var 1)))
      (s_cons (s_asg (v_op ov_fdiv (v_sub (v_var 0) v_int) (v_var 1)) (g_setix (v_var 0) v_int (pg_sub (v_var 0) v_int set_list)))
      (s_one (s_ret (v_var 2))))) s_nil)
      (s_cons (s_asg (v_op ov_mod (v_op ov_add (v_op ov_mulL (v_sub (v_var 0) v_int) v_int) v_int) v_int) (g_setix (v_var 0) v_int (pg_sub (v_var 0) v_int set_list)))
      (s_one (s_ret (v_op ov_mod (v_op ov_fdiv (v_op ov_mod (v_op ov_mulL (v_sub (v_var 0) v_int) (v_sub (v_var 0) v_int)) v_int) v_int) (v_var 1)))))), ?_⟩)
  intro ds S Q hl h
  unfold sp_law_take at h
  split at h
  · rename_i p m
    obtain ⟨⟨a, b, e, ha, hb, hb2⟩, hm, hm2, k⟩ := h
    simp?! only [rdS_ref e, e]
    by_cases h0 : 0 < a
    · rw [if_pos (decide_eq_true h0)]
      refine ⟨hm, ⟨hm, hm2⟩, fin_same (k _ _ (Int.emod_nonneg _ (by omega)) (Int.emod_lt_of_pos _ hm) (Pot.mk' (Int.ediv_nonneg ha (by omega)) hb hb2) But.supd)⟩
    · rw [if_neg (by simpa using h0)]
      have c0 : 0 ≤ (b * 39373 + 8191) % 2147483587 := Int.emod_nonneg _ (by decide)
      have c1 : (b * 39373 + 8191) % 2147483587 < 2147483587 := Int.emod_lt_of_pos _ (by decide)
      generalize (b * 39373 + 8191) % 2147483587 = c at c0 c1
      refine ⟨cmul_r (by decide) (by decide), ?_⟩
      exact ⟨cmul_l (by omega) (by omega), ⟨by decide, by decide⟩, hm, fin_same (k _ _ (Int.emod_nonneg _ (by omega)) (Int.emod_lt_of_pos _ hm) (Pot.mk' ha c0 (by omega)) But.supd)⟩
  · exact h.elim
abbrev s_Boxes_make : Stmt := inClass (top 2) 1
abbrev n_Boxes_make : List Str := ["self", "numbers", "words", "address"]
theorem sc_Boxes_make : FnScope n_Boxes_make ["self", "numbers", "words"] (defScope s_Boxes_make) := ⟨rfl, rfl, rfl, by decide +kernel, rfl, by decide +kernel, by decide +kernel⟩
def sp_Boxes_make (mg : Str → Option Value) : VSp := fun ds S Q => match ds with
  | [.ref a, .int n, .int m] => ∃ p q bs, BoxesAt mg S a p q bs ∧ bs.length < 60 ∧ 0 ≤ n ∧ n < 4 ∧ 0 ≤ m ∧ m < 4 ∧ ∀ S', BoxesAt mg S' a p q (bs ++ [(n.toNat, m.toNat)]) → (∀ b, b ≠ p → b ≠ q → S' b = S b) → Q (.int ((bs.length : Int) + 1)) S'
  | _ => False
theorem ok_Boxes_make (T : Tx K w mg) : DefM P w K mg base 1 "Boxes" "make" ["self", "numbers", "words"] (sp_Boxes_make mg) := by
  refine DefM.mk' T.f_Boxes_make sc_Boxes_make (fun _ _ _ _ _ _ us hl => match us, hl with | [_, _, _], _ => rfl) (fun f cdv A outer s H E hgd hr hcd => ⟨_, (s_cons (s_set 3 sc_Boxes_make.nd rfl (by first | exact Or.inl rfl | exact Or.inr rfl) (v_op ov_add (v_maxKD rfl rfl T.b_max (v_fld (f := "numbers_at") T.k_Boxes (List.Mem.head _) (v_var 0))) v_int))
      (s_cons (s_asg (v_op ov_mulL (v_lst (a_cons v_int a_nil)) (v_var 1)) (g_setd (v_fld (f := "numbers_at") T.k_Boxes (List.Mem.head _) (v_var 0)) (v_var 3) (pg_sub (v_fld (f := "numbers_at") T.k_Boxes (List.Mem.head _) (v_var 0)) (v_var 3) (set_dict (units1 hr.units)))))
      (s_cons (s_asg (v_op ov_mulL (v_lst (a_cons v_int a_nil)) (v_var 2)) (g_setd (v_fld (f := "words_at") T.k_Boxes (List.Mem.tail _ (List.Mem.head _)) (v_var 0)) (v_var 3) (pg_sub (v_fld (f := "words_at") T.k_Boxes (List.Mem.tail _ (List.Mem.head _)) (v_var 0)) (v_var 3) (set_dict (units1 hr.units)))))
      (s_one (s_ret (v_var 3)))))), ?_⟩)
  intro ds S Q hl h
  unfold sp_Boxes_make at h
  split at h
  · rename_i a n m
    obtain ⟨p, q, bs, B, l, n0, n4, m0, m4, k⟩ := h
    have r1 : rdD (.ref p) S = some (rowK bs.length (numG bs)) := by simp only [rdD, B.nu]
    have sz := sizeLine_eq
    have lk : ∀ g, (rowK bs.length g).length < sizeLine := fun g => by simp [rowK]; omega
    have ap : a ≠ p := fun z => by have := B.ob; rw [z, B.nu] at this; cases this
    have aq : a ≠ q := fun z => by have := B.ob; rw [z, B.wo] at this; cases this
    simp?! only [B.ob, r1]
    refine ⟨_, rowK_keys _ _, by omega, by omega, by omega, ?_⟩
    rw [maxI_range]
    simp?! only [B.nu, rowK_no, lk]
    refine ⟨by omega, by omega, by omega, ?_⟩
    simp?! only [supd_ne ap, B.ob, supd_ne B.ne.symm, B.wo, rowK_no, lk]
    rw [List.flatten_replicate_singleton, List.flatten_replicate_singleton]
    have gd : (bs ++ [(n.toNat, m.toNat)]).getD bs.length (0, 0) = (n.toNat, m.toNat) := by simp
    have gj : ∀ j, j < bs.length → (bs ++ [(n.toNat, m.toNat)]).getD j (0, 0) = bs.getD j (0, 0) := fun j hj => by
      rw [List.getD_eq_getElem?_getD, List.getD_eq_getElem?_getD, List.getElem?_append_left hj]
    have lz : (bs ++ [(n.toNat, m.toNat)]).length = bs.length + 1 := by simp
    refine fin_same (k _ ⟨?_, ?_, ?_, B.ne⟩ fun b h1 h2 => ?_)
    · rw [supd_ne aq, supd_ne ap]; exact B.ob
    · rw [supd_ne B.ne, supd_same, lz]
      exact congrArg (fun x => some (SO.dct x)) (rowK_succ (by unfold numG; rw [gd]; rfl) fun j hj => by unfold numG; rw [gj j hj])
    · rw [supd_same, lz]
      exact congrArg (fun x => some (SO.dct x)) (rowK_succ (by unfold wrdG; rw [gd]; rfl) fun j hj => by unfold wrdG; rw [gj j hj])
    · rw [supd_ne h2, supd_ne h1]
  · exact h.elim
abbrev s_law : Stmt := top 7
abbrev n_law : List Str := ["_law_script", "_law_k", "_law_pot_here", "_law_some", "_law_due", "_law_turn", "_law_j", "_law_ahead", "_law_shown", "_law_told", "_law_size", "_law_room", "_law_address"]
theorem sc_law : FnScope n_law ["_law_script"] (defScope s_law) := ⟨rfl, rfl, rfl, by decide +kernel, rfl, by decide +kernel, by decide +kernel⟩
theorem bm_Boxes_make_words_numbers : BindM "make" "Boxes.make" s_Boxes_make ["self", "numbers", "words"] 1 ["words", "numbers"] [0, 2, 1] := fun _ _ _ _ _ _ us ws h1 h2 => match us, h1, ws, h2 with | [_], _, [_, _], _ => by kernel_rfl
theorem ne_lst {S : Store} {a b : Addr} {x y : SO} (ha : S a = some x) (hb : S b = some y) (h : x ≠ y) : a ≠ b := fun z => by subst z; rw [ha] at hb; cases hb; exact h rfl
theorem BoxesAt.keep {mg : Str → Option Value} {S S' : Store} {a p q : Addr} {bs : List (Nat × Nat)} (B : BoxesAt mg S a p q bs) (h1 : S' a = S a) (h2 : S' p = S p) (h3 : S' q = S q) : BoxesAt mg S' a p q bs := ⟨h1.trans B.ob, h2.trans B.nu, h3.trans B.wo, B.ne⟩
def few4 (bs : List (Nat × Nat)) : Prop := ∀ b ∈ bs, b.1 < 4 ∧ b.2 < 4
/-- the law's two rows, what is due of them, the pot -/
structure Two (mg : Str → Option Value) (S : Store) (p a0 p0 q0 c0 a1 p1 q1 c1 : Addr) (bs0 bs1 : List (Nat × Nat)) : Prop where
  pot : Pot S p
  b0 : BoxesAt mg S a0 p0 q0 bs0
  b1 : BoxesAt mg S a1 p1 q1 bs1
  d0 : S c0 = some (.lst (heldB bs0))
  d1 : S c1 = some (.lst (heldB bs1))
  f0 : few4 bs0
  f1 : few4 bs1
  pp : p0 ≠ p1
  pq : p0 ≠ q1
  qp : q0 ≠ p1
  qq : q0 ≠ q1
  cc : c0 ≠ c1
  pc0 : p ≠ c0
  pc1 : p ≠ c1
theorem Two.swap {mg : Str → Option Value} {S : Store} {p a0 p0 q0 c0 a1 p1 q1 c1 : Addr} {bs0 bs1 : List (Nat × Nat)} (T : Two mg S p a0 p0 q0 c0 a1 p1 q1 c1 bs0 bs1) : Two mg S p a1 p1 q1 c1 a0 p0 q0 c0 bs1 bs0 :=
  ⟨T.pot, T.b1, T.b0, T.d1, T.d0, T.f1, T.f0, T.pp.symm, T.qp.symm, T.pq.symm, T.qq.symm, T.cc.symm, T.pc1, T.pc0⟩
theorem Two.go {mg : Str → Option Value} {S S' : Store} {p a0 p0 q0 c0 a1 p1 q1 c1 : Addr} {bs0 bs1 bs : List (Nat × Nat)} (T : Two mg S p a0 p0 q0 c0 a1 p1 q1 c1 bs0 bs1) (hp : Pot S' p) (B : BoxesAt mg S' a0 p0 q0 bs) (hd : S' c0 = some (.lst (heldB bs))) (hf : few4 bs)
    (h : ∀ b o, b ≠ p0 → b ≠ q0 → b ≠ c0 → b ≠ p → S b = some o → S' b = some o) : Two mg S' p a0 p0 q0 c0 a1 p1 q1 c1 bs bs1 := by
  obtain ⟨x, y, ep, _⟩ := T.pot
  have n1 : ∀ {u}, S u = some (.ins (clsA mg "Boxes") (fl_Boxes (.ref p1) (.ref q1))) → S' u = S u := fun {u} e => by
    rw [e]; exact h u _ (ne_lst e T.b0.nu (by intro z; cases z)) (ne_lst e T.b0.wo (by intro z; cases z)) (ne_lst e T.d0 (by intro z; cases z)) (ne_lst e ep (by intro z; cases z)) e
  refine ⟨hp, B, T.b1.keep (n1 T.b1.ob) ?_ ?_, hd, ?_, hf, T.f1, T.pp, T.pq, T.qp, T.qq, T.cc, T.pc0, T.pc1⟩
  · rw [T.b1.nu]; exact h _ _ T.pp.symm T.qp.symm (ne_lst T.b1.nu T.d0 (by intro z; cases z)) (ne_lst T.b1.nu ep (by intro z; cases z)) T.b1.nu
  · rw [T.b1.wo]; exact h _ _ T.pq.symm T.qq.symm (ne_lst T.b1.wo T.d0 (by intro z; cases z)) (ne_lst T.b1.wo ep (by intro z; cases z)) T.b1.wo
  · exact h _ _ (ne_lst T.d1 T.b0.nu (by intro z; cases z)) (ne_lst T.d1 T.b0.wo (by intro z; cases z)) T.cc.symm T.pc1.symm T.d1
theorem Two.keep {mg : Str → Option Value} {S S' : Store} {p a0 p0 q0 c0 a1 p1 q1 c1 : Addr} {bs0 bs1 : List (Nat × Nat)} (T : Two mg S p a0 p0 q0 c0 a1 p1 q1 c1 bs0 bs1) (h : ∀ b o, S b = some o → S' b = some o) : Two mg S' p a0 p0 q0 c0 a1 p1 q1 c1 bs0 bs1 := by
  obtain ⟨x, y, ep, r⟩ := id T.pot
  exact T.go ⟨x, y, h _ _ ep, r⟩ ⟨h _ _ T.b0.ob, h _ _ T.b0.nu, h _ _ T.b0.wo, T.b0.ne⟩ (h _ _ T.d0) T.f0 fun b o _ _ _ _ => h b o
theorem Two.pots {mg : Str → Option Value} {S S' : Store} {p a0 p0 q0 c0 a1 p1 q1 c1 : Addr} {bs0 bs1 : List (Nat × Nat)} (T : Two mg S p a0 p0 q0 c0 a1 p1 q1 c1 bs0 bs1) (hp : Pot S' p) (h : But p S S') : Two mg S' p a0 p0 q0 c0 a1 p1 q1 c1 bs0 bs1 := by
  obtain ⟨x, y, ep, r⟩ := id T.pot
  refine T.go hp ⟨?_, ?_, ?_, T.b0.ne⟩ ?_ T.f0 fun b o _ _ _ hb e => (h b hb).trans e
  · rw [h _ (ne_lst T.b0.ob ep (by intro z; cases z))]; exact T.b0.ob
  · rw [h _ (ne_lst T.b0.nu ep (by intro z; cases z))]; exact T.b0.nu
  · rw [h _ (ne_lst T.b0.wo ep (by intro z; cases z))]; exact T.b0.wo
  · rw [h _ T.pc0.symm]; exact T.d0
/-- the one of them that is drawn -/
theorem Two.at {mg : Str → Option Value} {S : Store} {p a0 p0 q0 c0 a1 p1 q1 c1 : Addr} {bs0 bs1 : List (Nat × Nat)} {m : Nat} (T : Two mg S p a0 p0 q0 c0 a1 p1 q1 c1 bs0 bs1) (l0 : bs0.length ≤ m) (l1 : bs1.length ≤ m) {j : Int} (j0 : 0 ≤ j) (j2 : j < 2) :
    ∃ a p' q' c bs, atI [D.ref a0, .ref a1] j = some (.ref a) ∧ atI [D.ref c0, .ref c1] j = some (.ref c) ∧ BoxesAt mg S a p' q' bs ∧ S c = some (.lst (heldB bs)) ∧ few4 bs ∧ bs.length ≤ m ∧ c ≠ p' ∧ c ≠ q' ∧ a ≠ c ∧ p ≠ c ∧ p ≠ p' ∧ p ≠ q' ∧
      ∀ S' bs', Pot S' p → BoxesAt mg S' a p' q' bs' → S' c = some (.lst (heldB bs')) → few4 bs' → bs'.length ≤ m + 1 → (∀ b o, b ≠ p' → b ≠ q' → b ≠ c → b ≠ p → S b = some o → S' b = some o) → ∃ bs0' bs1', Two mg S' p a0 p0 q0 c0 a1 p1 q1 c1 bs0' bs1' ∧ bs0'.length ≤ m + 1 ∧ bs1'.length ≤ m + 1 := by
  obtain ⟨x, y, ep, _⟩ := id T.pot
  have hj : j = 0 ∨ j = 1 := by omega
  rcases hj with rfl | rfl
  · exact ⟨a0, p0, q0, c0, bs0, rfl, rfl, T.b0, T.d0, T.f0, l0, ne_lst T.d0 T.b0.nu (by intro z; cases z), ne_lst T.d0 T.b0.wo (by intro z; cases z), ne_lst T.b0.ob T.d0 (by intro z; cases z), T.pc0, ne_lst ep T.b0.nu (by intro z; cases z), ne_lst ep T.b0.wo (by intro z; cases z),
      fun S' bs' hp B hd hf hl h => ⟨bs', bs1, T.go hp B hd hf h, hl, by omega⟩⟩
  · exact ⟨a1, p1, q1, c1, bs1, rfl, rfl, T.b1, T.d1, T.f1, l1, ne_lst T.d1 T.b1.nu (by intro z; cases z), ne_lst T.d1 T.b1.wo (by intro z; cases z), ne_lst T.b1.ob T.d1 (by intro z; cases z), T.pc1, ne_lst ep T.b1.nu (by intro z; cases z), ne_lst ep T.b1.wo (by intro z; cases z),
      fun S' bs' hp B hd hf hl h => ⟨bs0, bs', (T.swap.go hp B hd hf h).swap, by omega, hl⟩⟩
theorem sm_zrs (n : Nat) (h : n < 4) : Sm 700 2 (.tup (zrs n)) :=
  (AllSm.tup (n := 200) (m := 1) (k := 3) (fun d hd => by rw [List.eq_of_mem_replicate hd]; exact sm_int (by omega) (by omega)) (by unfold zrs; rw [List.length_replicate]; omega)).mono (by decide) (by decide)
theorem held_all {bs : List (Nat × Nat)} (f : few4 bs) (l : bs.length < 60) : AllSm 3000 4 (heldB bs) := fun d hd => by
  obtain ⟨j, hj, rfl⟩ := List.mem_map.mp hd
  have hj := List.mem_range.mp hj
  have hb : bs.getD j (0, 0) ∈ bs := by rw [List.getD_eq_getElem?_getD, List.getElem?_eq_getElem hj]; exact List.getElem_mem hj
  have a : AllSm 700 2 [D.int ((j : Int) + 1), .tup (zrs (bs.getD j (0, 0)).1), .tup (zrs (bs.getD j (0, 0)).2)] := fun e he => by
    simp only [List.mem_cons, List.not_mem_nil, or_false] at he
    rcases he with rfl | rfl | rfl
    · exact (sm_int (by omega) (by omega)).mono (by decide) (by decide)
    · exact sm_zrs _ (f _ hb).1
    · exact sm_zrs _ (f _ hb).2
  exact (a.tup (k := 3) (by simp)).mono (by decide) (by decide)
theorem held_fit {bs : List (Nat × Nat)} (f : few4 bs) (l : bs.length < 60) : fitW (.lst (heldB bs)) := by
  obtain ⟨q1, q2, q3⟩ := (held_all f l).row
  have hl : (heldB bs).length = bs.length := by unfold heldB; rw [List.length_map, List.length_range]
  have q4 : Sm 1000000 6 (.lst (heldB bs)) := ⟨by simpa only [sml] using q1, by simp only [VL.cnt]; omega, by simp only [dep]; omega⟩
  exact q4.fit (by decide) (by decide)
theorem layL_of : ∀ {ds : List D}, (∀ d ∈ ds, layD d = true) → layL ds = true
  | [], _ => rfl
  | d :: ds, h => by
    simp only [layL, Bool.and_eq_true]
    exact ⟨h d (by simp), layL_of fun e he => h e (by simp [he])⟩
theorem held_lay (bs : List (Nat × Nat)) : layL (heldB bs) = true := layL_of fun d hd => by
  obtain ⟨j, hj, rfl⟩ := List.mem_map.mp hd
  have z : ∀ n, layL (zrs n) = true := fun n => layL_of fun e he => by rw [List.eq_of_mem_replicate he]; rfl
  simp only [cellB, layD, layL, z, Bool.and_true]
theorem heldB_succ (bs : List (Nat × Nat)) (n m : Nat) : heldB bs ++ [D.tup [.int ((bs.length : Int) + 1), .tup (zrs n), .tup (zrs m)]] = heldB (bs ++ [(n, m)]) := by
  unfold heldB
  rw [List.length_append, List.length_singleton, List.range_succ, List.map_append]
  refine congr (congrArg _ (List.map_congr_left fun j hj => ?_)) ?_
  · have := List.mem_range.mp hj
    unfold cellB
    rw [List.getD_eq_getElem?_getD, List.getD_eq_getElem?_getD, List.getElem?_append_left this]
  · show [_] = [cellB _ _]
    unfold cellB
    simp
theorem new_keep {S : Store} {a : Addr} {x : SO} (h : S a = none) : ∀ b o, S b = some o → supd S a x b = some o := fun b o e => by
  rw [supd_ne (fun z => by subst z; rw [h] at e; cases e)]; exact e
theorem ini_new {S : Store} {a p : Addr} {x : SO} (h : S a = none) (n : supd S a x p = none) : S p = none := by
  by_cases z : p = a
  · subst z; rw [supd_same] at n; cases n
  · rwa [supd_ne z] at n
theorem ini_keep {S S' : Store} {a p q : Addr} {x : SO} (h : S a = none) (n : supd S a x p = none) (n' : supd S a x q = none) (hb : ∀ b, ¬b = a → ¬b = p → ¬b = q → S' b = supd S a x b) : ∀ b o, S b = some o → S' b = some o := fun b o e => by
  have ne : ∀ c, S c = none → ¬b = c := fun c hc z => by subst z; rw [hc] at e; cases e
  rw [hb b (ne _ h) (ne _ (ini_new h n)) (ne _ (ini_new h n'))]
  exact new_keep h _ _ e
theorem frz_same {S S' S2 : Store} {r : Addr} (n : S r = none) (h : ∀ b, ¬b = r → S' b = S b) (n2 : S2 r = none) (h2 : ∀ b, ¬b = r → S2 b = S' b) : S2 = S := by
  funext b
  by_cases z : b = r
  · rw [z, n2, n]
  · rw [h2 b z, h b z]
theorem ok_held (S : Store) (bs : List (Nat × Nat)) (h : few4 bs) (l : bs.length < 60) : okq S (.lst (heldB bs)) := okq_lay (by simp only [layD]; exact held_lay bs) (by have := (held_all h l).row.2.2; simp only [dep]; omega)
theorem few0 : few4 [] := fun _ h => nomatch h
theorem eq_nil (S : Store) : eqq S (.lst []) (.lst []) = true := eqq_self (ok_held S [] few0 (by decide))
theorem ne_new {S : Store} {a b : Addr} {o : SO} (e : S a = some o) (h : S b = none) : a ≠ b := fun z => by subst z; rw [h] at e; cases e
def sp_law : VSp := fun ds S Q => match ds with
  | [.ro ds] => (∃ ns : List Int, ds = ns.map D.int ∧ ns.length < 64) ∧ ∀ S', Q (.bl true) S'
  | _ => False
theorem law_end : ∀ ns : List Int, ns.length ≤ 63 → ∀ Q : D → Store → Prop, (∀ S, Q (.bl true) S) → sp_law [.ro (ns.map D.int)] (fun _ => none) Q :=
  fun ns h Q k => ⟨⟨ns, rfl, by omega⟩, k⟩
theorem ok_law (T : Tx K w mg) : DefV P w K mg base 3 "law" ["_law_script"] sp_law := by
  refine DefV.mk' T.f_law sc_law (fun _ _ _ _ _ _ us hl => match us, hl with | [_], _ => rfl) (fun f cdv A outer s H E hgd hr hcd => ⟨_, (s_cons (s_for (c := (.one 1)) PassesOwn.never rfl (i_rng1 rfl T.b_range (v_callB (cv_max2 rfl) rfl T.b_max (by decide +kernel) (a_cons v_int (a_cons (v_callB (cv_min2 rfl) rfl T.b_min (by decide +kernel) (a_cons (v_callB cv_len rfl T.b_len (by decide +kernel) (a_cons (v_var 0) a_nil)) (a_cons v_int a_nil))) a_nil))) (pi_range1 rfl T.b_range (pa_cons (v_callB (cv_max2 rfl) rfl T.b_max (by decide +kernel) (a_cons v_int (a_cons (v_callB (cv_min2 rfl) rfl T.b_min (by decide +kernel) (a_cons (v_callB cv_len rfl T.b_len (by decide +kernel) (a_cons (v_var 0) a_nil)) (a_cons v_int a_nil))) a_nil))) pa_nil))) (pg_name (i := 1) sc_law.nd rfl (by first | exact Or.inl rfl | exact Or.inr rfl))
      (s_cons (s_set 2 sc_law.nd rfl (by first | exact Or.inl rfl | exact Or.inr rfl) (v_call (ok_law_pot T) (hr.mono (by decide)) hgd rfl (a_cons (v_var 0) (a_cons (v_var 1) a_nil))))
      (s_cons (s_set 3 sc_law.nd rfl (by first | exact Or.inl rfl | exact Or.inr rfl) (v_lst (a_cons (v_make0 (ok_Boxes_init T) (hr.mono (by decide)) hgd rfl) (a_cons (v_make0 (ok_Boxes_init T) (hr.mono (by decide)) hgd rfl) a_nil))))
      (s_hold (s_set 4 sc_law.nd rfl (by first | exact Or.inl rfl | exact Or.inr rfl) (v_lst (a_cons (v_lstM a_nil) (a_cons (v_lstM a_nil) a_nil))))
      (s_cons (s_if (PW.pt (w_or (t_cmp (ov_ne hr.units) (v_frz (v_meth0 (ok_Boxes_held T) (hr.mono (by decide)) hgd (v_sub (v_var 3) v_int))) (v_lst a_nil)) (w_or1 (t_cmp (ov_ne hr.units) (v_frz (v_meth0 (ok_Boxes_held T) (hr.mono (by decide)) hgd (v_sub (v_var 3) v_int))) (v_lst a_nil))))) (s_one (s_ret v_bl)) s_nil)
      (s_hold (s_for (c := (.one 5)) PassesOwn.never rfl (i_rng1 rfl T.b_range (v_op ov_add v_int (v_call (ok_law_take T) (hr.mono (by decide)) hgd rfl (a_cons (v_var 2) (a_cons v_int a_nil)))) (pi_range1 rfl T.b_range (pa_cons (v_op ov_add v_int (v_call (ok_law_take T) (hr.mono (by decide)) hgd rfl (a_cons (v_var 2) (a_cons v_int a_nil)))) pa_nil))) (pg_name (i := 5) sc_law.nd rfl (by first | exact Or.inl rfl | exact Or.inr rfl))
      (s_cons (s_set 6 sc_law.nd rfl (by first | exact Or.inl rfl | exact Or.inr rfl) (v_call (ok_law_take T) (hr.mono (by decide)) hgd rfl (a_cons (v_var 2) (a_cons v_int a_nil))))
      (s_cons (s_set 7 sc_law.nd rfl (by first | exact Or.inl rfl | exact Or.inr rfl) (v_frz (v_meth0 (ok_Boxes_held T) (hr.mono (by decide)) hgd (v_sub (v_var 3) (v_var 6)))))
      (s_cons (s_set 8 sc_law.nd rfl (by first | exact Or.inl rfl | exact Or.inr rfl) (v_callB (cv_reprW hgd hr.units) rfl T.b_repr (by decide +kernel) (a_cons (v_var 7) a_nil)))
      (s_hold (s_par (i := 10) (j := 11) rfl sc_law.nd rfl rfl (by decide) rfl rfl (a_cons (v_call (ok_law_take T) (hr.mono (by decide)) hgd rfl (a_cons (v_var 2) (a_cons v_int a_nil))) (a_cons (v_call (ok_law_take T) (hr.mono (by decide)) hgd rfl (a_cons (v_var 2) (a_cons v_int a_nil))) a_nil)) (by first | rfl | kernel_rfl))
      (s_hold (s_if (t_cmp (ov_eq hr.units) (v_call (ok_law_take T) (hr.mono (by decide)) hgd rfl (a_cons (v_var 2) (a_cons v_int a_nil))) v_int) (s_one (s_set 12 sc_law.nd rfl (by first | exact Or.inl rfl | exact Or.inr rfl) (v_meth (ok_Boxes_make T) (hr.mono (by decide)) hgd (v_sub (v_var 3) (v_var 6)) (a_cons (v_var 10) (a_cons (v_var 11) a_nil))))) (s_one (s_set 12 sc_law.nd rfl (by first | exact Or.inl rfl | exact Or.inr rfl) (v_methK0 (ok_Boxes_make T) T.f_Boxes_make bm_Boxes_make_words_numbers (hr.mono (by decide)) hgd (v_sub (v_var 3) (v_var 6)) (k_cons (v_var 11) (k_cons (v_var 10) k_nil))))))
      (s_hold (s_expr (v_app (v_sub (v_var 4) (v_var 6)) (v_tup (a_cons (v_op ov_add (v_callB cv_len rfl T.b_len (by decide +kernel) (a_cons (v_sub (v_var 4) (v_var 6)) a_nil)) v_int) (a_cons (v_op ov_mulA (v_tup (a_cons v_int a_nil)) (v_var 10)) (a_cons (v_op ov_mulA (v_tup (a_cons v_int a_nil)) (v_var 11)) a_nil)))) (pe_bm PySem.F.plainAttrs_list PySem.F.slot_list_append PySem.F.type_list_append mt_append (v_sub (v_var 4) (v_var 6)) (pa_cons (v_tup (a_cons (v_op ov_add (v_callB cv_len rfl T.b_len (by decide +kernel) (a_cons (v_sub (v_var 4) (v_var 6)) a_nil)) v_int) (a_cons (v_op ov_mulA (v_tup (a_cons v_int a_nil)) (v_var 10)) (a_cons (v_op ov_mulA (v_tup (a_cons v_int a_nil)) (v_var 11)) a_nil)))) pa_nil))))
      (s_cons (s_if (PW.pt (w_or (t_val (v_isi "bool" (by decide) rfl T.b_isinstance (by decide +kernel) rfl T.b_bool (by decide +kernel) (v_var 12))) (w_or1 (t_cmp (ov_ne hr.units) (v_var 12) (v_callB cv_len rfl T.b_len (by decide +kernel) (a_cons (v_sub (v_var 4) (v_var 6)) a_nil)))))) (s_one (s_ret v_bl)) s_nil)
      (s_hold (s_set 9 sc_law.nd rfl (by first | exact Or.inl rfl | exact Or.inr rfl) (v_meth0 (ok_Boxes_held T) (hr.mono (by decide)) hgd (v_sub (v_var 3) (v_var 6))))
      (s_cons (s_if (PW.pt (w_or (t_not (t_val (v_isi "list" (by decide) rfl T.b_isinstance (by decide +kernel) rfl T.b_list (by decide +kernel) (v_var 9)))) (w_or (t_cmp (ov_ne hr.units) (v_callB (cv_reprW hgd hr.units) rfl T.b_repr (by decide +kernel) (a_cons (v_var 9) a_nil)) (v_callB (cv_reprW hgd hr.units) rfl T.b_repr (by decide +kernel) (a_cons (v_sub (v_var 4) (v_var 6)) a_nil))) (w_or1 (t_cmp (ov_ne hr.units) (v_callB (cv_reprW hgd hr.units) rfl T.b_repr (by decide +kernel) (a_cons (v_var 7) a_nil)) (v_var 8)))))) (s_one (s_ret v_bl)) s_nil)
      (s_hold (s_expr (v_app (v_var 9) v_non (pe_bm PySem.F.plainAttrs_list PySem.F.slot_list_append PySem.F.type_list_append mt_append (v_var 9) (pa_cons v_non pa_nil))))
      (s_one (s_asg v_non (g_setix (v_var 9) v_int (pg_sub (v_var 9) v_int set_list)))))))))))))))
      (s_hold (s_if (t_cmp (ov_neR hr.units) (v_lst (a_cons (v_frz (v_meth0 (ok_Boxes_held T) (hr.mono (by decide)) hgd (v_sub (v_var 3) v_int))) (a_cons (v_frz (v_meth0 (ok_Boxes_held T) (hr.mono (by decide)) hgd (v_sub (v_var 3) v_int))) a_nil))) (v_var 4)) (s_one (s_ret v_bl)) s_nil) s_nil)))))))
      (s_one (s_ret v_bl))), ?_⟩)
  intro ds S Q hl h
  unfold sp_law at h
  split at h
  · rename_i ds
    obtain ⟨⟨ns, rfl, hn⟩, k⟩ := h
    walk_at "VX"
    refine mFor_rng 0 (if (if 8 < (ns.length : Int) then 8 else (ns.length : Int)) > 1 then (if 8 < (ns.length : Int) then 8 else (ns.length : Int)) else 1).toNat (fun i ρ2 S2 => ∃ z1 z2 z3 z4 z5 z6 z7 z8 z9 z10 z11 z12, ρ2 = [some (D.ro (ns.map D.int)), z1, z2, z3, z4, z5, z6, z7, z8, z9, z10, z11, z12]) (kp := fun _ => True) (S1 := S) (fun Qi h => ?_) ⟨_, _, _, _, _, _, _, _, _, _, _, _, rfl⟩ (fun _ _ _ _ => trivial) (fun i ρ2 S2 hi h => ?_) (fun ρ2 S2 h => ?_)
    · simp?! only [List.length_map]
      refine ⟨?_, ?_, h⟩ <;> split <;> (try split) <;> omega
    · obtain ⟨z1, z2, z3, z4, z5, z6, z7, z8, z9, z10, z11, z12, rfl⟩ := h
      simp?! only [sp_law_pot, sp_Boxes_init]
      refine ⟨⟨ns, rfl⟩, by omega, ?_, fun p S3 n3 p3 b3 => ?_⟩
      · revert hi; split <;> (try split) <;> omega
      intro a0 h0 p0 q0 S4 n0 n0' B0 b4 a1 h1 p1 q1 S5 n1 n1' B1 b5
      have k5 := ini_keep h1 n1 n1' b5
      have B0' : BoxesAt mg S5 a0 p0 q0 [] := ⟨k5 _ _ B0.ob, k5 _ _ B0.nu, k5 _ _ B0.wo, B0.ne⟩
      obtain ⟨x, y, ep, px⟩ := p3
      have ep5 := k5 _ _ (ini_keep h0 n0 n0' b4 _ _ ep)
      have n1 := ini_new h1 n1
      have n1' := ini_new h1 n1'
      rw [mHold_e]
      walk_at "VX"
      intro c0 e0 c1 e1
      have k7 : ∀ b o, S5 b = some o → supd (supd S5 c0 (SO.lst [])) c1 (SO.lst []) b = some o := fun b o e => new_keep e1 _ _ (new_keep e0 _ _ e)
      have T : Two mg (supd (supd S5 c0 (SO.lst [])) c1 (SO.lst [])) p a0 p0 q0 c0 a1 p1 q1 c1 [] [] :=
        ⟨⟨x, y, k7 _ _ ep5, px⟩, ⟨k7 _ _ B0'.ob, k7 _ _ B0'.nu, k7 _ _ B0'.wo, B0.ne⟩, ⟨k7 _ _ B1.ob, k7 _ _ B1.nu, k7 _ _ B1.wo, B1.ne⟩, new_keep e1 _ _ supd_same, supd_same, fun _ h => (nomatch h), fun _ h => (nomatch h),
          ne_new B0.nu n1, ne_new B0.nu n1', ne_new B0.wo n1, ne_new B0.wo n1', ne_new supd_same e1, ne_new ep5 e0, ne_new (new_keep e0 _ _ ep5) e1⟩
      clear k7 ep5 ep px B0' B0 B1 k5 n1 n1' b4 b5 b3 n0 n0' h0 h1 e0 e1 n3
      generalize supd (supd S5 c0 (SO.lst [])) c1 (SO.lst []) = S7 at T
      simp?! only [T.b0.ob, sp_Boxes_held]
      refine ⟨p0, q0, [], T.b0, by decide, fun r S8 r1 r2 r3 => ?_⟩
      rw [r2]
      walk_at "VX"
      intro S9 r4 r5
      obtain rfl := frz_same r1 r3 r4 r5
      refine ⟨ok_held _ _ few0 (by decide), ok_held _ [] few0 (by decide), ?_⟩
      rw [if_neg (by rw [show heldB [] = [] from rfl, eq_nil]; decide)]
      simp?! only [T.b1.ob]
      refine ⟨p1, q1, [], T.b1, by decide, fun r S10 r1 r2 r3 => ?_⟩
      rw [r2]
      walk_at "VX"
      intro S11 r4 r5
      obtain rfl := frz_same r1 r3 r4 r5
      refine ⟨ok_held _ _ few0 (by decide), ok_held _ [] few0 (by decide), ?_⟩
      rw [if_neg (by rw [show heldB [] = [] from rfl, eq_nil]; decide)]
      rw [mHold_e]
      refine mFor_draw ?_
      simp?! only [sp_law_take]
      refine ⟨T.pot, by decide, fun r S12 r0 r3 p12 b12 => ⟨by omega, by omega, ?_⟩⟩
      have T := T.pots p12 b12
      refine mFor_rng 0 (1 + r).toNat (fun i ρ2 S2 => (∃ z1 z5 z6 z7 z8 z9 z10 z11 z12, ρ2 = [some (D.ro (ns.map D.int)), z1, some (.ref p), some (.lst [.ref a0, .ref a1]), some (.lst [.ref c0, .ref c1]), z5, z6, z7, z8, z9, z10, z11, z12]) ∧ ∃ bs0 bs1, Two mg S2 p a0 p0 q0 c0 a1 p1 q1 c1 bs0 bs1 ∧ bs0.length ≤ i ∧ bs1.length ≤ i) (kp := fun _ => True) (S1 := S12) (fun Qi h => ?_) ⟨⟨_, _, _, _, _, _, _, _, _, rfl⟩, [], [], T, Nat.le_refl _, Nat.le_refl _⟩ (fun _ _ _ _ => trivial) (fun m ρ4 S13 hm h => ?_) (fun ρ4 S13 h => ?_)
      · exact h
      · obtain ⟨⟨z1, z5, z6, z7, z8, z9, z10, z11, z12, rfl⟩, bs0, bs1, T, l0, l1⟩ := h
        simp?! only [sp_law_take]
        refine ⟨T.pot, by decide, fun j S14 j0 j2 p14 b14 => ?_⟩
        have T := T.pots p14 b14
        obtain ⟨a, p', q', c, bs, ea, ec, B, Dc, f4, lb, cp, cq, ac, pc, pp', pq', go⟩ := T.at l0 l1 j0 j2
        have lb2 : bs.length < 41 := by omega
        simp?! only [ea, B.ob, sp_Boxes_held]
        refine ⟨p', q', bs, B, by omega, fun r S15 r1 r2 r3 => ?_⟩
        rw [r2]
        walk_at "VX"
        intro S16 r4 r5
        obtain rfl := frz_same r1 r3 r4 r5
        refine ⟨held_fit f4 (by omega), ?_⟩
        rw [mHold_e]
        simp?! only [sp_law_take]
        refine ⟨p14, by decide, fun n S17 n0 n4 p17 b17 => ⟨p17, by decide, fun u S18 u0 u4 p18 b18 => ?_⟩⟩
        rw [mHold_e]
        simp?! only [sp_law_take]
        refine ⟨p18, by decide, fun w S19 w0 w2 p19 b19 => ?_⟩
        have kp : ∀ b, b ≠ p → S19 b = S16 b := fun b hb => (b19 b hb).trans ((b18 b hb).trans (b17 b hb))
        have ap : a ≠ p := by obtain ⟨x, y, ep, _⟩ := p14; exact ne_lst B.ob ep (by intro z; cases z)
        have B19 := B.keep (kp _ ap) (kp _ pp'.symm) (kp _ pq'.symm)
        have D19 := (kp _ pc.symm).trans Dc
        simp?! only [ea, B19.ob, ite_self, sp_Boxes_make]
        refine ⟨p', q', bs, B19, by omega, n0, n4, u0, u4, fun S20 B20 k20 => ?_⟩
        have D20 := (k20 _ cp cq).trans D19
        have r20 : rdS (.ref c) S20 = some (heldB bs) := rdS_ref D20
        have lh : (heldB bs).length = bs.length := by unfold heldB; rw [List.length_map, List.length_range]
        rw [mHold_e]
        simp?! only [ec, D20, r20, lh]
        have es := heldB_succ bs n.toNat u.toNat
        unfold zrs at es
        simp only [List.flatten_replicate_singleton, es]
        have lb' : (bs ++ [(n.toNat, u.toNat)]).length = bs.length + 1 := by simp
        have f4' : few4 (bs ++ [(n.toNat, u.toNat)]) := fun b hb => by
          rcases List.mem_append.mp hb with hb | hb
          · exact f4 b hb
          · rw [List.mem_singleton.mp hb]; exact ⟨by show n.toNat < 4; omega, by show u.toNat < 4; omega⟩
        have go' : ∀ S', Pot S' p → BoxesAt mg S' a p' q' (bs ++ [(n.toNat, u.toNat)]) → S' c = some (.lst (heldB (bs ++ [(n.toNat, u.toNat)]))) → (∀ b o, b ≠ p' → b ≠ q' → b ≠ c → b ≠ p → S16 b = some o → S' b = some o) → ∃ bs0' bs1', Two mg S' p a0 p0 q0 c0 a1 p1 q1 c1 bs0' bs1' ∧ bs0'.length ≤ m + 1 ∧ bs1'.length ≤ m + 1 :=
          fun S' h1 h2 h3 h4 => go S' _ h1 h2 h3 f4' (by omega) h4
        generalize bs ++ [(n.toNat, u.toNat)] = bs' at *
        have lh' : (heldB bs').length = bs'.length := by unfold heldB; rw [List.length_map, List.length_range]
        have sz := sizeLine_eq
        refine ⟨⟨_, rfl⟩, by omega, by omega, by omega, by omega, by omega, ?_⟩
        rw [if_neg (by rw [lh', lb']; simp)]
        have p20 : Pot S20 p := by obtain ⟨x, y, ep, px⟩ := p19; exact ⟨x, y, (k20 _ pp' pq').trans ep, px⟩
        have k21 : ∀ b o, b ≠ p' → b ≠ q' → b ≠ c → b ≠ p → S16 b = some o → supd S20 c (SO.lst (heldB bs')) b = some o := fun b o h1 h2 h3 h4 e => by
          rw [supd_ne h3, k20 b h1 h2, kp b h4]; exact e
        have B21 : BoxesAt mg (supd S20 c (SO.lst (heldB bs'))) a p' q' bs' := B20.keep (supd_ne ac) (supd_ne cp.symm) (supd_ne cq.symm)
        have p21 : Pot (supd S20 c (SO.lst (heldB bs'))) p := by obtain ⟨x, y, ep, px⟩ := p20; exact ⟨x, y, by rw [supd_ne pc]; exact ep, px⟩
        have D21 : supd S20 c (SO.lst (heldB bs')) c = some (SO.lst (heldB bs')) := supd_same
        generalize supd S20 c (SO.lst (heldB bs')) = S21 at B21 p21 D21 k21
        rw [mHold_e]
        simp?! only [ea, B21.ob, sp_Boxes_held]
        refine ⟨p', q', bs', B21, by omega, fun r S22 r1 r2 r3 => ?_⟩
        have k22 : ∀ b o, S21 b = some o → S22 b = some o := fun b o e => by rw [r3 b (fun z => by rw [z, r1] at e; cases e)]; exact e
        have D22 := k22 _ _ D21
        have v1 : rsv S22 (.ref r) = .lst (heldB bs') := by simp only [rsv, r2]
        have v2 : rsv S22 (.ref c) = .lst (heldB bs') := by simp only [rsv, D22]
        have v3 : rsv S22 (.lst (heldB bs)) = .lst (heldB bs) := rfl
        simp?! only [r2, v1, v2, v3, ec]
        have t1 : tyn (D.ref r) S22 = "list" := by simp only [tyn, r2]
        rw [t1]
        refine ⟨by decide, ?_⟩
        rw [if_neg (by decide)]
        refine ⟨held_fit f4' (by omega), held_fit f4' (by omega), held_fit f4 (by omega), ?_⟩
        rw [if_neg (by simp [rsv])]
        rw [mHold_e]
        simp?! only [r2, lh']
        have ix0 : ixN (heldB bs' ++ [D.non]).length 0 = some 0 := by
          rw [List.length_append, List.length_singleton]
          unfold ixN
          simp
        rw [ix0]
        refine ⟨⟨_, rfl⟩, by omega, ⟨_, _, _, _, _, _, _, _, _, rfl⟩, ?_⟩
        have nr : ∀ {b o}, S21 b = some o → b ≠ r := fun {b o} e z => by rw [z, r1] at e; cases e
        have k23 : ∀ b o, S21 b = some o → supd S22 r (SO.lst ((heldB bs' ++ [D.non]).set 0 D.non)) b = some o := fun b o e => by
          rw [supd_ne (nr e)]; exact k22 b o e
        refine go' _ ?_ ⟨k23 _ _ B21.ob, k23 _ _ B21.nu, k23 _ _ B21.wo, B21.ne⟩ (k23 _ _ D21) fun b o h1 h2 h3 h4 e => k23 b o (k21 b o h1 h2 h3 h4 e)
        obtain ⟨x, y, ep, px⟩ := p21
        exact ⟨x, y, k23 _ _ ep, px⟩
      · obtain ⟨⟨z1, z5, z6, z7, z8, z9, z10, z11, z12, rfl⟩, bs0, bs1, T, l0, l1⟩ := h
        walk_at "VX"
        rw [mHold_e]
        simp?! only [T.b0.ob, sp_Boxes_held]
        have m41 : (1 + r).toNat ≤ 40 := by omega
        refine ⟨p0, q0, bs0, T.b0, by omega, fun r S8 r1 r2 r3 => ?_⟩
        rw [r2]
        walk_at "VX"
        intro S9 r4 r5
        obtain rfl := frz_same r1 r3 r4 r5
        simp?! only [T.b1.ob]
        refine ⟨p1, q1, bs1, T.b1, by omega, fun r S10 r1 r2 r3 => ?_⟩
        rw [r2]
        walk_at "VX"
        intro S11 r4 r5
        obtain rfl := frz_same r1 r3 r4 r5
        have e1 : rsd S11 (D.lst [D.lst (heldB bs0), D.lst (heldB bs1)]) = D.lst [D.lst (heldB bs0), D.lst (heldB bs1)] := rfl
        have e2 : rsd S11 (D.lst [D.ref c0, D.ref c1]) = D.lst [D.lst (heldB bs0), D.lst (heldB bs1)] := by
          simp only [rsd, List.map_cons, List.map_nil, rsv, T.d0, T.d1]
        have ok : okq S11 (D.lst [D.lst (heldB bs0), D.lst (heldB bs1)]) := okq_lay (by simp only [layD, layL, held_lay, Bool.and_true]) (by
          have h0 := (held_all T.f0 (by omega)).row.2.2
          have h1 := (held_all T.f1 (by omega)).row.2.2
          simp only [dep, depL]
          omega)
        rw [e1, e2]
        refine ⟨ok, ok, ?_⟩
        have q1 : PyData.eqv (py (D.lst [D.lst (heldB bs0), D.lst (heldB bs1)])) (py (D.lst [D.lst (heldB bs0), D.lst (heldB bs1)])) = true := eqq_self ok
        rw [if_neg (by rw [q1]; decide)]
        exact ⟨_, _, _, _, _, _, _, _, _, _, _, _, rfl⟩
    · walk_at "VX"
      exact fin_same (k _)
  · exact h.elim
end
theorem tx_mk {K : PySem.W.Frag} {w : World} {h : Heap} {mg : Str → Option Value} (X : K.In h) (G : h.Ns mainGlobals mg)
    {cC0 : Addr} (cg0 : PySem.W.nsIn K mainGlobals "Boxes" = some (some (.ref cC0))) (cp0 : PySem.W.plainGet K cC0 Str.empty = true) (ch0 : PySem.W.hasDictIn K cC0 = true) (co0 : PySem.W.plainOver K cC0 = true) (cs0 : PySem.W.findIn K (.ref cC0) "__setattr__" = some (some (.builtin "object.__setattr__"))) (cf0_0 : PySem.W.findIn K (.ref cC0) "numbers_at" = some none) (cf0_1 : PySem.W.findIn K (.ref cC0) "words_at" = some none) (cm0 : PySem.W.makesIn K cC0 = true) (ck0 : PySem.W.keepIn K (.ref cC0) = true)
    {mf0 : Addr} {mc0 mkV0 mdc0 mpm0 mcd0 mct0 : Value} {mod0 man0 : Option Addr} {msl0 : Array (Option Value)} (ma0 : PySem.W.findIn K (.ref cC0) "held" = some (some (.ref mf0))) (mi0 : PySem.W.isFn K (.ref mf0) = true) (ml0 : K.lookup mf0 = some ⟨mc0, mod0, .func (PySem.W.fnOf "held" "Boxes.held" (defArgs s_Boxes_held) (defBody s_Boxes_held) (defScope s_Boxes_held) .none mkV0 mdc0 mpm0 man0 mcd0 mct0), msl0⟩) (mq0 : PySem.W.codeIn K mcd0 "Boxes.held" = true) (mk0 : PySem.W.keepIn K (.ref mf0) = true)
    {mf1 : Addr} {mc1 mkV1 mdc1 mpm1 mcd1 mct1 : Value} {mod1 man1 : Option Addr} {msl1 : Array (Option Value)} (ma1 : PySem.W.findIn K (.ref cC0) "__init__" = some (some (.ref mf1))) (mi1 : PySem.W.isFn K (.ref mf1) = true) (ml1 : K.lookup mf1 = some ⟨mc1, mod1, .func (PySem.W.fnOf "__init__" "Boxes.__init__" (defArgs s_Boxes_init) (defBody s_Boxes_init) (defScope s_Boxes_init) .none mkV1 mdc1 mpm1 man1 mcd1 mct1), msl1⟩) (mq1 : PySem.W.codeIn K mcd1 "Boxes.__init__" = true) (mk1 : PySem.W.keepIn K (.ref mf1) = true)
    {mf2 : Addr} {mc2 mkV2 mdc2 mpm2 mcd2 mct2 : Value} {mod2 man2 : Option Addr} {msl2 : Array (Option Value)} (ma2 : PySem.W.findIn K (.ref cC0) "make" = some (some (.ref mf2))) (mi2 : PySem.W.isFn K (.ref mf2) = true) (ml2 : K.lookup mf2 = some ⟨mc2, mod2, .func (PySem.W.fnOf "make" "Boxes.make" (defArgs s_Boxes_make) (defBody s_Boxes_make) (defScope s_Boxes_make) .none mkV2 mdc2 mpm2 man2 mcd2 mct2), msl2⟩) (mq2 : PySem.W.codeIn K mcd2 "Boxes.make" = true) (mk2 : PySem.W.keepIn K (.ref mf2) = true)
    {f0 : Addr} {oc0 kV0 dc0 pm0 cd0 ct0 : Value} {od0 an0 : Option Addr} {sl0 : Array (Option Value)} (a0 : PySem.W.nsIn K mainGlobals "_law_pot" = some (some (.ref f0))) (l0 : K.lookup f0 = some ⟨oc0, od0, .func (PySem.W.fnOf "_law_pot" "_law_pot" (defArgs s_law_pot) (defBody s_law_pot) (defScope s_law_pot) .none kV0 dc0 pm0 an0 cd0 ct0), sl0⟩) (c0 : PySem.W.codeIn K cd0 "_law_pot" = true) (k0 : PySem.W.keepIn K (.ref f0) = true)
    {f1 : Addr} {oc1 kV1 dc1 pm1 cd1 ct1 : Value} {od1 an1 : Option Addr} {sl1 : Array (Option Value)} (a1 : PySem.W.nsIn K mainGlobals "_law_take" = some (some (.ref f1))) (l1 : K.lookup f1 = some ⟨oc1, od1, .func (PySem.W.fnOf "_law_take" "_law_take" (defArgs s_law_take) (defBody s_law_take) (defScope s_law_take) .none kV1 dc1 pm1 an1 cd1 ct1), sl1⟩) (c1 : PySem.W.codeIn K cd1 "_law_take" = true) (k1 : PySem.W.keepIn K (.ref f1) = true)
    {f2 : Addr} {oc2 kV2 dc2 pm2 cd2 ct2 : Value} {od2 an2 : Option Addr} {sl2 : Array (Option Value)} (a2 : PySem.W.nsIn K mainGlobals "law" = some (some (.ref f2))) (l2 : K.lookup f2 = some ⟨oc2, od2, .func (PySem.W.fnOf "law" "law" (defArgs s_law) (defBody s_law) (defScope s_law) .none kV2 dc2 pm2 an2 cd2 ct2), sl2⟩) (c2 : PySem.W.codeIn K cd2 "law" = true) (k2 : PySem.W.keepIn K (.ref f2) = true)
    (b0 : PySem.W.nsIn K mainGlobals "abs" = some none)
    (b1 : PySem.W.nsIn K mainGlobals "bool" = some none)
    (b2 : PySem.W.nsIn K mainGlobals "isinstance" = some none)
    (b3 : PySem.W.nsIn K mainGlobals "len" = some none)
    (b4 : PySem.W.nsIn K mainGlobals "list" = some none)
    (b5 : PySem.W.nsIn K mainGlobals "max" = some none)
    (b6 : PySem.W.nsIn K mainGlobals "min" = some none)
    (b7 : PySem.W.nsIn K mainGlobals "range" = some none)
    (b8 : PySem.W.nsIn K mainGlobals "repr" = some none)
    (b9 : PySem.W.nsIn K mainGlobals "sorted" = some none)
    (b10 : PySem.W.nsIn K mainGlobals "tuple" = some none) : Tx K w mg :=
  ⟨⟨_, _, _, PySem.W.mg_of X G cg0, ⟨cp0, ch0, co0, cs0⟩, ⟨ma0, mi0, mk0⟩, fun_mk (st := s_Boxes_held) ml0 mq0 mk0⟩, ⟨_, _, _, PySem.W.mg_of X G cg0, ⟨cm0, ma1, mi1, ck0⟩, fun_mk (st := s_Boxes_init) ml1 mq1 mk1⟩, ⟨_, _, _, PySem.W.mg_of X G cg0, ⟨cp0, ch0, co0, cs0⟩, ⟨ma2, mi2, mk2⟩, fun_mk (st := s_Boxes_make) ml2 mq2 mk2⟩, ⟨_, PySem.W.mg_of X G cg0, ⟨cp0, ch0, co0, cs0⟩, (List.forall_mem_cons.mpr ⟨cf0_0, (List.forall_mem_cons.mpr ⟨cf0_1, (fun _ hm => nomatch hm)⟩)⟩)⟩, ⟨_, _, PySem.W.mg_of X G a0, fun_mk (st := s_law_pot) l0 c0 k0⟩, ⟨_, _, PySem.W.mg_of X G a1, fun_mk (st := s_law_take) l1 c1 k1⟩, ⟨_, _, PySem.W.mg_of X G a2, fun_mk (st := s_law) l2 c2 k2⟩, PySem.W.mg_none_of X G b0, PySem.W.mg_none_of X G b1, PySem.W.mg_none_of X G b2, PySem.W.mg_none_of X G b3, PySem.W.mg_none_of X G b4, PySem.W.mg_none_of X G b5, PySem.W.mg_none_of X G b6, PySem.W.mg_none_of X G b7, PySem.W.mg_none_of X G b8, PySem.W.mg_none_of X G b9, PySem.W.mg_none_of X G b10⟩
theorem walk {l : PySem.W.OpenLaw} {q : Program} {loose : List Str} {XP : (Str → Option Value) → Heap → Prop} {YP : World → Heap → Prop} {d : DefRec} {K : Params → PySem.W.Frag} (hn : l.most = some 63) (hdf : d.params.defaults = []) (hd : d.name = "law")
    (hY : ∀ (w : World) (h : Heap), YP w h → (K w.params).In h) (F : ∀ (w : World) (mg : Str → Option Value) (h : Heap), (K w.params).In h → h.Ns mainGlobals mg → Tx (K w.params) w mg) :
    PySem.W.WalkO q loose XP YP l.row.toRowW d [] (fun f vs => PySem.call f vs) :=
  vwalk (n := 63) (k := 3) (x := "_law_script") (sp := sp_law) hn (by decide) hdf ⟨rfl, by decide, by decide⟩ hY (fun w mg h X G base _ _ => by rw [hd]; exact ok_law (F w mg h X G)) law_end
end Lw
open PySem PySem.W PyProof.Rows
set_option maxRecDepth 100000 in
set_option maxHeartbeats 0 in
theorem PySem.Challenge.cw_livepoints_k51_boxes_holds : PySem.Challenge.rw_livepoints_k51_boxes.Holds := by
  w_on; o_law; k_head; (case hw => w_witness2)
  k_fill
  refine Lw.walk (l := PySem.Challenge.rw_livepoints_k51_boxes) rfl rfl rfl (fun w h Y => PySem.W.kIn_of Y) ?F
  case F =>
    intro w mg h KX G
    refine' Lw.tx_mk KX G ?cg0 ?cp0 ?ch0 ?co0 ?cs0 ?cf0_0 ?cf0_1 ?cm0 ?ck0 ?ma0 ?mi0 ?ml0 ?mq0 ?mk0 ?ma1 ?mi1 ?ml1 ?mq1 ?mk1 ?ma2 ?mi2 ?ml2 ?mq2 ?mk2 ?a0 ?l0 ?c0 ?k0 ?a1 ?l1 ?c1 ?k1 ?a2 ?l2 ?c2 ?k2 ?b0 ?b1 ?b2 ?b3 ?b4 ?b5 ?b6 ?b7 ?b8 ?b9 ?b10
    (case cg0 => k_is); (case cp0 => k_is); (case ch0 => k_is); (case co0 => k_is); (case cs0 => k_is); (case cf0_0 => k_is); (case cf0_1 => k_is); (case cm0 => k_is)
    (case ck0 => k_is); (case ma0 => k_is); (case mi0 => k_is); (case ml0 => k_is); (case mq0 => k_is); (case mk0 => k_is); (case ma1 => k_is); (case mi1 => k_is)
    (case ml1 => k_is); (case mq1 => k_is); (case mk1 => k_is); (case ma2 => k_is); (case mi2 => k_is); (case ml2 => k_is); (case mq2 => k_is); (case mk2 => k_is)
    (case a0 => k_is); (case l0 => k_is); (case c0 => k_is); (case k0 => k_is); (case a1 => k_is); (case l1 => k_is); (case c1 => k_is); (case k1 => k_is)
    (case a2 => k_is); (case l2 => k_is); (case c2 => k_is); (case k2 => k_is); (case b0 => k_is); (case b1 => k_is); (case b2 => k_is); (case b3 => k_is)
    (case b4 => k_is); (case b5 => k_is); (case b6 => k_is); (case b7 => k_is); (case b8 => k_is); (case b9 => k_is); (case b10 => k_is)

