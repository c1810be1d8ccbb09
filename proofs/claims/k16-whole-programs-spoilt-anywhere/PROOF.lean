import PyProof.Rows.All
import Wide.All
import OpenK.AllK
import Wide.FinOn
import HandS.ForMost
import HandS.IsInst
import HandS.Wide
import HandS.Strs
import HandS.SetIn
import HandS.More
import HandS.Zip
import HandS.RaiseMore
import HandS.ExcIs
import HandS.ExcOwn
import HandS.WordsExc
import HandS.TryOnly
import KE.KUnpackStar
import KE.GoesMore
import KE.GoesZip
import KE.GoesEnum
import HandS.TupMul
import PyProof.TupleOfStr
import HandS.TupAny
import HandS.TupLe
import HandS.TupSets
import KE.KeyNested
import KE.KDictKeyed
import KE.KDictWalk
import KE.KDictDisplayH
import KE.SortData
import HandS.SetBool
import PyProof.Transfer
import HandS.Deep
import HandS.WideBits
import HandS.Style
import KE.KRevSl
import KE.IntTextLaws
import HandS.Small
import HandS.SetKeys
import HandS.DictComp
import KE.DataMinMax
import HandS.SortKw
import HandS.SortInts
import HandS.SetFor
import HandS.Defaults
import PyProof.EqKinds
import PyProof.NeKinds
import PyProof.Rows.IntBool
import PyProof.TwoTypesSub
import PyProof.ListStr
import KE.RegKIsAll
import KE.RegKTryMore
import PyProof.FactsAll.dict_1
import PyProof.FactsAll.subtypes_3
import PyProof.FactsAll.subtypes_4
import PySem.Challenge.RW_livepoints_k16_whole_programs_spoilt_any
set_option Elab.async false
set_option linter.all false
set_option maxRecDepth 100000
set_option maxHeartbeats 2000000
namespace VL
open PySem PySem.Spec L2
open PyProof.Rows hiding St
/-- a value as data: what never changes by its whole, what may change by its address -/
inductive D where
  | non | bl (b : Bool) | int (i : Int) | str (s : Str)
  | tup (ds : List D) | lst (ds : List D) | ro (ds : List D) | dct (kvs : List (Key × D))
  | ref (a : Addr)
  deriving Inhabited
mutual
/-- the value v is the data d; G: what is frozen -/
inductive Rp (K : PySem.W.Frag) (G : Hp) : V → D → Prop
  | non : Rp K G .non .non
  | bl (b : Bool) : Rp K G (.bl b) (.bl b)
  | int (i : Int) : Rp K G (.int i) (.int i)
  | str (x : Str) : Rp K G (.str x) (.str x)
  | ref (a : Addr) : Rp K G (.ref a) (.ref a)
  | tup {a : Addr} {xs : List V} {ds : List D} (h : SqT K G a xs) (r : RpL K G xs ds) : Rp K G (.ref a) (.tup ds)
  | lst {a : Addr} {xs : List V} {ds : List D} (h : G a = some (.lst xs)) (r : RpL K G xs ds) : Rp K G (.ref a) (.lst ds)
  | ro {a : Addr} {xs : List V} {ds : List D} (h : SqL K G a xs) (r : RpL K G xs ds) : Rp K G (.ref a) (.ro ds)
  | dct {a : Addr} {ob : Obj} {kvs : List (Key × V)} {ds : List (Key × D)} (h : G a = some (.frz ob (.dK kvs))) (r : RpK K G kvs ds) : Rp K G (.ref a) (.dct ds)
inductive RpL (K : PySem.W.Frag) (G : Hp) : List V → List D → Prop
  | nil : RpL K G [] []
  | cons {v : V} {vs : List V} {d : D} {ds : List D} (h : Rp K G v d) (t : RpL K G vs ds) : RpL K G (v :: vs) (d :: ds)
inductive RpK (K : PySem.W.Frag) (G : Hp) : List (Key × V) → List (Key × D) → Prop
  | nil : RpK K G [] []
  | cons {k : Key} {v : V} {vs : List (Key × V)} {d : D} {ds : List (Key × D)} (h : Rp K G v d) (t : RpK K G vs ds) : RpK K G ((k, v) :: vs) ((k, d) :: ds)
end
section
variable {K : PySem.W.Frag} {G G' : Hp}
theorem same_t {a : Addr} {xs : List V} (e : Same G G') (h : SqT K G a xs) : SqT K G' a xs := by
  rcases h with (h | ⟨o, h⟩) | h
  · exact .inl (.inl (e _ _ h))
  · exact .inl (.inr ⟨o, e _ _ h⟩)
  · exact .inr h
mutual
theorem Rp.mono (e : Same G G') : ∀ {v : V} {d : D}, Rp K G v d → Rp K G' v d
  | _, _, .non => .non
  | _, _, .bl b => .bl b
  | _, _, .int i => .int i
  | _, _, .str x => .str x
  | _, _, .ref a => .ref a
  | _, _, .tup h r => .tup (same_t e h) (RpL.mono e r)
  | _, _, .lst h r => .lst (e _ _ h) (RpL.mono e r)
  | _, _, .ro h r => .ro (e.seq h) (RpL.mono e r)
  | _, _, .dct h r => .dct (e _ _ h) (RpK.mono e r)
theorem RpL.mono (e : Same G G') : ∀ {vs : List V} {ds : List D}, RpL K G vs ds → RpL K G' vs ds
  | _, _, .nil => .nil
  | _, _, .cons h t => .cons (Rp.mono e h) (RpL.mono e t)
theorem RpK.mono (e : Same G G') : ∀ {vs : List (Key × V)} {ds : List (Key × D)}, RpK K G vs ds → RpK K G' vs ds
  | _, _, .nil => .nil
  | _, _, .cons h t => .cons (Rp.mono e h) (RpK.mono e t)
end
theorem RpL.length : ∀ {vs : List V} {ds : List D}, RpL K G vs ds → vs.length = ds.length
  | _, _, .nil => rfl
  | _, _, .cons _ t => by simp [t.length]
theorem RpL.get : ∀ {vs : List V} {ds : List D} {i : Nat} {d : D}, RpL K G vs ds → ds[i]? = some d → ∃ v, vs[i]? = some v ∧ Rp K G v d
  | _, _, _, _, .nil, e => by simp at e
  | _, _, 0, _, .cons h _, e => by simp at e; subst e; exact ⟨_, rfl, h⟩
  | _, _, i + 1, d, .cons _ t, e => by
    obtain ⟨u, h1, h2⟩ := t.get (i := i) (d := d) (by simpa using e)
    exact ⟨u, by simpa using h1, h2⟩
theorem RpL.getV : ∀ {vs : List V} {ds : List D} {i : Nat} {v : V}, RpL K G vs ds → vs[i]? = some v → ∃ d, ds[i]? = some d ∧ Rp K G v d
  | _, _, _, _, .nil, e => by simp at e
  | _, _, 0, _, .cons h _, e => by simp at e; subst e; exact ⟨_, rfl, h⟩
  | _, _, i + 1, d, .cons _ t, e => by
    obtain ⟨u, h1, h2⟩ := t.getV (i := i) (v := d) (by simpa using e)
    exact ⟨u, by simpa using h1, h2⟩
theorem RpL.append : ∀ {xs ys : List V} {us ws : List D}, RpL K G xs us → RpL K G ys ws → RpL K G (xs ++ ys) (us ++ ws)
  | _, _, _, _, .nil, s => s
  | _, _, _, _, .cons r t, s => .cons r (RpL.append t s)
theorem RpL.set {x : V} {u : D} (r : Rp K G x u) : ∀ {xs : List V} {us : List D} (i : Nat), RpL K G xs us → RpL K G (xs.set i x) (us.set i u)
  | _, _, _, .nil => .nil
  | _, _, 0, .cons _ t => .cons r t
  | _, _, i + 1, .cons q t => .cons q (RpL.set r i t)
theorem RpL.take : ∀ {xs : List V} {us : List D} (n : Nat), RpL K G xs us → RpL K G (xs.take n) (us.take n)
  | _, _, 0, _ => .nil
  | _, _, _ + 1, .nil => .nil
  | _, _, n + 1, .cons r t => .cons r (RpL.take n t)
theorem RpL.drop : ∀ {xs : List V} {us : List D} (n : Nat), RpL K G xs us → RpL K G (xs.drop n) (us.drop n)
  | _, _, 0, r => r
  | _, _, _ + 1, .nil => .nil
  | _, _, n + 1, .cons _ t => RpL.drop n t
theorem RpL.replicate {x : V} {u : D} (r : Rp K G x u) : ∀ n : Nat, RpL K G (List.replicate n x) (List.replicate n u)
  | 0 => .nil
  | n + 1 => by rw [List.replicate_succ, List.replicate_succ]; exact .cons r (RpL.replicate r n)
end
abbrev NK := PySem.NestedKey
mutual
def keyN : D → Option NK
  | .non => some .none
  | .int i => some (.num i)
  | .str x => some (.text x)
  | .tup ds => (keysN ds).map .tup
  | _ => none
def keysN : List D → Option (List NK)
  | [] => some []
  | d :: ds => match keyN d, keysN ds with
    | some k, some ks => some (k :: ks)
    | _, _ => none
end
mutual
def dOfN : NK → D
  | .none => .non
  | .num i => .int i
  | .text x => .str x
  | .tup ks => .tup (dsOfN ks)
def dsOfN : List NK → List D
  | [] => []
  | k :: ks => dOfN k :: dsOfN ks
end
/-- a dict whose keys are tuples, by its entries -/
def dtPhi (w : World) (p : Addr) (xs : List (NK × Addr × Value)) (h : Heap) : Prop :=
  (p == sysModules) = false ∧ xs.length ≤ sizeLine ∧ (xs.map (·.1)).Nodup ∧ ∃ (o : Obj) (es : Array DictEntry) (ep : Nat), h.get? p = some o ∧ o.ExactDict ∧ o.data = .dict es ep ∧ es.toList = xs.map fun x => (⟨x.1.hash w, .ref x.2.1, x.2.2⟩ : DictEntry)
inductive EntR (K : PySem.W.Frag) (G : Hp) : List (NK × Addr × Value) → List (NK × D) → Prop
  | nil : EntR K G [] []
  | cons {k : NK} {q : Addr} {u : Value} {d : D} {xs : List (NK × Addr × Value)} {kvs : List (NK × D)} (hk : k.depth ≤ 8 ∧ keyN (dOfN k) = some k) (rk : Rp K G (.ref q) (dOfN k)) (rv : ∃ v, RelV v u ∧ Rp K G v d) (t : EntR K G xs kvs) : EntR K G ((k, q, u) :: xs) ((k, d) :: kvs)
theorem EntR.mono {K : PySem.W.Frag} {G G' : Hp} (e : Same G G') : ∀ {xs : List (NK × Addr × Value)} {kvs : List (NK × D)}, EntR K G xs kvs → EntR K G' xs kvs
  | _, _, .nil => .nil
  | _, _, .cons hk rk ⟨v, r1, r2⟩ t => .cons hk (rk.mono e) ⟨v, r1, r2.mono e⟩ (t.mono e)
inductive SO where
  | lst (ds : List D) | dct (kvs : List (Key × D)) | ins (C : Addr) (fs : List (Str × D))
  | dtn (w : World) (p : Addr) (kvs : List (NK × D)) | dtl (w : World) (p : Addr) (kvs : List (NK × D)) | dcl (kvs : List (Key × D))
abbrev Store := Addr → Option SO
def supd (S : Store) (a : Addr) (o : SO) : Store := fun b => if b = a then some o else S b
theorem supd_same {S : Store} {a : Addr} {o : SO} : supd S a o a = some o := by unfold supd; rw [if_pos rfl]
theorem supd_ne {S : Store} {a b : Addr} {o : SO} (h : b ≠ a) : supd S a o b = S b := by unfold supd; rw [if_neg h]
theorem supd_supd {S : Store} {a : Addr} {o u : SO} : supd (supd S a o) a u = supd S a u := by
  funext b; unfold supd; split <;> rfl
inductive RpF (K : PySem.W.Frag) (G : Hp) : List (Str × V) → List (Str × D) → Prop
  | nil : RpF K G [] []
  | cons {k : Str} {v : V} {vs : List (Str × V)} {d : D} {ds : List (Str × D)} (h : Rp K G v d) (t : RpF K G vs ds) : RpF K G ((k, v) :: vs) ((k, d) :: ds)
theorem RpF.mono {K : PySem.W.Frag} {G G' : Hp} (e : Same G G') : ∀ {vs : List (Str × V)} {ds : List (Str × D)}, RpF K G vs ds → RpF K G' vs ds
  | _, _, .nil => .nil
  | _, _, .cons h t => .cons (h.mono e) (RpF.mono e t)
inductive SOk (K : PySem.W.Frag) (G : Hp) : SO → HO → Prop
  | lst {xs : List V} {ds : List D} (r : RpL K G xs ds) : SOk K G (.lst ds) (.lst xs)
  | dct {kvs : List (Key × V)} {ds : List (Key × D)} (r : RpK K G kvs ds) : SOk K G (.dct ds) (.dK kvs)
  | ins {C dx : Addr} {fs : List (Str × V)} {ds : List (Str × D)} (r : RpF K G fs ds) : SOk K G (.ins C ds) (.ins C dx fs)
  | dtn {w : World} {p : Addr} {xs : List (NK × Addr × Value)} {kvs : List (NK × D)} (r : EntR K G xs kvs) : SOk K G (.dtn w p kvs) (.ext (dtPhi w p xs))
  | dtl {w : World} {p : Addr} {ob : Obj} {xs : List (NK × Addr × Value)} {kvs : List (NK × D)} (r : EntR K G xs kvs) : SOk K G (.dtl w p kvs) (.frz ob (.ext (dtPhi w p xs)))
  | dcl {ob : Obj} {kvs : List (Key × V)} {ds : List (Key × D)} (r : RpK K G kvs ds) : SOk K G (.dcl ds) (.frz ob (.dK kvs))
theorem SOk.mono {K : PySem.W.Frag} {G G' : Hp} (e : Same G G') {o : SO} {u : HO} (h : SOk K G o u) : SOk K G' o u := by
  cases h with
  | lst r => exact .lst (r.mono e)
  | dct r => exact .dct (r.mono e)
  | ins r => exact .ins (r.mono e)
  | dtn r => exact .dtn (r.mono e)
  | dtl r => exact .dtl (r.mono e)
  | dcl r => exact .dcl (r.mono e)
/-- the heap H as frozen things G and a store S -/
structure View (K : PySem.W.Frag) (G : Hp) (S : Store) (H : Hp) : Prop where
  gh : Same G H
  st : ∀ a o, S a = some o → G a = none ∧ ∃ u, H a = some u ∧ SOk K G o u
/-- from (G, S, H) to (G', S', H') -/
structure Aft (K : PySem.W.Frag) (G : Hp) (S : Store) (H : Hp) (S' : Store) (H' : Hp) (G' : Hp) : Prop where
  fr : ∀ a o, S a = none → H a = some o → H' a = some o ∧ S' a = none ∧ G' a = G a
  gg : Same G G'
  vw : View K G' S' H'
section
variable {K : PySem.W.Frag} {G G1 G2 : Hp} {S S1 S2 : Store} {H H1 H2 : Hp}
theorem Aft.refl (v : View K G S H) : Aft K G S H S H G := ⟨fun _ _ h e => ⟨e, h, rfl⟩, Same.refl G, v⟩
theorem Aft.trans (a : Aft K G S H S1 H1 G1) (b : Aft K G1 S1 H1 S2 H2 G2) : Aft K G S H S2 H2 G2 :=
  ⟨fun x o h e => let ⟨e1, h1, g1⟩ := a.fr x o h e; let ⟨e2, h2, g2⟩ := b.fr x o h1 e1; ⟨e2, h2, g2.trans g1⟩, a.gg.trans b.gg, b.vw⟩
theorem View.none (v : View K G S H) {a : Addr} (h : H a = none) : G a = none ∧ S a = none := by
  constructor
  · cases e : G a with
    | none => rfl
    | some o => have := v.gh a o e; rw [h] at this; cases this
  · cases e : S a with
    | none => rfl
    | some o => obtain ⟨_, u, hu, _⟩ := v.st a o e; rw [h] at hu; cases hu
/-- a thing that nobody tells of is laid, or changed -/
theorem Aft.junk (x : Aft K G S H S1 H1 G1) {a : Addr} {u : HO} (h : H a = Option.none) (hs : S1 a = Option.none) (hg : G1 a = Option.none) : Aft K G S H S1 (upd H1 a u) G1 := by
  refine ⟨fun b o hb e => ?_, x.gg, ⟨fun b o e => ?_, fun b o e => ?_⟩⟩
  · obtain ⟨e1, h1, g1⟩ := x.fr b o hb e
    exact ⟨by rw [upd_ne (ne_of_none e h)]; exact e1, h1, g1⟩
  · have hb : b ≠ a := by intro z; subst z; rw [hg] at e; cases e
    rw [upd_ne hb]; exact x.vw.gh b o e
  · have hb : b ≠ a := by intro z; subst z; rw [hs] at e; cases e
    obtain ⟨g, w, hw, k⟩ := x.vw.st b o e
    exact ⟨g, w, by rw [upd_ne hb]; exact hw, k⟩
/-- a new frozen thing -/
theorem View.froze (v : View K G S H) {a : Addr} {o : HO} (h : H a = Option.none) : Aft K G S H S (upd H a o) (upd G a o) := by
  have n := v.none h
  refine ⟨fun b u hs e => ⟨by rw [upd_ne (ne_of_none e h)]; exact e, hs, by rw [upd_ne (ne_of_none e h)]⟩, fun b u e => by rw [upd_ne (ne_of_none e n.1)]; exact e, ⟨fun b u e => ?_, fun b u e => ?_⟩⟩
  · by_cases hb : b = a
    · subst hb; rw [upd_same] at e ⊢; exact e
    · rw [upd_ne hb] at e ⊢; exact v.gh b u e
  · obtain ⟨g, x, hx, k⟩ := v.st b u e
    have hb : b ≠ a := by intro z; subst z; rw [n.2] at e; cases e
    refine ⟨by rw [upd_ne hb]; exact g, x, by rw [upd_ne hb]; exact hx, k.mono fun c w e => by rw [upd_ne (ne_of_none e n.1)]; exact e⟩
/-- a new thing of the store -/
theorem View.stored (v : View K G S H) {a : Addr} {o : SO} {u : HO} (h : H a = Option.none) (k : SOk K G o u) : Aft K G S H (supd S a o) (upd H a u) G := by
  have n := v.none h
  refine ⟨fun b x hs e => ?_, Same.refl G, ⟨fun b x e => ?_, fun b x e => ?_⟩⟩
  · have hb := ne_of_none e h
    exact ⟨by rw [upd_ne hb]; exact e, by rw [supd_ne hb]; exact hs, rfl⟩
  · have hb : b ≠ a := by intro z; subst z; rw [n.1] at e; cases e
    rw [upd_ne hb]; exact v.gh b x e
  · by_cases hb : b = a
    · subst hb; rw [supd_same] at e; cases e; exact ⟨n.1, u, upd_same, k⟩
    · rw [supd_ne hb] at e
      obtain ⟨g, x, hx, k⟩ := v.st b _ e
      exact ⟨g, x, by rw [upd_ne hb]; exact hx, k⟩
/-- a thing of the store is changed -/
theorem View.wrote (v : View K G S H) {a : Addr} {o o' : SO} {u : HO} (h : S a = some o) (k : SOk K G o' u) : Aft K G S H (supd S a o') (upd H a u) G := by
  obtain ⟨g, _⟩ := v.st a o h
  refine ⟨fun b x hs e => ?_, Same.refl G, ⟨fun b x e => ?_, fun b x e => ?_⟩⟩
  · have hb : b ≠ a := by intro z; subst z; rw [h] at hs; cases hs
    exact ⟨by rw [upd_ne hb]; exact e, by rw [supd_ne hb]; exact hs, rfl⟩
  · have hb : b ≠ a := by intro z; subst z; rw [g] at e; cases e
    rw [upd_ne hb]; exact v.gh b x e
  · by_cases hb : b = a
    · subst hb; rw [supd_same] at e; cases e; exact ⟨g, u, upd_same, k⟩
    · rw [supd_ne hb] at e
      obtain ⟨g, x, hx, k⟩ := v.st b _ e
      exact ⟨g, x, by rw [upd_ne hb]; exact hx, k⟩
/-- nothing of the store, but a smaller part of it is told -/
theorem View.drops (v : View K G S H) (h : ∀ a o, S1 a = some o → S a = some o) : Aft K G S H S1 H G := by
  refine ⟨fun b x hs e => ⟨e, ?_, rfl⟩, Same.refl G, ⟨v.gh, fun b x e => v.st b x (h b x e)⟩⟩
  cases q : S1 b with
  | none => rfl
  | some o => rw [h b o q] at hs; cases hs
/-- a thing of the store is frozen -/
theorem View.freezes (v : View K G S H) {a : Addr} {o : SO} {u : HO} (h : S a = some o) (hu : H a = some u) (hn : S1 a = Option.none) (hs : ∀ b x, S1 b = some x → S b = some x) : Aft K G S H S1 H (upd G a u) := by
  obtain ⟨g, _⟩ := v.st a o h
  have gg : Same G (upd G a u) := fun c w e => by rw [upd_ne (ne_of_none e g)]; exact e
  refine ⟨fun b x hS e => ⟨e, ?_, by rw [upd_ne (show b ≠ a from fun z => by subst z; rw [h] at hS; cases hS)]⟩, gg, ⟨fun b x e => ?_, fun b x e => ?_⟩⟩
  · cases q : S1 b with
    | none => rfl
    | some o => rw [hs b o q] at hS; cases hS
  · by_cases hb : b = a
    · subst hb; rw [upd_same] at e; cases e; exact hu
    · rw [upd_ne hb] at e; exact v.gh b x e
  · have hb : b ≠ a := by intro z; subst z; rw [hn] at e; cases e
    obtain ⟨g, x, hx, k⟩ := v.st b _ (hs b _ e)
    exact ⟨by rw [upd_ne hb]; exact g, x, hx, k.mono gg⟩
end
abbrev Sl := List (Option D)
def REnv (K : PySem.W.Frag) (G : Hp) (σ : St) (ρ : Sl) : Prop := σ.length = ρ.length ∧ ∀ (i : Nat) (d : D), ρ[i]? = some (some d) → ∃ v, σ[i]? = some (some v) ∧ Rp K G v d
section
variable {K : PySem.W.Frag} {G G' : Hp} {σ : St} {ρ : Sl}
theorem REnv.mono (e : Same G G') (r : REnv K G σ ρ) : REnv K G' σ ρ := ⟨r.1, fun i d h => let ⟨v, h1, h2⟩ := r.2 i d h; ⟨v, h1, h2.mono e⟩⟩
theorem REnv.set {i : Nat} {v : V} {d : D} (r : REnv K G σ ρ) (h : Rp K G v d) : REnv K G (σ.set i (some v)) (ρ.set i (some d)) := by
  refine ⟨by rw [List.length_set, List.length_set]; exact r.1, fun j e hj => ?_⟩
  by_cases hi : i = j
  · subst hi
    rw [List.getElem?_set] at hj ⊢
    simp only [if_pos] at hj ⊢
    by_cases hl : i < ρ.length
    · rw [if_pos hl] at hj
      rw [if_pos (by rw [r.1]; exact hl)]
      cases hj
      exact ⟨v, rfl, h⟩
    · rw [if_neg hl] at hj; cases hj
  · rw [List.getElem?_set_ne hi] at hj ⊢
    exact r.2 j e hj
theorem REnv.unset {i : Nat} (r : REnv K G σ ρ) : REnv K G (σ.set i none) (ρ.set i none) := by
  refine ⟨by rw [List.length_set, List.length_set]; exact r.1, fun j e hj => ?_⟩
  by_cases hi : i = j
  · subst hi
    rw [List.getElem?_set] at hj
    simp only [if_pos] at hj
    split at hj <;> cases hj
  · rw [List.getElem?_set_ne hi] at hj ⊢
    exact r.2 j e hj
def wipeD (ρ : Sl) : List Nat → Sl
  | [] => ρ
  | v :: vs => (wipeD ρ vs).set v none
theorem REnv.wipe (r : REnv K G σ ρ) : ∀ vs : List Nat, REnv K G (L2.wipe σ vs) (wipeD ρ vs)
  | [] => r
  | v :: vs => (r.wipe vs).unset
def setAll (σ : List (Option α)) : List Nat → List α → List (Option α)
  | i :: is, d :: ds => setAll (σ.set i (some d)) is ds
  | _, _ => σ
theorem REnv.setAll : ∀ {is : List Nat} {vs : List V} {ds : List D} {σ : St} {ρ : Sl}, REnv K G σ ρ → RpL K G vs ds → REnv K G (VL.setAll σ is vs) (VL.setAll ρ is ds)
  | [], _, _, _, _, r, .nil => r
  | [], _, _, _, _, r, .cons _ _ => r
  | _ :: _, _, _, _, _, r, .nil => r
  | i :: is, _, _, _, _, r, .cons h t => (REnv.setAll (is := is) (r.set h) t)
/-- what stands in a slot -/
def gv : Sl → Nat → Option D
  | [], _ => none
  | x :: _, 0 => x
  | _ :: r, n + 1 => gv r n
theorem gv_eq : ∀ {ρ : Sl} {i : Nat} {d : D}, gv ρ i = some d → ρ[i]? = some (some d)
  | [], _, _, h => by simp [gv] at h
  | x :: r, 0, d, h => by simp only [gv] at h; simp [h]
  | x :: r, n + 1, d, h => by simp only [gv] at h; simpa using gv_eq h
end
abbrev VE := Sl → Store → (D → Store → Prop) → Prop
abbrev VT := Sl → Store → (Bool → Store → Prop) → Prop
abbrev VA := Sl → Store → (List D → Store → Prop) → Prop
structure VEnds where
  nx : Sl → Store → Prop
  rt : D → Store → Prop
  bk : Sl → Store → Prop := fun _ _ => False
  ct : Sl → Store → Prop := fun _ _ => False
abbrev VS := VEnds → Sl → Store → Prop
def LE (K : PySem.W.Frag) (m : VE) : TE := fun σ H Q' => ∃ ρ S G Q, View K G S H ∧ REnv K G σ ρ ∧ m ρ S Q ∧ ∀ d S' v H' G', Aft K G S H S' H' G' → Rp K G' v d → Q d S' → Q' v H'
def LT (K : PySem.W.Frag) (m : VT) : TT := fun σ H Q' => ∃ ρ S G Q, View K G S H ∧ REnv K G σ ρ ∧ m ρ S Q ∧ ∀ b S' H' G', Aft K G S H S' H' G' → Q b S' → Q' b H'
def LA (K : PySem.W.Frag) (m : VA) : TA := fun σ H Q' => ∃ ρ S G Q, View K G S H ∧ REnv K G σ ρ ∧ m ρ S Q ∧ ∀ ds S' vs H' G', Aft K G S H S' H' G' → RpL K G' vs ds → Q ds S' → Q' vs H'
structure EndsOk (K : PySem.W.Frag) (G : Hp) (S : Store) (H : Hp) (E : VEnds) (D' : Ends) : Prop where
  nx : ∀ ρ S' σ H' G', Aft K G S H S' H' G' → REnv K G' σ ρ → E.nx ρ S' → D'.nx σ H'
  rt : ∀ d S' v H' G', Aft K G S H S' H' G' → Rp K G' v d → E.rt d S' → D'.rt v H'
  bk : ∀ ρ S' σ H' G', Aft K G S H S' H' G' → REnv K G' σ ρ → E.bk ρ S' → D'.bk σ H'
  ct : ∀ ρ S' σ H' G', Aft K G S H S' H' G' → REnv K G' σ ρ → E.ct ρ S' → D'.ct σ H'
theorem EndsOk.after {K : PySem.W.Frag} {G : Hp} {S : Store} {H : Hp} {E : VEnds} {D' : Ends} {S1 : Store} {H1 G1 : Hp} (o : EndsOk K G S H E D') (a : Aft K G S H S1 H1 G1) : EndsOk K G1 S1 H1 E D' :=
  ⟨fun _ _ _ _ _ b => o.nx _ _ _ _ _ (a.trans b), fun _ _ _ _ _ b => o.rt _ _ _ _ _ (a.trans b), fun _ _ _ _ _ b => o.bk _ _ _ _ _ (a.trans b), fun _ _ _ _ _ b => o.ct _ _ _ _ _ (a.trans b)⟩
def LS (K : PySem.W.Frag) (m : VS) : TS := fun D' σ H => ∃ ρ S G E, View K G S H ∧ REnv K G σ ρ ∧ m E ρ S ∧ EndsOk K G S H E D'
section
variable {X : Cx}
theorem PE.imp {e : Expr} {t t' : TE} (h : PE X e t) (i : ∀ σ H Q, t' σ H Q → t σ H Q) : PE X e t' := ⟨fun pins s σ H Q I q => h.run pins s σ H Q I (i σ H Q q)⟩
theorem PT.imp {e : Expr} {t t' : TT} (h : PT X e t) (i : ∀ σ H Q, t' σ H Q → t σ H Q) : PT X e t' := ⟨fun pins s σ H Q I q => h.run pins s σ H Q I (i σ H Q q)⟩
theorem PW.imp {e : Expr} {t t' : TT} (h : PW X e t) (i : ∀ σ H Q, t' σ H Q → t σ H Q) : PW X e t' := ⟨fun w pins s σ H Q I q => h.run w pins s σ H Q I (i σ H Q q)⟩
theorem PA.imp {e : List Expr} {t t' : TA} (h : PA X e t) (i : ∀ σ H Q, t' σ H Q → t σ H Q) : PA X e t' := ⟨fun p pins s σ H Q I q => h.run p pins s σ H Q I (i σ H Q q)⟩
theorem PS.imp {e : Stmt} {t t' : TS} (h : PS X e t) (i : ∀ D σ H, t' D σ H → t D σ H) : PS X e t' := ⟨fun pins s σ H D I q => h.run pins s σ H D I (i D σ H q)⟩
theorem PSs.imp {e : List Stmt} {t t' : TS} (h : PSs X e t) (i : ∀ D σ H, t' D σ H → t D σ H) : PSs X e t' := ⟨fun pins s σ H D I q => h.run pins s σ H D I (i D σ H q)⟩
end
end VL
set_option maxHeartbeats 2000000
namespace VL
open PySem PySem.Spec L2
open PyProof.Rows hiding St
section
variable {X : Cx}
def mVar (i : Nat) : VE := fun ρ S Q => match gv ρ i with
  | some d => Q d S
  | none => False
theorem v_var (i : Nat) {x : Str} {pos : Pos} (hN : X.N[i]? = some x := by rfl) (hv : Vis X.env.scope x := by first | exact Or.inl rfl | exact Or.inr (Or.inl rfl) | exact Or.inr (Or.inr rfl)) (hd : (x == ("__debug__" : Str)) = false := by decide)
    (hcd : (x == ("__classdict__" : Str)) = false := by decide) : PE X (.Name x pos) (LE X.K (mVar i)) := by
  refine PE.imp (pe_var hN hv hd hcd) fun σ H Q' ⟨ρ, S, G, Q, vw, re, hm, k⟩ => ?_
  unfold mVar at hm
  cases e : gv ρ i with
  | none => rw [e] at hm; exact hm.elim
  | some d =>
    rw [e] at hm
    obtain ⟨v, hv, r⟩ := re.2 i d (gv_eq e)
    exact ⟨v, hv, k d S v H G (Aft.refl vw) r hm⟩
def mC (d : D) : VE := fun _ S Q => Q d S
theorem v_c {e : Expr} {v : V} {d : D} (h : PE X e (tC v)) (r : ∀ G, Rp X.K G v d) : PE X e (LE X.K (mC d)) :=
  PE.imp h fun σ H Q' ⟨ρ, S, G, Q, vw, re, hm, k⟩ => k d S v H G (Aft.refl vw) (r G) hm
theorem v_int {i j pos} : PE X (.Constant (.int i) j pos) (LE X.K (mC (.int i))) := v_c pe_int fun _ => .int i
theorem v_bl {b j pos} : PE X (.Constant (.bool b) j pos) (LE X.K (mC (.bl b))) := v_c pe_bl fun _ => .bl b
theorem v_non {j pos} : PE X (.Constant .none j pos) (LE X.K (mC .non)) := v_c pe_non fun _ => .non
theorem v_str {x j pos} : PE X (.Constant (.str x) j pos) (LE X.K (mC (.str x))) := v_c pe_str fun _ => .str x
abbrev R2V := D → D → Store → (D → Store → Prop) → Prop
def LR2 (K : PySem.W.Frag) (r : R2) (m : R2V) : Prop := ∀ (x y : D) (v1 v2 : V) (G : Hp) (S : Store) (H : Hp) (Q : D → Store → Prop) (Q' : VK), View K G S H → Rp K G v1 x → Rp K G v2 y → m x y S Q →
  (∀ d S' v H' G', Aft K G S H S' H' G' → Rp K G' v d → Q d S' → Q' v H') → r v1 v2 H Q'
def OpV (X : Cx) (f : Value → Value → Sem Value) (m : R2V) : Prop := ∃ r, OpR X f r ∧ LR2 X.K r m
def mOp (m : R2V) (ma mb : VE) : VE := fun ρ S Q => ma ρ S fun x S1 => mb ρ S1 fun y S2 => m x y S2 Q
theorem le_op {K : PySem.W.Frag} {r : R2} {m : R2V} {ma mb : VE} (h : LR2 K r m) (σ : St) (H : Hp) (Q' : VK) (q : LE K (mOp m ma mb) σ H Q') : tOp r (LE K ma) (LE K mb) σ H Q' := by
  obtain ⟨ρ, S, G, Q, vw, re, hm, k⟩ := q
  refine ⟨ρ, S, G, _, vw, re, hm, fun x S1 v1 H1 G1 a1 r1 h1 => ?_⟩
  refine ⟨ρ, S1, G1, _, a1.vw, re.mono a1.gg, h1, fun y S2 v2 H2 G2 a2 r2 h2 => ?_⟩
  exact h x y v1 v2 G2 S2 H2 Q Q' a2.vw (r1.mono a2.gg) r2 h2 fun d S' v H' G' a3 r3 q => k d S' v H' G' (a1.trans (a2.trans a3)) r3 q
theorem v_op {op : Operator} {m : R2V} {a b : Expr} {ma mb : VE} {pos : Pos} (ho : OpV X (binaryOp op) m) (ha : PE X a (LE X.K ma)) (hb : PE X b (LE X.K mb)) : PE X (.BinOp a op b pos) (LE X.K (mOp m ma mb)) := by
  obtain ⟨r, h1, h2⟩ := ho
  exact PE.imp (pe_op h1 ha hb) fun σ H Q' q => le_op h2 σ H Q' q
theorem v_cmp {op : CmpOp} {m : R2V} {a b : Expr} {ma mb : VE} {pos : Pos} (ho : OpV X (compareOp op) m) (ha : PE X a (LE X.K ma)) (hb : PE X b (LE X.K mb)) (hm : behindInMarks op b = false := by first | exact nomark _ | rfl) : PE X (.Compare a [op] [b] pos) (LE X.K (mOp m ma mb)) := by
  obtain ⟨r, h1, h2⟩ := ho
  exact PE.imp (pe_cmpR h1 ha hb hm) fun σ H Q' q => le_op h2 σ H Q' q
theorem v_ix {m : R2V} {r : R2} {a b : Expr} {ma mb : VE} {pos : Pos} (h1 : IxR X r) (h2 : LR2 X.K r m) (ha : PE X a (LE X.K ma)) (hb : PE X b (LE X.K mb)) (hs : PlainIx b := by exact fun _ _ => rfl) : PE X (.Subscript a b pos) (LE X.K (mOp m ma mb)) :=
  PE.imp (pe_ix h1 ha hb hs) fun σ H Q' q => le_op h2 σ H Q' q
/-- two ints, under C -/
def mNum (C : Int → Int → Prop) (g : Int → Int → D) : R2V := fun x y S Q => match x, y with
  | .int i, .int j => C i j ∧ Q (g i j) S
  | _, _ => False
theorem LR2.num {K : PySem.W.Frag} {C : Int → Int → Prop} {g : Int → Int → V} {g' : Int → Int → D} (hg : ∀ i j G, Rp K G (g i j) (g' i j)) : LR2 K (rI C g) (mNum C g') := by
  intro x y v1 v2 G S H Q Q' vw r1 r2 h k
  cases r1 <;> try exact h.elim
  cases r2 <;> try exact h.elim
  rename_i i j
  exact ⟨i, j, rfl, rfl, h.1, k _ S _ H G (Aft.refl vw) (hg i j G) h.2⟩
theorem rI_of0 {f : Value → Value → Sem Value} {g : Int → Int → V} (h : OpR X f (rI0 g)) : OpR X f (rI (fun _ _ => True) g) := fun pins s σ H x y v u Q I r1 r2 ⟨i, j, e1, e2, _, q⟩ => h pins s σ H x y v u Q I r1 r2 ⟨i, j, e1, e2, q⟩
def mInt0 (g : Int → Int → D) : R2V := fun x y S Q => match x, y with
  | .int i, .int j => Q (g i j) S
  | _, _ => False
theorem LR2.int0 {K : PySem.W.Frag} {g : Int → Int → V} {g' : Int → Int → D} (hg : ∀ i j G, Rp K G (g i j) (g' i j)) : LR2 K (rI0 g) (mInt0 g') := by
  intro x y v1 v2 G S H Q Q' vw r1 r2 h k
  cases r1 <;> try exact h.elim
  cases r2 <;> try exact h.elim
  rename_i i j
  exact ⟨i, j, rfl, rfl, k _ S _ H G (Aft.refl vw) (hg i j G) h⟩
theorem ov_sub : OpV X (binaryOp .Sub) (mInt0 fun i j => .int (i - j)) := ⟨_, op_sub, .int0 fun _ _ _ => .int _⟩
theorem ov_fdiv : OpV X (binaryOp .FloorDiv) (mNum CDivW fun i j => .int (i / j)) := ⟨_, op_fdivW, .num fun _ _ _ => .int _⟩
theorem ov_mod : OpV X (binaryOp .Mod) (mNum (fun _ j => 0 < j) fun i j => .int (i % j)) := ⟨_, op_mod, .num fun _ _ _ => .int _⟩
theorem ov_pow : OpV X (binaryOp .Pow) (mNum CPow fun i j => .int (i ^ j.toNat)) := ⟨_, op_pow, .num fun _ _ _ => .int _⟩
theorem ov_lt : OpV X (compareOp .Lt) (mInt0 fun i j => .bl (decide (i < j))) := ⟨_, op_lt, .int0 fun _ _ _ => .bl _⟩
theorem ov_le : OpV X (compareOp .LtE) (mInt0 fun i j => .bl (decide (i ≤ j))) := ⟨_, op_le, .int0 fun _ _ _ => .bl _⟩
theorem ov_gt : OpV X (compareOp .Gt) (mInt0 fun i j => .bl (decide (j < i))) := ⟨_, op_gt, .int0 fun _ _ _ => .bl _⟩
theorem ov_ge : OpV X (compareOp .GtE) (mInt0 fun i j => .bl (decide (j ≤ i))) := ⟨_, op_ge, .int0 fun _ _ _ => .bl _⟩
/-- a list, frozen or of the store -/
def rdL (d : D) (S : Store) : Option (List D) := match d with
  | .lst ds => some ds
  | .ref a => match S a with
    | some (.lst ds) => some ds
    | _ => none
  | _ => none
theorem rdL_ok {K : PySem.W.Frag} {G H : Hp} {S : Store} {d : D} {v : V} {ds : List D} (vw : View K G S H) (r : Rp K G v d) (h : rdL d S = some ds) : ∃ a xs, v = .ref a ∧ H a = some (.lst xs) ∧ RpL K G xs ds := by
  cases r with
  | lst e r => simp only [rdL, Option.some.injEq] at h; subst h; exact ⟨_, _, rfl, vw.gh _ _ e, r⟩
  | ref a =>
    simp only [rdL] at h
    split at h
    · rename_i ds' e
      cases h
      obtain ⟨_, u, hu, k⟩ := vw.st a _ e
      cases k with
      | lst r => exact ⟨a, _, rfl, hu, r⟩
    · cases h
  | _ => simp [rdL] at h
/-- a list or a read-only one -/
def rdR (d : D) (S : Store) : Option (List D) := match d with
  | .ro ds => some ds
  | d => rdL d S
theorem rdR_ok {K : PySem.W.Frag} {G H : Hp} {S : Store} {d : D} {v : V} {ds : List D} (vw : View K G S H) (r : Rp K G v d) (h : rdR d S = some ds) : ∃ a xs, v = .ref a ∧ SqL K H a xs ∧ RpL K G xs ds := by
  have main : ∀ {d : D}, Rp K G v d → rdL d S = some ds → ∃ a xs, v = .ref a ∧ SqL K H a xs ∧ RpL K G xs ds := fun r h => by
    obtain ⟨a, xs, e, q, l⟩ := rdL_ok vw r h
    exact ⟨a, xs, e, SqL.of q, l⟩
  cases r with
  | ro e r => simp only [rdR, Option.some.injEq] at h; subst h; exact ⟨_, _, rfl, vw.gh.seq e, r⟩
  | non => exact main .non h
  | bl b => exact main (.bl b) h
  | int i => exact main (.int i) h
  | str x => exact main (.str x) h
  | ref a => exact main (.ref a) h
  | tup e r => exact main (.tup e r) h
  | lst e r => exact main (.lst e r) h
  | dct e r => exact main (.dct e r) h
/-- a + b: ints, texts, tuples, lists (a new frozen list) -/
def mAdd : R2V := fun x y S Q => match x, y with
  | .int i, .int j => Q (.int (i + j)) S
  | .str i, .str j => i.length + j.length ≤ sizeLine ∧ Q (.str (i ++ j)) S
  | .tup a, .tup b => a.length + b.length ≤ sizeLine ∧ Q (.tup (a ++ b)) S
  | x, y => match rdL x S, rdL y S with
    | some a, some b => a.length + b.length ≤ sizeLine ∧ Q (.lst (a ++ b)) S
    | _, _ => False
end
end VL
set_option maxHeartbeats 2000000
namespace VL
open PySem PySem.Spec L2
open PyProof.Rows hiding St
section
variable {X : Cx}
theorem ov_add : OpV X (binaryOp .Add) mAdd := by
  refine ⟨_, (rI_of0 op_add).or (op_add_str.or (op_catA.or op_cat)), ?_⟩
  intro x y v1 v2 G S H Q Q' vw r1 r2 h k
  unfold mAdd at h
  split at h
  · cases r1; cases r2
    exact .inl ⟨_, _, rfl, rfl, trivial, k _ S _ H G (Aft.refl vw) (.int _) h⟩
  · cases r1; cases r2
    exact .inr (.inl ⟨_, _, rfl, rfl, h.1, k _ S _ H G (Aft.refl vw) (.str _) h.2⟩)
  · cases r1 with
    | @tup a xs _ e1 l1 =>
    cases r2 with
    | @tup b ys _ e2 l2 =>
    obtain ⟨hz, q⟩ := h
    refine .inr (.inr (.inl ⟨a, b, xs, ys, rfl, rfl, same_t vw.gh e1, same_t vw.gh e2, by rw [l1.length, l2.length]; exact hz, fun z => ?_, fun n z => ?_, fun _ _ p hp => ?_⟩))
    · subst z; cases l1; exact k _ S _ H G (Aft.refl vw) (.tup e2 l2) q
    · subst z; cases l2; exact k _ S _ H G (Aft.refl vw) (.tup e1 (by simpa using l1)) q
    · have a3 := vw.froze (o := .tup (xs ++ ys)) hp
      exact k _ S _ _ _ a3 (.tup (SqT.of upd_same) ((l1.append l2).mono a3.gg)) q
  · split at h
    · rename_i a b e1 e2
      obtain ⟨p, xs, rfl, h1, l1⟩ := rdL_ok vw r1 e1
      obtain ⟨q, ys, rfl, h2, l2⟩ := rdL_ok vw r2 e2
      refine .inr (.inr (.inr ⟨p, q, xs, ys, rfl, rfl, h1, h2, by rw [l1.length, l2.length]; exact h.1, fun t ht => ?_⟩))
      have a3 := vw.froze (o := .lst (xs ++ ys)) ht
      exact k _ S _ _ _ a3 (.lst upd_same ((l1.append l2).mono a3.gg)) h.2
    · exact h.elim
/-- a * b: ints, a list and an int (a new frozen list) -/
def mMul : R2V := fun x y S Q => match x, y with
  | .int i, .int j => CMul i j ∧ Q (.int (i * j)) S
  | x, .int k => match rdL x S with
    | some ds => -(2 ^ 63) ≤ k ∧ k < 2 ^ 63 ∧ ds.length * k.toNat ≤ sizeLine ∧ Q (.lst (List.replicate k.toNat ds).flatten) S
    | none => False
  | _, _ => False
theorem RpL.flat {K : PySem.W.Frag} {G : Hp} {xs : List V} {ds : List D} (r : RpL K G xs ds) : ∀ n : Nat, RpL K G (List.replicate n xs).flatten (List.replicate n ds).flatten
  | 0 => .nil
  | n + 1 => by rw [List.replicate_succ, List.replicate_succ, List.flatten_cons, List.flatten_cons]; exact r.append (r.flat n)
theorem ov_mulL : OpV X (binaryOp .Mult) mMul := by
  refine ⟨_, op_mul.or op_rep, ?_⟩
  intro x y v1 v2 G S H Q Q' vw r1 r2 h k
  unfold mMul at h
  split at h
  · cases r1; cases r2
    exact .inl ⟨_, _, rfl, rfl, h.1, k _ S _ H G (Aft.refl vw) (.int _) h.2⟩
  · split at h
    · rename_i j _ _ ds e1
      obtain ⟨p, xs, rfl, h1, l1⟩ := rdL_ok vw r1 e1
      cases r2
      refine .inr ⟨p, _, xs, rfl, rfl, h1, h.1, h.2.1, by rw [l1.length]; exact h.2.2.1, fun t ht => ?_⟩
      have a3 := vw.froze (o := .lst (List.replicate j.toNat xs).flatten) ht
      exact k _ S _ _ _ a3 (.lst upd_same ((l1.flat _).mono a3.gg)) h.2.2.2
    · exact h.elim
  · exact h.elim
mutual
def py : D → PyData
  | .non => .none | .bl b => .bool b | .int i => .int i | .str s => .str s
  | .tup ds => .tuple (pyL ds) | .lst ds => .list (pyL ds) | .ro ds => .list (pyL ds) | .dct _ => .dict [] | .ref _ => .dict []
def pyL : List D → List PyData
  | [] => []
  | d :: ds => py d :: pyL ds
end
mutual
theorem dp_of {K : PySem.W.Frag} {G H : Hp} (g : Same G H) : ∀ (d : D) {v : V}, (py d).canLay0 = true → Rp K G v d → Dp K H v (py d)
  | .non, _, _, .non => .non
  | .bl _, _, _, .bl _ => .bl _
  | .int _, _, _, .int _ => .int _
  | .str _, _, _, .str _ => .str _
  | .tup ds, _, c, .tup h r => .tup (same_t g h) (dpAll_of g ds (by simpa [py, PyData.canLay0] using c) r)
  | .lst ds, _, c, .lst h r => .lst (SqL.of (g _ _ h)) (dpAll_of g ds (by simpa [py, PyData.canLay0] using c) r)
  | .ro ds, _, c, .ro h r => .lst (g.seq h) (dpAll_of g ds (by simpa [py, PyData.canLay0] using c) r)
  | .dct _, _, c, _ => by simp [py, PyData.canLay0] at c
  | .ref _, _, c, _ => by simp [py, PyData.canLay0] at c
theorem dpAll_of {K : PySem.W.Frag} {G H : Hp} (g : Same G H) : ∀ (ds : List D) {vs : List V}, PyData.canLayAll0 (pyL ds) = true → RpL K G vs ds → DpAll K H vs (pyL ds)
  | [], _, _, .nil => .nil
  | d :: ds, _, c, .cons h t => by
    have c' : (py d).canLay0 = true ∧ PyData.canLayAll0 (pyL ds) = true := by simpa [pyL, PyData.canLayAll0] using c
    exact .cons (dp_of g d c'.1 h) (dpAll_of g ds c'.2 t)
end
/-- what stands at an address of the store, where it is a list -/
def rsv (S : Store) (d : D) : D := match d with
  | .ref a => match S a with
    | some (.lst ds) => .lst ds
    | _ => d
  | d => d
theorem dp_rsv {K : PySem.W.Frag} {G H : Hp} {S : Store} {d : D} {v : V} (vw : View K G S H) (c : (py (rsv S d)).canLay0 = true) (r : Rp K G v d) : Dp K H v (py (rsv S d)) := by
  cases d with
  | ref a =>
    cases r
    cases e : S a with
    | none => simp [rsv, e, py, PyData.canLay0] at c
    | some o =>
      obtain ⟨_, u, hu, k⟩ := vw.st a _ e
      cases k with
      | lst r =>
        simp only [rsv, e] at c ⊢
        exact .lst (SqL.of hu) (dpAll_of vw.gh _ (by simpa [py, PyData.canLay0] using c) r)
      | dct r => simp [rsv, e, py, PyData.canLay0] at c
      | _ => simp [rsv, e, py, PyData.canLay0] at c
  | non => exact dp_of vw.gh _ c r
  | bl b => exact dp_of vw.gh _ c r
  | int b => exact dp_of vw.gh _ c r
  | str b => exact dp_of vw.gh _ c r
  | tup b => exact dp_of vw.gh _ c r
  | lst b => exact dp_of vw.gh _ c r
  | ro b => exact dp_of vw.gh _ c r
  | dct b => exact dp_of vw.gh _ c r
def okq (S : Store) (d : D) : Prop := SeqAt.shaped (py (rsv S d)) = true
def eqq (S : Store) (x y : D) : Bool := PyData.eqv (py (rsv S x)) (py (rsv S y))
def mEq : R2V := fun x y S Q => match x, y with
  | .str a, .str b => Q (.bl (decide (a = b))) S
  | x, y => okq S x ∧ okq S y ∧ Q (.bl (eqq S x y)) S
def mNe : R2V := fun x y S Q => match x, y with
  | .str a, .str b => Q (.bl (!decide (a = b))) S
  | x, y => okq S x ∧ okq S y ∧ Q (.bl (!eqq S x y)) S
theorem decS {a b : Str} : decide (V.str a = V.str b) = decide (a = b) := by
  by_cases h : a = b
  · subst h; simp
  · simp [h]
theorem ov_eq (hu : X.A.units + 64 < cLine) : OpV X (compareOp .Eq) mEq := by
  refine ⟨_, (op_eqD hu).or op_eq, ?_⟩
  intro x y v1 v2 G S H Q Q' vw r1 r2 h k
  unfold mEq at h
  split at h
  · cases r1; cases r2
    exact .inr ⟨rfl, k _ S _ H G (Aft.refl vw) (.bl _) (by rw [decS]; exact h)⟩
  · exact .inl ⟨_, _, dp_rsv vw (SeqAt.canLay_of_shaped h.1) r1, dp_rsv vw (SeqAt.canLay_of_shaped h.2.1) r2, h.1, h.2.1, k _ S _ H G (Aft.refl vw) (.bl _) h.2.2⟩
theorem ov_ne (hu : X.A.units + 64 < cLine) : OpV X (compareOp .NotEq) mNe := by
  refine ⟨_, (op_neD hu).or op_ne, ?_⟩
  intro x y v1 v2 G S H Q Q' vw r1 r2 h k
  unfold mNe at h
  split at h
  · cases r1; cases r2
    exact .inr ⟨rfl, k _ S _ H G (Aft.refl vw) (.bl _) (by rw [decS]; exact h)⟩
  · exact .inl ⟨_, _, dp_rsv vw (SeqAt.canLay_of_shaped h.1) r1, dp_rsv vw (SeqAt.canLay_of_shaped h.2.1) r2, h.1, h.2.1, k _ S _ H G (Aft.refl vw) (.bl _) h.2.2⟩
theorem dict_eq_declines_str (d : Addr) (od : Obj) (b : Str) (u : Tok) (hc : od.cls = .type "dict") :
    Meets (Builtin.«dict.__eq__» ⟨[.ref d, .str b u], []⟩) (fun _ R s => s.heap.get? d = some od ∧ R (.ok (.ret .notImplemented)) s) :=
  .of_wp fun prog w A R s h => by
    obtain ⟨hp, g, dr, tk, os⟩ := s; obtain ⟨hl, h⟩ := h
    have f1 := PySem.F.sub_str_dict
    wp_walk using wpAny_load hl
    exact ⟨_, rfl, h⟩
theorem str_eq_declines_dict (d : Addr) (od : Obj) (b : Str) (u : Tok) (hc : od.cls = .type "dict") (hd : ∃ es ep, od.data = .dict es ep) :
    Meets (Builtin.«str.__eq__» ⟨[.str b u, .ref d], []⟩) (fun _ R s => s.heap.get? d = some od ∧ R (.ok (.ret .notImplemented)) s) :=
  .of_wp fun prog w A R s h => by
    obtain ⟨cls, dd, data, sl⟩ := od
    obtain ⟨es, ep, hd⟩ := hd
    simp only at hc hd
    subst hc hd
    obtain ⟨hp, g, dr, tk, os⟩ := s; obtain ⟨hl, h⟩ := h
    wp_walk using wpAny_load hl
    exact ⟨_, rfl, h⟩
theorem rc_dict_str {A : Around} {s : Shared} {d : Addr} {od : Obj} (b : Str) (u : Tok) (hd : s.heap.get? d = some od) (hc : od.cls = .type "dict") (he : ∃ es ep, od.data = .dict es ep) (hu : A.units < cLine) : SeqAt.RcAt A s (.ref d) (.str b u) false := fun prog w E Q h =>
  SeqAt.rc_eq_decline_or (k := false) ⟨_, hd, hc⟩ (typeIs_str s b u) (by decide) PySem.F.sub_str_dict PySem.F.slot_dict_eq PySem.F.slot_str_eq_refl
    (fun _ hq => call_meets PySem.F.slot_dict_eq ⟨_, hd, hc⟩ PySem.F.entry_dict_eq (PySem.F.args_dict_eq_2 _ _) (dict_eq_declines_str d od b u hc) ⟨hd, hq⟩)
    (fun _ hq => call_meets PySem.F.slot_str_eq_refl (typeIs_str s b u) PySem.F.entry_str_eq (PySem.F.args_str_eq_2 _ _) (str_eq_declines_dict d od b u hc he) ⟨hd, hq⟩)
    (fun _ hq => wpAny_of_eq (rfl : isSame (.ref d) (.str b u) = pure false) hq) (.inr hu) h
/-- what is no instance -/
def PlainV (K : PySem.W.Frag) (H : Hp) (x : V) : Prop := match x with
  | .non => True | .bl _ => True | .int _ => True | .str _ => True
  | .ref a => (∃ xs, SqL K H a xs) ∨ (∃ xs, SqT K H a xs) ∨ ∃ kvs, Rd H a (.dK kvs)
  | _ => False
theorem op_eqS (hu : X.A.units < cLine) : OpR X (compareOp .Eq) (fun x y H Q => ∃ z, y = .str z ∧ PlainV X.K H x ∧ Q (.bl (decide (x = .str z))) H) := by
  intro pins s σ H x y v u Q I rx ry h
  obtain ⟨z, rfl, pl, q⟩ := h
  obtain ⟨t, rfl⟩ := ry
  cases x with
  | non => exact op_eq pins s σ H .non (.str z) v _ Q I rx ⟨t, rfl⟩ ⟨rfl, q⟩
  | bl b => exact op_eq pins s σ H (.bl b) (.str z) v _ Q I rx ⟨t, rfl⟩ ⟨rfl, q⟩
  | int b => exact op_eq pins s σ H (.int b) (.str z) v _ Q I rx ⟨t, rfl⟩ ⟨rfl, q⟩
  | str b => exact op_eq pins s σ H (.str b) (.str z) v _ Q I rx ⟨t, rfl⟩ ⟨rfl, q⟩
  | byt b => exact pl.elim
  | flt b => exact pl.elim
  | ty b => exact pl.elim
  | ref a =>
    cases rx
    have q' : Q (.bl false) H := q
    rcases pl with ⟨xs, h⟩ | ⟨xs, h⟩ | ⟨kvs, h⟩
    · obtain ⟨its, r, ⟨o, n, e, c, d, dt⟩, _⟩ := I.list h
      exact SeqAt.RcAt.list_str z t ⟨o, e, c, n, dt⟩ hu _ _ _ _ ⟨.bl false, H, I, rfl, q'⟩
    · obtain ⟨its, r, ht, _⟩ := I.tuple h
      exact SeqAt.RcAt.tuple_str z t ht hu _ _ _ _ ⟨.bl false, H, I, rfl, q'⟩
    · obtain ⟨_, _, vs, _, o, es, ep, e, ex, dt, _⟩ := h.ok I.hok
      exact rc_dict_str z t e ex.1 ⟨es, ep, dt⟩ hu _ _ _ _ ⟨.bl false, H, I, rfl, q'⟩
/-- data without instances -/
def isS (d : D) (z : Str) : Bool := match d with
  | .str w => decide (w = z)
  | _ => false
def noRef (S : Store) (d : D) : Prop := match d with
  | .ref a => ∃ ds, S a = some (.lst ds)
  | _ => True
def mEqS : R2V := fun x y S Q => match y with
  | .str z => noRef S x ∧ Q (.bl (isS x z)) S
  | _ => False
theorem plain_of {K : PySem.W.Frag} {G H : Hp} {S : Store} {d : D} {v : V} (vw : View K G S H) (n : noRef S d) (r : Rp K G v d) : PlainV K H v := by
  cases r with
  | non => trivial
  | bl => trivial
  | int => trivial
  | str => trivial
  | ref a =>
    obtain ⟨ds, e⟩ := n
    obtain ⟨_, u, hu, k⟩ := vw.st a _ e
    cases k with
    | lst r => exact .inl ⟨_, SqL.of hu⟩
  | tup h r => exact .inr (.inl ⟨_, same_t vw.gh h⟩)
  | lst h r => exact .inl ⟨_, SqL.of (vw.gh _ _ h)⟩
  | ro h r => exact .inl ⟨_, vw.gh.seq h⟩
  | dct h r => exact .inr (.inr ⟨_, .inr ⟨_, vw.gh _ _ h⟩⟩)
theorem isS_of {K : PySem.W.Frag} {G : Hp} {d : D} {v : V} (r : Rp K G v d) (z : Str) : decide (v = .str z) = isS d z := by
  cases r <;> first | rfl | (simp [isS])
theorem ov_eqS (hu : X.A.units < cLine) : OpV X (compareOp .Eq) mEqS := by
  refine ⟨_, op_eqS hu, ?_⟩
  intro x y v1 v2 G S H Q Q' vw r1 r2 h k
  cases r2 <;> try exact h.elim
  exact ⟨_, rfl, plain_of vw h.1 r1, k _ S _ H G (Aft.refl vw) (by rw [isS_of r1]; exact .bl _) h.2⟩
/-- is True, is False, of truths -/
def mIsB (neg : Bool) : R2V := fun x y S Q => match x, y with
  | .bl a, .bl b => Q (.bl (if neg then !(decide (a = b)) else decide (a = b))) S
  | _, _ => False
theorem ov_isnotB : OpV X (compareOp .IsNot) (mIsB true) := by
  refine ⟨_, op_isnot_bl, ?_⟩
  intro x y v1 v2 G S H Q Q' vw r1 r2 h k
  cases r1 <;> try exact h.elim
  cases r2 <;> try exact h.elim
  exact ⟨_, _, rfl, rfl, k _ S _ H G (Aft.refl vw) (.bl _) h⟩
/-- the items of what stands in a row -/
def rdS (d : D) (S : Store) : Option (List D) := match d with
  | .tup ds => some ds
  | d => rdR d S
theorem rdS_ok {K : PySem.W.Frag} {G H : Hp} {S : Store} {d : D} {v : V} {ds : List D} (vw : View K G S H) (r : Rp K G v d) (h : rdS d S = some ds) : ∃ a xs, v = .ref a ∧ (SqL K H a xs ∨ SqT K H a xs) ∧ RpL K G xs ds := by
  have main : rdR d S = some ds → ∃ a xs, v = .ref a ∧ (SqL K H a xs ∨ SqT K H a xs) ∧ RpL K G xs ds := fun h => by
    obtain ⟨a, xs, e, q, l⟩ := rdR_ok vw r h
    exact ⟨a, xs, e, .inl q, l⟩
  cases d with
  | tup es =>
    simp only [rdS, Option.some.injEq] at h
    subst h
    cases r with
    | tup ht l => exact ⟨_, _, rfl, .inr (same_t vw.gh ht), l⟩
  | non => exact main h
  | bl => exact main h
  | int => exact main h
  | str => exact main h
  | lst => exact main h
  | ro => exact main h
  | dct => exact main h
  | ref => exact main h
def mIx : R2V := fun x y S Q => match x, y with
  | .str z, .int i => z.length ≤ sizeLine ∧ (match atI z.cps.toList i with
    | some c => Q (.str ⟨#[c]⟩) S
    | none => False)
  | x, .int i => match rdS x S with
    | some ds => (match atI ds i with
      | some d => Q d S
      | none => False)
    | none => False
  | _, _ => False
theorem RpL.atI {K : PySem.W.Frag} {G : Hp} {xs : List V} {ds : List D} {i : Int} {d : D} (r : RpL K G xs ds) (h : L2.atI ds i = some d) : ∃ v, L2.atI xs i = some v ∧ Rp K G v d := by
  unfold L2.atI at h ⊢
  rw [r.length]
  cases e : ixN ds.length i with
  | none => rw [e] at h; cases h
  | some j =>
    rw [e] at h
    exact r.get h
theorem lr_ix : LR2 X.K (rIx X.K) mIx := by
  intro x y v1 v2 G S H Q Q' vw r1 r2 h k
  unfold mIx at h
  split at h
  · cases r1; cases r2
    obtain ⟨hz, h⟩ := h
    split at h
    · rename_i c e
      exact .inr (.inr ⟨_, _, c, rfl, rfl, hz, e, k _ S _ H G (Aft.refl vw) (.str _) h⟩)
    · exact h.elim
  · cases r2
    split at h
    · rename_i ds e
      split at h
      · rename_i d e2
        obtain ⟨a, xs, ev, q, l⟩ := rdS_ok vw r1 e
        obtain ⟨v, hv, rv⟩ := l.atI e2
        rcases q with q | q
        · exact .inl ⟨_, _, _, v, ev, rfl, q, hv, k d S v H G (Aft.refl vw) rv h⟩
        · exact .inr (.inl ⟨_, _, _, v, ev, rfl, q, hv, k d S v H G (Aft.refl vw) rv h⟩)
      · exact h.elim
    · exact h.elim
  · exact h.elim
theorem v_sub {a b : Expr} {ma mb : VE} {pos : Pos} (ha : PE X a (LE X.K ma)) (hb : PE X b (LE X.K mb)) (hs : PlainIx b := by exact fun _ _ => rfl) : PE X (.Subscript a b pos) (LE X.K (mOp mIx ma mb)) := v_ix ix_seq lr_ix ha hb hs
def mNil : VA := fun _ S Q => Q [] S
def mCons (m : VE) (ms : VA) : VA := fun ρ S Q => m ρ S fun d S1 => ms ρ S1 fun ds S2 => Q (d :: ds) S2
theorem a_nil : PA X [] (LA X.K mNil) := PA.imp pa_nil fun σ H Q' ⟨ρ, S, G, Q, vw, re, hm, k⟩ => k [] S [] H G (Aft.refl vw) .nil hm
theorem a_cons {e : Expr} {es : List Expr} {m : VE} {ms : VA} (ha : PE X e (LE X.K m)) (hr : PA X es (LA X.K ms)) (hs : starEach (e :: es) X.env = (false, eval e X.env) :: starEach es X.env := by rfl) : PA X (e :: es) (LA X.K (mCons m ms)) := by
  refine PA.imp (pa_cons ha hr hs) fun σ H Q' ⟨ρ, S, G, Q, vw, re, hm, k⟩ => ?_
  refine ⟨ρ, S, G, _, vw, re, hm, fun d S1 v1 H1 G1 a1 r1 h1 => ?_⟩
  refine ⟨ρ, S1, G1, _, a1.vw, re.mono a1.gg, h1, fun ds S2 vs H2 G2 a2 r2 h2 => ?_⟩
  exact k _ S2 _ H2 G2 (a1.trans a2) (.cons (r1.mono a2.gg) r2) h2
/-- (a, b); [a, b] frozen; [a, b] of the store -/
def mTup (ms : VA) : VE := fun ρ S Q => ms ρ S fun ds S1 => ds.length ≤ sizeLine ∧ Q (.tup ds) S1
def mLst (ms : VA) : VE := fun ρ S Q => ms ρ S fun ds S1 => ds.length ≤ sizeLine ∧ Q (.lst ds) S1
def mLstM (ms : VA) : VE := fun ρ S Q => ms ρ S fun ds S1 => ds.length ≤ sizeLine ∧ ∀ a, S1 a = none → Q (.ref a) (supd S1 a (.lst ds))
theorem v_tup {es : List Expr} {ms : VA} {x1 : Nat} {pos : Pos} (h : PA X es (LA X.K ms)) : PE X (.Tuple es x1 pos) (LE X.K (mTup ms)) := by
  refine PE.imp (pe_tup h) fun σ H Q' ⟨ρ, S, G, Q, vw, re, hm, k⟩ => ?_
  refine ⟨ρ, S, G, _, vw, re, hm, fun ds S1 vs H1 G1 a1 r1 h1 => ⟨by rw [r1.length]; exact h1.1, fun p hp => ?_⟩⟩
  have a2 := a1.vw.froze (o := .tup vs) hp
  exact k _ S1 _ _ _ (a1.trans a2) (.tup (SqT.of upd_same) (r1.mono a2.gg)) h1.2
theorem v_lst {es : List Expr} {ms : VA} {pos : Pos} (h : PA X es (LA X.K ms)) : PE X (.List es pos) (LE X.K (mLst ms)) := by
  refine PE.imp (pe_lst h) fun σ H Q' ⟨ρ, S, G, Q, vw, re, hm, k⟩ => ?_
  refine ⟨ρ, S, G, _, vw, re, hm, fun ds S1 vs H1 G1 a1 r1 h1 => ⟨by rw [r1.length]; exact h1.1, fun p hp => ?_⟩⟩
  have a2 := a1.vw.froze (o := .lst vs) hp
  exact k _ S1 _ _ _ (a1.trans a2) (.lst upd_same (r1.mono a2.gg)) h1.2
theorem v_lstM {es : List Expr} {ms : VA} {pos : Pos} (h : PA X es (LA X.K ms)) : PE X (.List es pos) (LE X.K (mLstM ms)) := by
  refine PE.imp (pe_lst h) fun σ H Q' ⟨ρ, S, G, Q, vw, re, hm, k⟩ => ?_
  refine ⟨ρ, S, G, _, vw, re, hm, fun ds S1 vs H1 G1 a1 r1 h1 => ⟨by rw [r1.length]; exact h1.1, fun p hp => ?_⟩⟩
  have a2 := a1.vw.stored (o := .lst ds) (u := .lst vs) hp (.lst r1)
  exact k _ _ _ _ _ (a1.trans a2) (.ref p) (h1.2 p (a1.vw.none hp).2)
def mTest (m : VE) : VT := fun ρ S Q => m ρ S fun d S1 => match d with
  | .bl b => Q b S1
  | _ => False
theorem lt_B {K : PySem.W.Frag} {m : VE} {σ : L2.St} {H : Hp} {Q' : Bool → Hp → Prop} (q : LT K (mTest m) σ H Q') : LE K m σ H fun x H1 => ∃ c, x = .bl c ∧ Q' c H1 := by
  obtain ⟨ρ, S, G, Q, vw, re, hm, k⟩ := q
  refine ⟨ρ, S, G, _, vw, re, hm, fun d S1 v1 H1 G1 a1 r1 h1 => ?_⟩
  cases r1 <;> try exact h1.elim
  exact ⟨_, rfl, k _ S1 H1 G1 a1 h1⟩
/-- a value that is a truth, as a test -/
theorem t_val {e : Expr} {m : VE} (h : PE X e (LE X.K m)) (he : ∀ whole, isTrue e X.env whole = (do let v ← whole; standAt e.pos; holding [v] (truthy v)) := by intro _; rfl) : PT X e (LT X.K (mTest m)) :=
  PT.imp (pt_val h he) fun σ H Q' q => lt_B q
theorem t_cmp {op : CmpOp} {m : R2V} {a b : Expr} {ma mb : VE} {pos : Pos} (ho : OpV X (compareOp op) m) (ha : PE X a (LE X.K ma)) (hb : PE X b (LE X.K mb)) (hm : behindInMarks op b = false := by first | exact nomark _ | rfl) : PT X (.Compare a [op] [b] pos) (LT X.K (mTest (mOp m ma mb))) := by
  obtain ⟨r, h1, h2⟩ := ho
  refine PT.imp (pt_cmpR h1 ha hb hm) fun σ H Q' q => ?_
  exact le_op h2 σ H _ (lt_B q)
def mNot (m : VT) : VT := fun ρ S Q => m ρ S fun b S1 => Q (!b) S1
def mAnd (m n : VT) : VT := fun ρ S Q => m ρ S fun b S1 => if b = true then n ρ S1 Q else Q false S1
def mOr (m n : VT) : VT := fun ρ S Q => m ρ S fun b S1 => if b = true then Q true S1 else n ρ S1 Q
theorem t_not {a : Expr} {m : VT} {pos : Pos} (h : PT X a (LT X.K m)) : PT X (.UnaryOp .Not a pos) (LT X.K (mNot m)) :=
  PT.imp (pt_not h) fun σ H Q' ⟨ρ, S, G, Q, vw, re, hm, k⟩ => ⟨ρ, S, G, _, vw, re, hm, fun b S1 H1 G1 a1 h1 => k _ S1 H1 G1 a1 h1⟩
theorem w_and1 {a : Expr} {m : VT} {pos : Pos} (h : PT X a (LT X.K m)) : PW X (.BoolOp .And [a] pos) (LT X.K m) := pw_and1 h
theorem w_or1 {a : Expr} {m : VT} {pos : Pos} (h : PT X a (LT X.K m)) : PW X (.BoolOp .Or [a] pos) (LT X.K m) := pw_or1 h
theorem w_and {a b : Expr} {rest : List Expr} {m n : VT} {pos : Pos} (h : PT X a (LT X.K m)) (hb : PW X (.BoolOp .And (b :: rest) pos) (LT X.K n)) : PW X (.BoolOp .And (a :: b :: rest) pos) (LT X.K (mAnd m n)) := by
  refine PW.imp (pw_and h hb) fun σ H Q' ⟨ρ, S, G, Q, vw, re, hm, k⟩ => ⟨ρ, S, G, _, vw, re, hm, fun c S1 H1 G1 a1 h1 => ?_⟩
  cases c with
  | true => exact ⟨ρ, S1, G1, Q, a1.vw, re.mono a1.gg, h1, fun b S2 H2 G2 a2 h2 => k b S2 H2 G2 (a1.trans a2) h2⟩
  | false => exact k _ S1 H1 G1 a1 h1
theorem w_or {a b : Expr} {rest : List Expr} {m n : VT} {pos : Pos} (h : PT X a (LT X.K m)) (hb : PW X (.BoolOp .Or (b :: rest) pos) (LT X.K n)) : PW X (.BoolOp .Or (a :: b :: rest) pos) (LT X.K (mOr m n)) := by
  refine PW.imp (pw_or h hb) fun σ H Q' ⟨ρ, S, G, Q, vw, re, hm, k⟩ => ⟨ρ, S, G, _, vw, re, hm, fun c S1 H1 G1 a1 h1 => ?_⟩
  cases c with
  | false => exact ⟨ρ, S1, G1, Q, a1.vw, re.mono a1.gg, h1, fun b S2 H2 G2 a2 h2 => k b S2 H2 G2 (a1.trans a2) h2⟩
  | true => exact k _ S1 H1 G1 a1 h1
/-- as values, of truths -/
def mAndV (m n : VE) : VE := fun ρ S Q => m ρ S fun d S1 => match d with
  | .bl b => if b = true then n ρ S1 Q else Q (.bl false) S1
  | _ => False
def mOrV (m n : VE) : VE := fun ρ S Q => m ρ S fun d S1 => match d with
  | .bl b => if b = true then Q (.bl true) S1 else n ρ S1 Q
  | _ => False
def mNotV (m : VE) : VE := fun ρ S Q => m ρ S fun d S1 => match d with
  | .bl b => Q (.bl (!b)) S1
  | _ => False
theorem v_one {op : BoolOp} {a : Expr} {m : VE} {pos : Pos} (h : PE X a (LE X.K m)) : PE X (.BoolOp op [a] pos) (LE X.K m) := pe_one h
theorem v_and {a b : Expr} {rest : List Expr} {m n : VE} {pos : Pos} (h : PE X a (LE X.K m)) (hb : PE X (.BoolOp .And (b :: rest) pos) (LE X.K n)) : PE X (.BoolOp .And (a :: b :: rest) pos) (LE X.K (mAndV m n)) := by
  refine PE.imp (pe_and h hb) fun σ H Q' ⟨ρ, S, G, Q, vw, re, hm, k⟩ => ⟨ρ, S, G, _, vw, re, hm, fun c S1 v1 H1 G1 a1 r1 h1 => ?_⟩
  cases r1 <;> try exact h1.elim
  rename_i c
  refine ⟨c, rfl, ?_⟩
  cases c with
  | true => exact ⟨ρ, S1, G1, Q, a1.vw, re.mono a1.gg, h1, fun d S2 v H2 G2 a2 r2 h2 => k d S2 v H2 G2 (a1.trans a2) r2 h2⟩
  | false => exact k _ S1 _ H1 G1 a1 (.bl _) h1
theorem v_or {a b : Expr} {rest : List Expr} {m n : VE} {pos : Pos} (h : PE X a (LE X.K m)) (hb : PE X (.BoolOp .Or (b :: rest) pos) (LE X.K n)) : PE X (.BoolOp .Or (a :: b :: rest) pos) (LE X.K (mOrV m n)) := by
  refine PE.imp (pe_or h hb) fun σ H Q' ⟨ρ, S, G, Q, vw, re, hm, k⟩ => ⟨ρ, S, G, _, vw, re, hm, fun c S1 v1 H1 G1 a1 r1 h1 => ?_⟩
  cases r1 <;> try exact h1.elim
  rename_i c
  refine ⟨c, rfl, ?_⟩
  cases c with
  | false => exact ⟨ρ, S1, G1, Q, a1.vw, re.mono a1.gg, h1, fun d S2 v H2 G2 a2 r2 h2 => k d S2 v H2 G2 (a1.trans a2) r2 h2⟩
  | true => exact k _ S1 _ H1 G1 a1 (.bl _) h1
theorem v_not {a : Expr} {m : VE} {pos : Pos} (h : PE X a (LE X.K m)) : PE X (.UnaryOp .Not a pos) (LE X.K (mNotV m)) := by
  refine PE.imp (pe_not h) fun σ H Q' ⟨ρ, S, G, Q, vw, re, hm, k⟩ => ⟨ρ, S, G, _, vw, re, hm, fun c S1 v1 H1 G1 a1 r1 h1 => ?_⟩
  cases r1 <;> try exact h1.elim
  exact ⟨_, rfl, k _ S1 _ H1 G1 a1 (.bl _) h1⟩
/-- a if t else b -/
def mIfE (t : VT) (m n : VE) : VE := fun ρ S Q => t ρ S fun b S1 => if b = true then m ρ S1 Q else n ρ S1 Q
theorem v_if {c a b : Expr} {t : VT} {m n : VE} {pos : Pos} (hc : PT X c (LT X.K t)) (ha : PE X a (LE X.K m)) (hb : PE X b (LE X.K n)) : PE X (.IfExp c a b pos) (LE X.K (mIfE t m n)) := by
  refine PE.imp (pe_ifExp hc ha hb) fun σ H Q' ⟨ρ, S, G, Q, vw, re, hm, k⟩ => ⟨ρ, S, G, _, vw, re, hm, fun c S1 H1 G1 a1 h1 => ?_⟩
  cases c with
  | true => exact ⟨ρ, S1, G1, Q, a1.vw, re.mono a1.gg, h1, fun d S2 v H2 G2 a2 r2 h2 => k d S2 v H2 G2 (a1.trans a2) r2 h2⟩
  | false => exact ⟨ρ, S1, G1, Q, a1.vw, re.mono a1.gg, h1, fun d S2 v H2 G2 a2 r2 h2 => k d S2 v H2 G2 (a1.trans a2) r2 h2⟩
/-- a op1 b op2 c -/
def mChain (m m' : R2V) (ma mb mc : VE) : VE := fun ρ S Q => ma ρ S fun x S1 => mb ρ S1 fun y S2 => m x y S2 fun z S3 => match z with
  | .bl k => if k = true then mc ρ S3 fun w S4 => m' y w S4 Q else Q (.bl false) S3
  | _ => False
theorem le_chain {K : PySem.W.Frag} {r r' : R2} {m m' : R2V} {ma mb mc : VE} (h : LR2 K r m) (h' : LR2 K r' m') (σ : L2.St) (H : Hp) (Q' : VK) (q : LE K (mChain m m' ma mb mc) σ H Q') : tChain r r' (LE K ma) (LE K mb) (LE K mc) σ H Q' := by
  obtain ⟨ρ, S, G, Q, vw, re, hm, k⟩ := q
  refine ⟨ρ, S, G, _, vw, re, hm, fun x S1 v1 H1 G1 a1 r1 h1 => ?_⟩
  refine ⟨ρ, S1, G1, _, a1.vw, re.mono a1.gg, h1, fun y S2 v2 H2 G2 a2 r2 h2 => ?_⟩
  refine h x y v1 v2 G2 S2 H2 _ _ a2.vw (r1.mono a2.gg) r2 h2 fun z S3 v3 H3 G3 a3 r3 h3 => ?_
  have a13 := a1.trans (a2.trans a3)
  cases r3 <;> try exact h3.elim
  rename_i c
  refine ⟨c, rfl, ?_⟩
  cases c with
  | false => exact k _ S3 _ H3 G3 a13 (.bl _) h3
  | true => exact ⟨ρ, S3, G3, _, a3.vw, re.mono a13.gg, h3, fun w S4 v4 H4 G4 a4 r4 h4 => h' y w v2 v4 G4 S4 H4 Q Q' a4.vw ((r2.mono a3.gg).mono a4.gg) r4 h4 fun d S' v H' G' a5 r5 q => k d S' v H' G' (a13.trans (a4.trans a5)) r5 q⟩
theorem v_chain {op op' : CmpOp} {m m' : R2V} {a b c : Expr} {ma mb mc : VE} {pos : Pos} (ho : OpV X (compareOp op) m) (ho' : OpV X (compareOp op') m') (ha : PE X a (LE X.K ma)) (hb : PE X b (LE X.K mb)) (hc : PE X c (LE X.K mc))
    (hm : lastMarks [op, op'] [b, c] = false := by with_unfolding_all rfl) : PE X (.Compare a [op, op'] [b, c] pos) (LE X.K (mChain m m' ma mb mc)) := by
  obtain ⟨r, h1, h2⟩ := ho
  obtain ⟨r', h1', h2'⟩ := ho'
  exact PE.imp (pe_chain h1 h1' ha hb hc hm) fun σ H Q' q => le_chain h2 h2' σ H Q' q
theorem t_chain {op op' : CmpOp} {m m' : R2V} {a b c : Expr} {ma mb mc : VE} {pos : Pos} (ho : OpV X (compareOp op) m) (ho' : OpV X (compareOp op') m') (ha : PE X a (LE X.K ma)) (hb : PE X b (LE X.K mb)) (hc : PE X c (LE X.K mc))
    (hm : lastMarks [op, op'] [b, c] = false := by with_unfolding_all rfl) : PT X (.Compare a [op, op'] [b, c] pos) (LT X.K (mTest (mChain m m' ma mb mc))) := by
  obtain ⟨r, h1, h2⟩ := ho
  obtain ⟨r', h1', h2'⟩ := ho'
  exact PT.imp (pt_chain h1 h1' ha hb hc hm) fun σ H Q' q => le_chain h2 h2' σ H _ (lt_B q)
end
end VL
set_option maxHeartbeats 2000000
namespace VL
open PySem PySem.Spec L2
open PyProof.Rows hiding St
section
variable {X : Cx}
abbrev CV := List D → Store → (D → Store → Prop) → Prop
def LRC (K : PySem.W.Frag) (r : List V → Hp → VK → Prop) (m : CV) : Prop := ∀ (ds : List D) (vs : List V) (G : Hp) (S : Store) (H : Hp) (Q : D → Store → Prop) (Q' : VK), View K G S H → RpL K G vs ds → m ds S Q →
  (∀ d S' v H' G', Aft K G S H S' H' G' → Rp K G' v d → Q d S' → Q' v H') → r vs H Q'
def CallV (X : Cx) (f : Value) (m : CV) : Prop := ∃ r, CallR X f r ∧ LRC X.K r m
def mCB (m : CV) (ms : VA) : VE := fun ρ S Q => ms ρ S fun ds S1 => m ds S1 Q
theorem le_cb {K : PySem.W.Frag} {r : List V → Hp → VK → Prop} {m : CV} {ms : VA} (h : LRC K r m) (σ : L2.St) (H : Hp) (Q' : VK) (q : LE K (mCB m ms) σ H Q') : tCB r (LA K ms) σ H Q' := by
  obtain ⟨ρ, S, G, Q, vw, re, hm, k⟩ := q
  exact ⟨ρ, S, G, _, vw, re, hm, fun ds S1 vs H1 G1 a1 r1 h1 => h ds vs G1 S1 H1 Q Q' a1.vw r1 h1 fun d S' v H' G' a2 r2 q => k d S' v H' G' (a1.trans a2) r2 q⟩
theorem v_callB {id : String} {x : Str} {p pos : Pos} {e : Expr} {es : List Expr} {m : CV} {ms : VA} (hc : CallV X (.builtin id) m) (hg : Gl X x) (hm : X.mg x = none) (hv : bootBuiltins x = some (.builtin id)) (ha : PA X (e :: es) (LA X.K ms)) (hn : x ≠ "__name__" := by decide) (hdb : (x == ("__debug__" : Str)) = false := by decide)
    (he : starEach (e :: es) X.env = (false, eval e X.env) :: starEach es X.env := by rfl) (hpl : (backTo pos (starEach es X.env)).any (·.1) = false := by rfl) : PE X (.Call (.Name x p) (e :: es) [] pos) (LE X.K (mCB m ms)) := by
  obtain ⟨r, h1, h2⟩ := hc
  exact PE.imp (pe_callB h1 hg hm hv ha hn hdb he hpl) fun σ H Q' q => le_cb h2 σ H Q' q
theorem v_callT {T : String} {x : Str} {p pos : Pos} {e : Expr} {es : List Expr} {m : CV} {ms : VA} (hc : CallV X (.type T) m) (hg : Gl X x) (hm : X.mg x = none) (hv : bootBuiltins x = some (.type T)) (ha : PA X (e :: es) (LA X.K ms)) (hn : x ≠ "__name__" := by decide) (hdb : (x == ("__debug__" : Str)) = false := by decide)
    (he : starEach (e :: es) X.env = (false, eval e X.env) :: starEach es X.env := by rfl) (hpl : (backTo pos (starEach es X.env)).any (·.1) = false := by rfl) : PE X (.Call (.Name x p) (e :: es) [] pos) (LE X.K (mCB m ms)) := by
  obtain ⟨r, h1, h2⟩ := hc
  exact PE.imp (pe_callTy h1 hg hm hv ha hn hdb he hpl) fun σ H Q' q => le_cb h2 σ H Q' q
def mLen : CV := fun ds S Q => match ds with
  | [.str z] => z.length ≤ sizeLine ∧ Q (.int z.length) S
  | [d] => match rdS d S with
    | some ds => Q (.int ds.length) S
    | none => False
  | _ => False
theorem cv_len : CallV X (.builtin "len") mLen := by
  refine ⟨_, call_len, ?_⟩
  intro ds vs G S H Q Q' vw rl h k
  unfold mLen at h
  split at h
  · cases rl with
    | cons r t =>
      cases t; cases r
      exact ⟨_, _, rfl, ⟨h.1, rfl⟩, k _ S _ H G (Aft.refl vw) (.int _) h.2⟩
  · rename_i d _
    cases rl with
    | cons r t =>
      cases t
      split at h
      · rename_i es e
        obtain ⟨a, xs, rfl, q, l⟩ := rdS_ok vw r e
        refine ⟨_, es.length, rfl, ?_, k _ S _ H G (Aft.refl vw) (.int _) h⟩
        rcases q with q | q
        · exact .inl ⟨xs, q, l.length.symm⟩
        · exact .inr ⟨xs, q, l.length.symm⟩
      · exact h.elim
  · exact h.elim
def mInt1 (g : Int → Int) : CV := fun ds S Q => match ds with
  | [.int i] => Q (.int (g i)) S
  | _ => False
def mInt2 (g : Int → Int → Int) : CV := fun ds S Q => match ds with
  | [.int i, .int j] => Q (.int (g i j)) S
  | _ => False
theorem cv_abs : CallV X (.builtin "abs") (mInt1 fun i => if i < 0 then -i else i) := by
  refine ⟨_, call_abs, ?_⟩
  intro ds vs G S H Q Q' vw rl h k
  unfold mInt1 at h
  split at h
  · cases rl with
    | cons r t => cases t; cases r; exact ⟨_, rfl, k _ S _ H G (Aft.refl vw) (.int _) h⟩
  · exact h.elim
theorem cv_max2 (hc : X.calm = true) : CallV X (.builtin "max") (mInt2 fun i j => if j > i then j else i) := by
  refine ⟨_, call_max2 hc, ?_⟩
  intro ds vs G S H Q Q' vw rl h k
  unfold mInt2 at h
  split at h
  · cases rl with
    | cons r t =>
      cases t with
      | cons r2 t => cases t; cases r; cases r2; exact ⟨_, _, rfl, k _ S _ H G (Aft.refl vw) (.int _) h⟩
  · exact h.elim
theorem cv_min2 (hc : X.calm = true) : CallV X (.builtin "min") (mInt2 fun i j => if j < i then j else i) := by
  refine ⟨_, call_min2 hc, ?_⟩
  intro ds vs G S H Q Q' vw rl h k
  unfold mInt2 at h
  split at h
  · cases rl with
    | cons r t =>
      cases t with
      | cons r2 t => cases t; cases r; cases r2; exact ⟨_, _, rfl, k _ S _ H G (Aft.refl vw) (.int _) h⟩
  · exact h.elim
/-- all, any over a list of truths -/
def bls : List D → Option (List Bool)
  | [] => some []
  | .bl b :: ds => (bls ds).map (b :: ·)
  | _ :: _ => none
theorem bls_ok {K : PySem.W.Frag} {G : Hp} : ∀ {xs : List V} {ds : List D} {bs : List Bool}, RpL K G xs ds → bls ds = some bs → xs = bs.map V.bl
  | _, _, _, .nil, h => by simp [bls] at h; subst h; rfl
  | _, _, _, .cons r t, h => by
    cases r <;> try (simp [bls] at h; done)
    rename_i b ds' _
    cases e : bls ds' with
    | none => simp [bls, e] at h
    | some bs' => simp [bls, e] at h; subst h; rw [bls_ok t e]; rfl
theorem bls_map (bs : List Bool) : bls (bs.map D.bl) = some bs := by
  induction bs with
  | nil => rfl
  | cons b bs ih => simp [bls, ih]
def mBls (g : List Bool → Bool) : CV := fun ds S Q => match ds with
  | [d] => match rdR d S with
    | some ds => (match bls ds with
      | some bs => Q (.bl (g bs)) S
      | none => False)
    | none => False
  | _ => False
theorem lrc_bls {r : List V → Hp → VK → Prop} {g : List Bool → Bool} (hr : ∀ a bs H Q, SqL X.K H a (bs.map V.bl) → Q (.bl (g bs)) H → r [.ref a] H Q) : LRC X.K r (mBls g) := by
  intro ds vs G S H Q Q' vw rl h k
  unfold mBls at h
  split at h
  · cases rl with
    | cons r t =>
      cases t
      split at h
      · rename_i es e
        split at h
        · rename_i bs e2
          obtain ⟨a, xs, rfl, q, l⟩ := rdR_ok vw r e
          rw [bls_ok l e2] at q
          exact hr a bs H Q' q (k _ S _ H G (Aft.refl vw) (.bl _) h)
        · exact h.elim
      · exact h.elim
  · exact h.elim
theorem cv_all (hc : X.calm = true) : CallV X (.builtin "all") (mBls fun bs => bs.all id) := ⟨_, cr_all hc, lrc_bls fun a bs H Q h q => ⟨a, bs, rfl, h, q⟩⟩
/-- tuple(xs), list(xs) -/
def mTupOf : CV := fun ds S Q => match ds with
  | [.tup es] => Q (.tup es) S
  | [d] => match rdR d S with
    | some es => Q (.tup es) S
    | none => False
  | _ => False
theorem cv_tuple : CallV X (.type "tuple") mTupOf := by
  refine ⟨_, call_tuple_of, ?_⟩
  intro ds vs G S H Q Q' vw rl h k
  unfold mTupOf at h
  split at h
  · cases rl with
    | cons r t =>
      cases t
      cases r with
      | tup ht l => exact ⟨_, _, rfl, .inr ⟨same_t vw.gh ht, k _ S _ H G (Aft.refl vw) (.tup ht l) h⟩⟩
  · cases rl with
    | cons r t =>
      cases t
      split at h
      · rename_i es e
        obtain ⟨a, xs, rfl, q, l⟩ := rdR_ok vw r e
        refine ⟨_, _, rfl, .inl ⟨q, fun p hp => ?_⟩⟩
        have a3 := vw.froze (o := .tup xs) hp
        exact k _ S _ _ _ a3 (.tup (SqT.of upd_same) (l.mono a3.gg)) h
      · exact h.elim
  · exact h.elim
/-- list(xs): frozen -/
def mLstOf : CV := fun ds S Q => match ds with
  | [d] => match rdS d S with
    | some es => Q (.lst es) S
    | none => False
  | _ => False
theorem cv_list : CallV X (.type "list") mLstOf := by
  refine ⟨_, call_list_of, ?_⟩
  intro ds vs G S H Q Q' vw rl h k
  unfold mLstOf at h
  split at h
  · cases rl with
    | cons r t =>
      cases t
      split at h
      · rename_i es e
        obtain ⟨a, xs, rfl, q, l⟩ := rdS_ok vw r e
        refine ⟨_, _, rfl, q, fun p hp => ?_⟩
        have a3 := vw.froze (o := .lst xs) hp
        exact k _ S _ _ _ a3 (.lst upd_same (l.mono a3.gg)) h
      · exact h.elim
  · exact h.elim
def tyn (d : D) (S : Store) : String := match d with
  | .non => "NoneType" | .bl _ => "bool" | .int _ => "int" | .str _ => "str" | .tup _ => "tuple" | .lst _ => "list" | .ro _ => "list" | .dct _ => "dict"
  | .ref a => match S a with
    | some (.lst _) => "list"
    | some (.dct _) => "dict"
    | _ => "?"
def isT (t n : String) : Bool := decide (t = n) || (decide (t = "bool") && decide (n = "int"))
def mIsi (n : String) (m : VE) : VE := fun ρ S Q => m ρ S fun d S1 => tyn d S1 ≠ "?" ∧ Q (.bl (isT (tyn d S1) n)) S1
theorem kit_isT : ∀ t ∈ ["NoneType", "bool", "int", "str", "tuple", "list", "dict"], ∀ n ∈ ["bool", "int", "str", "tuple", "list", "dict"], kitB t n = some (isT t n) := by decide +kernel
theorem tyn_mem (d : D) (S : Store) (h : tyn d S ≠ "?") : tyn d S ∈ ["NoneType", "bool", "int", "str", "tuple", "list", "dict"] := by
  cases d <;> try (simp [tyn]; done)
  rename_i a
  simp only [tyn] at h ⊢
  split <;> simp_all
theorem tyx_of {K : PySem.W.Frag} {G H : Hp} {S : Store} {d : D} {v : V} (vw : View K G S H) (h : tyn d S ≠ "?") (r : Rp K G v d) : TyX K H v (.type (tyn d S)) := by
  have lst : ∀ {a xs}, SqL K H a xs → TyX K H (.ref a) (.type "list") := fun q => by
    rcases q with (q | ⟨o, q⟩) | ⟨o, its, n, q, c, _⟩
    · exact .base (.lst q)
    · exact .base (.frz q)
    · exact .kList q c
  cases r with
  | non => exact .base .non
  | bl b => exact .base (.bl b)
  | int i => exact .base (.int i)
  | str x => exact .base (.str x)
  | tup q _ =>
    rcases same_t vw.gh q with (q | ⟨o, q⟩) | ⟨o, its, n, q, c, _⟩
    · exact .base (.tup q)
    · exact .fTuple q
    · exact .kTuple q c
  | lst q _ => exact .base (.lst (vw.gh _ _ q))
  | ro q _ => exact lst (vw.gh.seq q)
  | dct q _ =>
    exact .fDict (vw.gh _ _ q)
  | ref a =>
    simp only [tyn] at h ⊢
    split
    · rename_i e
      obtain ⟨_, u, hu, k⟩ := vw.st a _ e
      cases k with
      | lst _ => exact .base (.lst hu)
    · rename_i e
      obtain ⟨_, u, hu, k⟩ := vw.st a _ e
      cases k with
      | dct _ => exact .base (.dK hu)
    · rename_i n1 n2
      exfalso
      revert h
      split
      · rename_i e; exact fun _ => n1 _ e
      · rename_i e; exact fun _ => n2 _ e
      · exact fun z => z rfl
theorem v_isi (n : String) {x y : Str} {p p2 pos : Pos} {e : Expr} {m : VE} (hn : n ∈ ["bool", "int", "str", "tuple", "list", "dict"]) (hg : Gl X x) (hm : X.mg x = none) (hv : bootBuiltins x = some (.builtin "isinstance")) (hg2 : Gl X y) (hm2 : X.mg y = none) (hv2 : bootBuiltins y = some (.type n)) (he : PE X e (LE X.K m))
    (hst : starEach [e, .Name y p2] X.env = (false, eval e X.env) :: starEach [.Name y p2] X.env := by rfl) (hx : x ≠ "__name__" := by decide) (hdb : (x == ("__debug__" : Str)) = false := by decide) (hy : y ≠ "__name__" := by decide) (hdb2 : (y == ("__debug__" : Str)) = false := by decide) :
    PE X (.Call (.Name x p) [e, .Name y p2] [] pos) (LE X.K (mIsi n m)) := by
  refine PE.imp (pe_callB call_isi hg hm hv (pa_cons he (pa_cons (pe_bltn (v := .ty n) hg2 hm2 hv2 rfl hy hdb2) pa_nil) hst) hx hdb hst) fun σ H Q' ⟨ρ, S, G, Q, vw, re, hm, k⟩ => ?_
  refine ⟨ρ, S, G, _, vw, re, hm, fun d S1 v1 H1 G1 a1 r1 h1 => ?_⟩
  refine ⟨v1, .ty n, _, _, isT (tyn d S1) n, rfl, .ty n, tyx_of a1.vw h1.1 r1, kit_ty (kit_isT _ (tyn_mem d S1 h1.1) n hn), k _ S1 _ H1 G1 a1 (.bl _) h1.2⟩
structure FnG (P : Program) (w : World) (K : PySem.W.Frag) (mg : Str → Option Value) (base : Heap) (CX : CXT) (k : Nat) (f : Addr) (fd : FuncData) (ps : List Str) (sp : Sp) : Prop where
  len : ∀ vs H Q E, sp vs H Q E → vs.length = ps.length
  go : ∀ (A : Around) (outer : List Env) (s : Shared) (H : Hp) (args : Args) (us : List Value) (vs : List V) (Q : VK) (E : XK), Room k A → A.guards = some [] → Env0 P w K mg base A outer s H → BindsTo s fd args (ps.zip us) → Vals vs us →
    sp vs H Q E → codeAny (model P w) A (.call (.ref f) args) (CR CX outer P w H s Q E) s
theorem FnG.mono {P : Program} {w : World} {K : PySem.W.Frag} {mg : Str → Option Value} {base : Heap} {CX : CXT} {j k : Nat} {f : Addr} {fd : FuncData} {ps : List Str} {sp : Sp} (F : FnG P w K mg base CX j f fd ps sp) (h : j ≤ k) : FnG P w K mg base CX k f fd ps sp :=
  ⟨F.len, fun A outer s H args us vs Q E hr hg => F.go A outer s H args us vs Q E (hr.mono h) hg⟩
section
variable {CX : CXT} {k : Nat} {f : Addr} {fd : FuncData} {ps : List Str} {sp : Sp} {dvs : List V} {ds : List Value} {E : XK} {x : Str} {p pos : Pos} {e : Expr} {es : List Expr} {t : TA}
theorem go_fn {pins : List (Addr × Obj)} {σ : L2.St} {H : Hp} {s : Shared} {Q : VK} {us : List Value} {vs : List V} (F : FnG X.prog X.w X.K X.mg X.base CX k f fd ps sp) (hr : Room k X.A) (hgd : X.A.guards = some []) (hb : Binds X.K fd ps ds) (hd : Vals dvs ds) (hx : Passes CX X E)
    (I : Inv X pins σ H s) (r : Vals vs us) (h : sp (vs ++ dvs) H Q E) : wpAny (model X.prog X.w) X.A (call (.ref f) us) (EP X pins σ Q) X.xe s := by
  have r' := r.append hd
  have len : (us ++ ds).length = ps.length := r'.length.symm.trans (F.len _ _ _ _ h)
  refine wpAny_call (codeAny_mono (F.go X.A X.stack s H _ _ _ Q E hr hgd I.env0 (hb s us I.kIn len) r' h) fun res s' hq => ?_)
  match res, hq with
  | .error e, hq => exact hx pins σ H s e s' I hq
  | .ok (.ret u), hq => exact I.after hq
  | .ok .next, hq => exact (show False from hq).elim
  | .ok .brk, hq => exact (show False from hq).elim
  | .ok .cont, hq => exact (show False from hq).elim
theorem pg_call (F : FnG X.prog X.w X.K X.mg X.base CX k f fd ps sp) (hr : Room k X.A) (hgd : X.A.guards = some []) (hg : Gl X x) (hm : X.mg x = some (.ref f)) (hk : PySem.W.keepIn X.K (.ref f) = true) (hb : Binds X.K fd ps ds) (hd : Vals dvs ds) (hx : Passes CX X E)
    (ha : PA X (e :: es) t) (hdb : (x == ("__debug__" : Str)) = false := by decide) (he : starEach (e :: es) X.env = (false, eval e X.env) :: starEach es X.env := by rfl) (hpl : (backTo pos (starEach es X.env)).any (·.1) = false := by rfl) :
    PE X (.Call (.Name x p) (e :: es) [] pos) (tCall sp dvs E t) :=
  ⟨fun pins s σ H Q I h => wpAny_Call_Name_kw (ld_glob I hg hm
    (PySem.W.callWith_K (h₀ := X.base) I.ok.mod.kin hk (thn (ha.run pos pins s σ H _ I h) fun us s1 ⟨vs, H1, I1, r, q⟩ => ⟨I1.kIn, go_fn F hr hgd hb hd hx I1 r q⟩) he hpl) hdb)⟩
theorem pg_call0 (F : FnG X.prog X.w X.K X.mg X.base CX k f fd ps sp) (hr : Room k X.A) (hgd : X.A.guards = some []) (hg : Gl X x) (hm : X.mg x = some (.ref f)) (hk : PySem.W.keepIn X.K (.ref f) = true) (hb : Binds X.K fd ps ds) (hd : Vals dvs ds) (hx : Passes CX X E)
    (hdb : (x == ("__debug__" : Str)) = false := by decide) : PE X (.Call (.Name x p) [] [] pos) (tCall sp dvs E tNil) :=
  ⟨fun pins s σ H Q I h => wpAny_Call_Name_kw (ld_glob I hg hm (PySem.W.callWith_K0 I.kIn hk (go_fn (us := []) F hr hgd hb hd hx I .nil h)) hdb)⟩
end
/-- what is handed back may be locked -/
def tEnd (Q : VK) : VK := fun v H' => Q v H' ∨ ∃ d u, v = .ref d ∧ H' d = some u ∧ Mut (some u) ∧ ∀ od, Q v (upd H' d (.frz od u))
theorem g_of {CX : CXT} {P : Program} {w : World} {K : PySem.W.Frag} {mg : Str → Option Value} {base : Heap} {k : Nat} {f : Addr} {name qual : Str} {params : Arguments} {body : List Stmt} {scope : Scope} {dV kV doc pm cdv ct oc : Value} {an od : Option Addr}
    {osl : Array (Option Value)} {N ps : List Str} {sp : Sp} (lk : K.lookup f = some ⟨oc, od, .func (PySem.W.fnOf name qual params body scope dV kV doc pm an cdv ct), osl⟩) (hcd : PySem.W.codeIn K cdv qual = true) (S : FnScope N ps scope)
    (len : ∀ vs H Q E, sp vs H Q E → vs.length = ps.length)
    (hbody : ∀ (A : Around) (outer : List Env) (s : Shared) (H : Hp) (E : XK), Room k (A.deeper (envOfC qual scope s.heap.objs.size f cdv)) → A.guards = some [] →
      ∃ t, PSs (cxOf CX P w K mg base N qual scope f cdv A outer s H E) body t ∧ ∀ vs Q, sp vs H Q E → t { nx := fun _ H' => Q .non H', rt := tEnd Q } (L2.start N vs) H) :
    FnG P w K mg base CX (k + 1) f (PySem.W.fnOf name qual params body scope dV kV doc pm an cdv ct) ps sp := by
  refine ⟨len, fun A outer s H args us vs Q E hr hgd e0 hb r hsp => ?_⟩
  obtain ⟨t, ht, hq⟩ := hbody A outer s H E (hr.deeper _) hgd
  have stays : ∀ b o, base.get? b = some o → s.heap.get? b = some o := fun b o e => (e0.bs b o e).1
  refine codeAny_call_function hr.depth (e0.mod.kin.keeps stays _ _ lk) rfl S.co S.gen rfl (PySem.W.codeRec_of (e0.mod.kin.keeps stays) hcd) (hb _ _ _ _ ?_)
  refine wpAny_newFunctionEnv_cells S.kind (fun ⟨n, v⟩ hy => (S.par n (List.of_mem_zip hy).1).elim .inl fun q => .inr ⟨q, PySem.W.cellsFrom_some _ _ _ (.inl q)⟩) fun env he s1 x => ?_
  subst he
  refine ⟨(e0.mod.nolimit.keeps stays).keeps x.toInCall.keep, codeAny_func ?_⟩
  refine wpAny_mono (ht.run [] s1 (L2.start N vs) H _ (inv_start (CX := CX) (E := E) S hr.hd e0 (len _ _ _ _ hsp) r x) (hq vs Q hsp)) (fun fl s' hs => ?_) fun _ _ z => z
  match fl, hs with
  | .ret u, ⟨v, σ', H', J, rv, q⟩ =>
    rcases q with q | ⟨d, w, ev, hd, mu, q⟩
    · exact ⟨v, H', J.os, J.bare, J.base, J.hok, rv, q⟩
    · obtain ⟨od, J2⟩ := J.lock hd mu
      exact ⟨v, _, J2.os, J2.bare, J2.base, J2.hok, rv, q od⟩
  | .next, ⟨σ', H', J, q⟩ => exact ⟨V.non, H', J.os, J.bare, J.base, J.hok, (rfl : RelV .non Value.none), q⟩
  | .brk, ⟨_, _, _, q⟩ => exact q.elim
  | .cont, ⟨_, _, _, q⟩ => exact q.elim
abbrev VSp := List D → Store → (D → Store → Prop) → Prop
def LSp (K : PySem.W.Frag) (n : Nat) (sp : VSp) : Sp := fun vs H Q _ => vs.length = n ∧ ∃ ds S G Qv, View K G S H ∧ RpL K G vs ds ∧ sp ds S Qv ∧ ∀ d S' v H' G', Aft K G S H S' H' G' → Rp K G' v d → Qv d S' → Q v H'
/-- the def of that name keeps its promise (it lets no exception out) -/
structure DefV (P : Program) (w : World) (K : PySem.W.Frag) (mg : Str → Option Value) (base : Heap) (k : Nat) (x : Str) (ps : List Str) (sp : VSp) : Prop where
  ex : ∃ (f : Addr) (fd : FuncData), mg x = some (.ref f) ∧ PySem.W.keepIn K (.ref f) = true ∧ Binds K fd ps [] ∧ FnG P w K mg base CX0 k f fd ps (LSp K ps.length sp)
  run : ∀ (st : Stmt) (f : Addr) (fd : FuncData), mg x = some (.ref f) → Fun K x x st f fd → FnG P w K mg base CX0 k f fd ps (LSp K ps.length sp)
def mCall (n : Nat) (sp : VSp) (ms : VA) : VE := fun ρ S Q => ms ρ S fun ds S1 => ds.length = n ∧ sp ds S1 Q
theorem v_call {k : Nat} {x : Str} {ps : List Str} {sp : VSp} {p pos : Pos} {e : Expr} {es : List Expr} {ms : VA} (F : DefV X.prog X.w X.K X.mg X.base k x ps sp) (hr : Room k X.A) (hgd : X.A.guards = some []) (hg : Gl X x)
    (ha : PA X (e :: es) (LA X.K ms)) (hdb : (x == ("__debug__" : Str)) = false := by decide) (he : starEach (e :: es) X.env = (false, eval e X.env) :: starEach es X.env := by rfl) (hpl : (backTo pos (starEach es X.env)).any (·.1) = false := by rfl) :
    PE X (.Call (.Name x p) (e :: es) [] pos) (LE X.K (mCall ps.length sp ms)) := by
  obtain ⟨f, fd, hm, hk, hb, G⟩ := F.ex
  refine PE.imp (pg_call G hr hgd hg hm hk hb .nil pass0 ha hdb he hpl) fun σ H Q' ⟨ρ, S, G, Q, vw, re, hm, k⟩ => ?_
  refine ⟨ρ, S, G, _, vw, re, hm, fun ds S1 vs H1 G1 a1 r1 h1 => ?_⟩
  exact ⟨by rw [List.append_nil, r1.length]; exact h1.1, ds, S1, G1, Q, a1.vw, by rw [List.append_nil]; exact r1, h1.2, fun d S' v H' G' a2 r2 q => k d S' v H' G' (a1.trans a2) r2 q⟩
theorem v_call0 {k : Nat} {x : Str} {sp : VSp} {p pos : Pos} (F : DefV X.prog X.w X.K X.mg X.base k x [] sp) (hr : Room k X.A) (hgd : X.A.guards = some []) (hg : Gl X x) (hdb : (x == ("__debug__" : Str)) = false := by decide) :
    PE X (.Call (.Name x p) [] [] pos) (LE X.K (mCall 0 sp mNil)) := by
  obtain ⟨f, fd, hm, hk, hb, G⟩ := F.ex
  refine PE.imp (pg_call0 G hr hgd hg hm hk hb .nil pass0 hdb) fun σ H Q' ⟨ρ, S, G, Q, vw, re, hm, k⟩ => ?_
  exact ⟨rfl, [], S, G, Q, vw, .nil, hm.2, k⟩
/-- what a def hands back may be told less of: a new thing frozen, or forgotten -/
inductive Settle : D → Store → D → Store → Prop
  | drop {d : D} {S S1 : Store} (h : ∀ a o, S1 a = some o → S a = some o) : Settle d S d S1
  | lst {a : Addr} {ds : List D} {S S1 : Store} (h : S a = some (.lst ds)) (n : S1 a = none) (s : ∀ b o, S1 b = some o → S b = some o) : Settle (.ref a) S (.lst ds) S1
  | dct {a : Addr} {ds : List (Key × D)} {S S1 : Store} (h : S a = some (.dct ds)) (n : S1 a = none) (s : ∀ b o, S1 b = some o → S b = some o) : Settle (.ref a) S (.dct ds) S1
theorem View.locks {K : PySem.W.Frag} {G H : Hp} {S S1 : Store} (v : View K G S H) {a : Addr} {o : SO} {u' : HO} (h : S a = some o) (hn : S1 a = Option.none) (hs : ∀ b x, S1 b = some x → S b = some x) : Aft K G S H S1 (upd H a u') (upd G a u') := by
  obtain ⟨g, _⟩ := v.st a o h
  have gg : Same G (upd G a u') := fun c w e => by rw [upd_ne (ne_of_none e g)]; exact e
  refine ⟨fun b x hS e => ?_, gg, ⟨fun b x e => ?_, fun b x e => ?_⟩⟩
  · have hb : b ≠ a := fun z => by subst z; rw [h] at hS; cases hS
    refine ⟨by rw [upd_ne hb]; exact e, ?_, by rw [upd_ne hb]⟩
    cases q : S1 b with
    | none => rfl
    | some o => rw [hs b o q] at hS; cases hS
  · by_cases hb : b = a
    · subst hb; rw [upd_same] at e ⊢; exact e
    · rw [upd_ne hb] at e ⊢; exact v.gh b x e
  · have hb : b ≠ a := by intro z; subst z; rw [hn] at e; cases e
    obtain ⟨g, x, hx, k⟩ := v.st b _ (hs b _ e)
    exact ⟨by rw [upd_ne hb]; exact g, x, by rw [upd_ne hb]; exact hx, k.mono gg⟩
theorem Settle.ok {K : PySem.W.Frag} {G H : Hp} {S S1 : Store} {d d1 : D} {v : V} (x : Settle d S d1 S1) (vw : View K G S H) (r : Rp K G v d) : (∃ G', Aft K G S H S1 H G' ∧ Rp K G' v d1) ∨ ∃ a u, v = .ref a ∧ H a = some u ∧ Mut (some u) ∧ ∀ od, ∃ G', Aft K G S H S1 (upd H a (.frz od u)) G' ∧ Rp K G' v d1 := by
  cases x with
  | drop h => exact .inl ⟨G, vw.drops h, r⟩
  | @lst a ds _ _ h n s =>
    cases r
    obtain ⟨_, u, hu, k⟩ := vw.st _ _ h
    cases k with
    | lst l => exact .inl ⟨_, vw.freezes h hu n s, .lst upd_same (l.mono (vw.freezes h hu n s).gg)⟩
  | @dct a ds _ _ h n s =>
    cases r
    obtain ⟨_, u, hu, k⟩ := vw.st _ _ h
    cases k with
    | dct l => exact .inr ⟨a, _, rfl, hu, trivial, fun od => ⟨_, vw.locks h n s, .dct upd_same (l.mono (vw.locks h n s).gg)⟩⟩
theorem Settle.okN {K : PySem.W.Frag} {G H : Hp} {S S1 : Store} {d1 : D} (x : Settle .non S d1 S1) (vw : View K G S H) : ∃ G', Aft K G S H S1 H G' ∧ Rp K G' .non d1 := by
  cases x with
  | drop h => exact ⟨G, vw.drops h, .non⟩
def Fin (Q : D → Store → Prop) : D → Store → Prop := fun d S => ∃ d1 S1, Settle d S d1 S1 ∧ Q d1 S1
theorem fin_same {Q : D → Store → Prop} {d : D} {S : Store} (h : Q d S) : Fin Q d S := ⟨d, S, .drop fun _ _ h => h, h⟩
theorem Settle.refl (d : D) (S : Store) : Settle d S d S := .drop fun _ _ h => h
/-- the slots at the entry -/
def startD (N : List Str) (ds : List D) : Sl := ds.map some ++ List.replicate (N.length - ds.length) none
theorem getE {α : Type} {l : List α} {i : Nat} {a : α} : l[i]? = some a → i < l.length := fun h => (List.getElem?_eq_some_iff.mp h).1
theorem REnv.start {K : PySem.W.Frag} {G : Hp} {N : List Str} {vs : List V} {ds : List D} (r : RpL K G vs ds) : REnv K G (L2.start N vs) (startD N ds) := by
  have e := r.length
  refine ⟨by simp [L2.start, startD, e], fun i d h => ?_⟩
  have hi : i < ds.length := by
    by_cases hi : i < ds.length
    · exact hi
    · unfold startD at h
      rw [List.getElem?_append_right (by simpa using hi), List.getElem?_replicate] at h
      split at h <;> cases h
  unfold startD at h
  rw [List.getElem?_append_left (by simpa using hi), List.getElem?_map] at h
  cases q : ds[i]? with
  | none => rw [q] at h; cases h
  | some d' =>
    rw [q] at h
    cases h
    obtain ⟨v, hv, rv⟩ := r.get q
    refine ⟨v, ?_, rv⟩
    unfold L2.start
    rw [List.getElem?_append_left (by simpa [e] using hi), List.getElem?_map, hv]
    rfl
/-- a def of the top as it stands behind it -/
def Has (K : PySem.W.Frag) (mg : Str → Option Value) (x : Str) (st : Stmt) : Prop := ∃ f fd, mg x = some (.ref f) ∧ Fun K x x st f fd
/-- the context of a def's body from which no exception goes out -/
abbrev XC (P : Program) (w : World) (K : PySem.W.Frag) (mg : Str → Option Value) (base : Heap) (N : List Str) (x : Str) (sc : Scope) (f : Addr) (cdv : Value) (A : Around) (outer : List Env) (s : Shared) (H : Hp) (E : XK) : Cx := (cxOf CX0 P w K mg base N x sc f cdv A outer s H E).nox
theorem DefV.mk' {P : Program} {w : World} {K : PySem.W.Frag} {mg : Str → Option Value} {base : Heap} {k : Nat} {x : Str} {N ps : List Str} {st : Stmt} {sp : VSp} (h : Has K mg x st) (Sc : FnScope N ps (defScope st))
    (hb : ∀ (kV doc pm : Value) (an : Option Addr) (cdv ct : Value) (us : List Value), us.length = ps.length → bindArgs (PySem.W.fnOf x x (defArgs st) (defBody st) (defScope st) .none kV doc pm an cdv ct) ⟨us, []⟩ = pure (ps.zip us))
    (hbody : ∀ (f : Addr) (cdv : Value) (A : Around) (outer : List Env) (s : Shared) (H : Hp) (E : XK), A.guards = some [] → Room k (A.deeper (envOfC x (defScope st) s.heap.objs.size f cdv)) → PySem.W.codeIn K cdv x = true →
      ∃ m, PSs (XC P w K mg base N x (defScope st) f cdv A outer s H E) (defBody st) (LS K m) ∧ ∀ ds S Q, ds.length = ps.length → sp ds S Q → m { nx := fun _ S' => Fin Q .non S', rt := Fin Q } (startD N ds) S) : DefV P w K mg base (k + 1) x ps sp := by
  obtain ⟨f, fd, hm, F⟩ := h
  obtain ⟨oc, od, kV, doc, pm, an, cdv, ct, osl, rfl, lk, hcd⟩ := F.ex
  have main : FnG P w K mg base CX0 (k + 1) f (PySem.W.fnOf x x (defArgs st) (defBody st) (defScope st) .none kV doc pm an cdv ct) ps (LSp K ps.length sp) := by
   refine g_of lk hcd Sc (fun vs H Q E h => h.1) fun A outer s H E hr hg => ?_
   obtain ⟨m, hs, hm'⟩ := hbody f cdv A outer s H E hg hr hcd
   refine ⟨_, PSs.nox hs, fun vs Q h => ?_⟩
   obtain ⟨hl, ds, S, G, Qv, vw, r, q, k'⟩ := h
   refine ⟨startD N ds, S, G, _, vw, REnv.start r, hm' ds S Qv (by rw [← r.length]; exact hl) q, ⟨?_, ?_, ?_, ?_⟩⟩
   · rintro ρ S' σ H' G' a re ⟨d1, S1, st, q1⟩
     obtain ⟨G1, a1, r1⟩ := st.okN a.vw
     exact k' d1 S1 _ H' G1 (a.trans a1) r1 q1
   · rintro d S' v H' G' a rv ⟨d1, S1, st, q1⟩
     rcases st.ok a.vw rv with ⟨G1, a1, r1⟩ | ⟨b, u, ev, hu, mu, k2⟩
     · exact .inl (k' d1 S1 _ H' G1 (a.trans a1) r1 q1)
     · exact .inr ⟨b, u, ev, hu, mu, fun od => let ⟨G1, a1, r1⟩ := k2 od; k' d1 S1 _ _ G1 (a.trans a1) r1 q1⟩
   · intro ρ S' σ H' G' a re q; exact q.elim
   · intro ρ S' σ H' G' a re q; exact q.elim
  refine ⟨⟨f, _, hm, F.kp, F.binds hb, main⟩, fun st2 f2 fd2 hm2 F2 => ?_⟩
  have ef : f2 = f := by rw [hm] at hm2; injection hm2 with e; injection e with e; exact e.symm
  subst ef
  obtain ⟨_, _, _, _, _, _, _, _, _, e2, lk2, _⟩ := F2.ex
  rw [lk] at lk2
  have efd : fd2 = PySem.W.fnOf x x (defArgs st) (defBody st) (defScope st) .none kV doc pm an cdv ct := by
    injection lk2 with e
    injection e with _ _ e _
    injection e with e
    exact e.symm
  rw [efd]
  exact main
end
end VL
set_option maxHeartbeats 2000000
namespace VL
open PySem PySem.Spec L2
open PyProof.Rows hiding St
section
variable {X : Cx}
def mNx : VS := fun E ρ S => E.nx ρ S
def VEnds.on (E : VEnds) (f : Sl → Store → Prop) : VEnds := { E with nx := f }
theorem on_nx {E : VEnds} {f : Sl → Store → Prop} : (E.on f).nx = f := rfl
theorem on_rt {E : VEnds} {f : Sl → Store → Prop} : (E.on f).rt = E.rt := rfl
theorem on_bk {E : VEnds} {f : Sl → Store → Prop} : (E.on f).bk = E.bk := rfl
theorem on_ct {E : VEnds} {f : Sl → Store → Prop} : (E.on f).ct = E.ct := rfl
def VEnds.loop (E : VEnds) (f : Sl → Store → Prop) : VEnds := { E with nx := f, ct := f, bk := E.nx }
theorem lo_nx {E : VEnds} {f : Sl → Store → Prop} : (E.loop f).nx = f := rfl
theorem lo_rt {E : VEnds} {f : Sl → Store → Prop} : (E.loop f).rt = E.rt := rfl
theorem lo_bk {E : VEnds} {f : Sl → Store → Prop} : (E.loop f).bk = E.nx := rfl
theorem lo_ct {E : VEnds} {f : Sl → Store → Prop} : (E.loop f).ct = f := rfl
def mSeq (t u : VS) : VS := fun E ρ S => t (E.on fun ρ' S' => u E ρ' S') ρ S
theorem s_nil : PSs X [] (LS X.K mNx) := PSs.imp pss_nil fun D' σ H ⟨ρ, S, G, E, vw, re, hm, ok⟩ => ok.nx ρ S σ H G (Aft.refl vw) re hm
theorem s_cons {st : Stmt} {rest : List Stmt} {t u : VS} (h1 : PS X st (LS X.K t)) (h2 : PSs X rest (LS X.K u)) : PSs X (st :: rest) (LS X.K (mSeq t u)) :=
  PSs.imp (pss_cons h1 h2) fun D' σ H ⟨ρ, S, G, E, vw, re, hm, ok⟩ => ⟨ρ, S, G, _, vw, re, hm, ⟨fun ρ' S' σ' H' G' a r q => ⟨ρ', S', G', E, a.vw, r, q, ok.after a⟩, ok.rt, ok.bk, ok.ct⟩⟩
theorem s_one {st : Stmt} {t : VS} (h1 : PS X st (LS X.K t)) : PSs X [st] (LS X.K t) := pss_one h1
def mRet (m : VE) : VS := fun E ρ S => m ρ S E.rt
theorem s_ret {e : Expr} {m : VE} {pos : Pos} (he : PE X e (LE X.K m)) : PS X (.Return (some e) pos) (LS X.K (mRet m)) :=
  PS.imp (ps_ret he) fun D' σ H ⟨ρ, S, G, E, vw, re, hm, ok⟩ => ⟨ρ, S, G, _, vw, re, hm, fun d S' v H' G' a r q => ok.rt d S' v H' G' a r q⟩
def mIf (c : VT) (t u : VS) : VS := fun E ρ S => c ρ S fun b S1 => if b = true then t E ρ S1 else u E ρ S1
theorem s_if {c : Expr} {a b : List Stmt} {mc : VT} {t u : VS} {pos : Pos} (hc : PT X c (LT X.K mc)) (ha : PSs X a (LS X.K t)) (hb : PSs X b (LS X.K u)) : PS X (.If c a b pos) (LS X.K (mIf mc t u)) := by
  refine PS.imp (ps_if hc ha hb) fun D' σ H ⟨ρ, S, G, E, vw, re, hm, ok⟩ => ⟨ρ, S, G, _, vw, re, hm, fun d S' H' G' a q => ?_⟩
  cases d with
  | true => exact ⟨ρ, S', G', E, a.vw, re.mono a.gg, q, ok.after a⟩
  | false => exact ⟨ρ, S', G', E, a.vw, re.mono a.gg, q, ok.after a⟩
abbrev VG := D → Sl → Store → (Sl → Store → Prop) → Prop
def LG (K : PySem.W.Frag) (m : VG) : TG := fun v σ H Q' => ∃ ρ S G d Q, View K G S H ∧ REnv K G σ ρ ∧ Rp K G v d ∧ m d ρ S Q ∧ ∀ ρ' S' σ' H' G', Aft K G S H S' H' G' → REnv K G' σ' ρ' → Q ρ' S' → Q' σ' H'
theorem PG.imp {tg : Expr} {t t' : TG} (h : PG X tg t) (i : ∀ v σ H Q, t' v σ H Q → t v σ H Q) : PG X tg t' := ⟨fun pins s σ H v u Q I r q => h.run pins s σ H v u Q I r (i v σ H Q q)⟩
def mAsg (m : VE) (g : VG) : VS := fun E ρ S => m ρ S fun d S1 => g d ρ S1 E.nx
theorem s_asg {tg e : Expr} {m : VE} {g : VG} {pos : Pos} (he : PE X e (LE X.K m)) (hg : PG X tg (LG X.K g)) (hs : swapsWithSole [tg] e pos.line X.env = pure false := by rfl) (hw : swappedStores [tg] e X.env = pure none := by rfl) (h1 : (assignEach [tg] X.env).map (·.2) = [assign tg X.env] := by rfl) : PS X (.Assign [tg] e pos) (LS X.K (mAsg m g)) :=
  PS.imp (ps_asg he hg hs hw h1) fun D' σ H ⟨ρ, S, G, E, vw, re, hm, ok⟩ => ⟨ρ, S, G, _, vw, re, hm, fun d S' v H' G' a r q => ⟨ρ, S', G', d, _, a.vw, re.mono a.gg, r, q, fun ρ' S2 σ' H2 G2 a2 r2 q2 => ok.nx ρ' S2 σ' H2 G2 (a.trans a2) r2 q2⟩⟩
def mSet (i : Nat) (m : VE) : VS := fun E ρ S => m ρ S fun d S1 => E.nx (ρ.set i (some d)) S1
theorem s_set (i : Nat) {x : Str} {e : Expr} {m : VE} {pos pos' : Pos} (hN : X.N.Nodup) (hi : X.N[i]? = some x) (hx : Loc X.env.scope x) (he : PE X e (LE X.K m)) (hs : swapsWith e (some (.Name x pos')) pos.line X.env = pure false := by rfl) (hf : X.fn x = true ∨ X.env.scope.names.lookup x = some .local := by first | exact .inl rfl | exact .inr rfl | assumption) :
    PS X (.Assign [.Name x pos'] e pos) (LS X.K (mSet i m)) :=
  PS.imp (ps_set hN hi hx he hs hf) fun D' σ H ⟨ρ, S, G, E, vw, re, hm, ok⟩ => ⟨ρ, S, G, _, vw, re, hm, fun d S' v H' G' a r q => ok.nx _ S' _ H' G' a ((re.mono a.gg).set r) q⟩
/-- names, or a tuple of names -/
inductive CT where
  | one (i : Nat) | many (is : List Nat)
def gNames : List Nat → TGs
  | [] => gNil
  | i :: is => gCons (gName i) (gNames is)
def gCT (K : PySem.W.Frag) : CT → TG
  | .one i => gName i
  | .many is => gTup K is.length (gNames is)
def mCT (c : CT) (d : D) (ρ : Sl) : Option Sl := match c, d with
  | .one i, d => some (ρ.set i (some d))
  | .many is, .tup ds => if ds.length = is.length then some (setAll ρ is ds) else none
  | .many _, _ => none
def CT.within (vs : List Nat) : CT → Prop
  | .one i => i ∈ vs
  | .many is => ∀ i ∈ is, i ∈ vs
theorem gNames_ok {H : Hp} : ∀ {is : List Nat} {vs : List V} {σ : L2.St} {Qt : L2.St → Hp → Prop}, vs.length = is.length → Qt (setAll σ is vs) H → gNames is vs σ H Qt
  | [], [], _, _, _, q => ⟨rfl, q⟩
  | i :: is, v :: vs, _, _, h, q => ⟨v, vs, rfl, gNames_ok (is := is) (by simpa using h) q⟩
  | [], _ :: _, _, _, h, _ => by simp at h
  | _ :: _, [], _, _, h, _ => by simp at h
theorem wipe_get {σ : L2.St} (j : Nat) : ∀ vs : List Nat, (L2.wipe σ vs)[j]? = if j ∈ vs ∧ j < σ.length then some none else σ[j]?
  | [] => by simp [L2.wipe]
  | v :: vs => by
    have ih := wipe_get (σ := σ) j vs
    unfold L2.wipe
    rw [List.getElem?_set]
    by_cases hv : v = j
    · subst hv
      rw [if_pos rfl, wipe_length]
      by_cases hl : v < σ.length
      · rw [if_pos hl, if_pos ⟨List.mem_cons_self, hl⟩]
      · rw [if_neg hl, if_neg (fun z => hl z.2), List.getElem?_eq_none (Nat.le_of_not_lt hl)]
    · rw [if_neg hv, ih]
      by_cases hm : j ∈ vs
      · simp [hm]
      · simp [hm, Ne.symm hv]
theorem wipe_eq {σ σ' : L2.St} {vs : List Nat} (hl : σ.length = σ'.length) (h : ∀ j, j ∉ vs → σ[j]? = σ'[j]?) : L2.wipe σ vs = L2.wipe σ' vs := by
  apply List.ext_getElem?
  intro j
  rw [wipe_get, wipe_get, hl]
  by_cases hj : j ∈ vs
  · by_cases hl2 : j < σ'.length
    · rw [if_pos ⟨hj, hl2⟩, if_pos ⟨hj, hl2⟩]
    · rw [if_neg (fun z => hl2 z.2), if_neg (fun z => hl2 z.2), List.getElem?_eq_none (by omega), List.getElem?_eq_none (by omega)]
  · rw [if_neg (fun z => hj z.1), if_neg (fun z => hj z.1), h j hj]
theorem setAll_length {α : Type} : ∀ {is : List Nat} {vs : List α} {σ : List (Option α)}, (setAll σ is vs).length = σ.length
  | [], _, _ => rfl
  | _ :: _, [], _ => rfl
  | i :: is, v :: vs, σ => by unfold setAll; rw [setAll_length (is := is)]; simp
theorem setAll_out {α : Type} {j : Nat} : ∀ {is : List Nat} {vs : List α} {σ : List (Option α)}, j ∉ is → (setAll σ is vs)[j]? = σ[j]?
  | [], _, _, _ => rfl
  | _ :: _, [], _, _ => rfl
  | i :: is, v :: vs, σ, h => by
    unfold setAll
    rw [setAll_out (is := is) (fun z => h (List.mem_cons_of_mem _ z)), List.getElem?_set_ne (fun z => h (by rw [z]; exact List.mem_cons_self))]
theorem gCT_ok {K : PySem.W.Frag} {G H : Hp} {c : CT} {d : D} {v : V} {σ : L2.St} {ρ ρ3 : Sl} (g : Same G H) (re : REnv K G σ ρ) (r : Rp K G v d) (h : mCT c d ρ = some ρ3) :
    ∃ σ3, REnv K G σ3 ρ3 ∧ (∀ vs, c.within vs → L2.wipe σ3 vs = L2.wipe σ vs) ∧ ∀ Qt, Qt σ3 H → gCT K c v σ H Qt := by
  cases c with
  | one i =>
    simp only [mCT, Option.some.injEq] at h
    subst h
    refine ⟨_, re.set r, fun vs hi => wipe_eq (by simp) fun j hj => ?_, fun Qt q => q⟩
    rw [List.getElem?_set_ne (fun z => hj (by rw [← z]; exact hi))]
  | many is =>
    cases r with
    | @tup a xs ds ht l =>
      simp only [mCT] at h
      split at h
      · rename_i hl
        cases h
        refine ⟨setAll σ is xs, re.setAll l, fun vs hi => wipe_eq setAll_length fun j hj => setAll_out fun z => hj (hi j z), fun Qt q => ⟨a, xs, rfl, same_t g ht, by rw [l.length]; exact hl, gNames_ok (by rw [l.length]; exact hl) q⟩⟩
      · cases h
    | _ => simp [mCT] at h
/-- a, b = e -/
def mUnp (is : List Nat) (m : VE) : VS := fun E ρ S => m ρ S fun d S1 => match mCT (.many is) d ρ with
  | some ρ' => E.nx ρ' S1
  | none => False
theorem s_unp {is : List Nat} {tg e : Expr} {m : VE} {pos : Pos} (he : PE X e (LE X.K m)) (hg : PG X tg (gCT X.K (.many is))) (hs : swapsWithSole [tg] e pos.line X.env = pure false := by rfl) (hw : swappedStores [tg] e X.env = pure none := by rfl) (h1 : (assignEach [tg] X.env).map (·.2) = [assign tg X.env] := by rfl) : PS X (.Assign [tg] e pos) (LS X.K (mUnp is m)) := by
  refine PS.imp (ps_asg he hg hs hw h1) fun D' σ H ⟨ρ, S, G, E, vw, re, hm, ok⟩ => ⟨ρ, S, G, _, vw, re, hm, fun d S' v H' G' a r q => ?_⟩
  split at q
  · rename_i ρ' e
    obtain ⟨σ3, r3, _, k3⟩ := gCT_ok a.vw.gh (re.mono a.gg) r e
    exact k3 _ (ok.nx ρ' S' σ3 H' G' a r3 q)
  · exact q.elim
/-- o[i] = e, o a list of the store -/
def gSetIx (mo mi : VE) : VG := fun d ρ S Q => mo ρ S fun o S1 => mi ρ S1 fun i S2 => match o, i with
  | .ref a, .int i => match S2 a with
    | some (.lst ds) => match ixN ds.length i with
      | some j => Q ρ (supd S2 a (.lst (ds.set j d)))
      | none => False
    | _ => False
  | _, _ => False
theorem g_setix {o i : Expr} {mo mi : VE} {pos : Pos} (ho : PE X o (LE X.K mo)) (hi : PE X i (LE X.K mi))
    (hg : PG X (.Subscript o i pos) (gSub (LE X.K mo) (LE X.K mi) rSetL)) : PG X (.Subscript o i pos) (LG X.K (gSetIx mo mi)) := by
  refine PG.imp hg fun v σ H Q' ⟨ρ, S, G, d, Q, vw, re, rd, hm, k⟩ => ?_
  refine ⟨ρ, S, G, _, vw, re, hm, fun o S1 vo H1 G1 a1 r1 h1 => ?_⟩
  refine ⟨ρ, S1, G1, _, a1.vw, re.mono a1.gg, h1, fun i S2 vi H2 G2 a2 r2 h2 => ?_⟩
  split at h2
  · rename_i a i
    cases r1; cases r2
    split at h2
    · rename_i ds e
      split at h2
      · rename_i j ej
        obtain ⟨_, u, hu, ku⟩ := a2.vw.st _ _ e
        cases ku with
        | lst l =>
          have a3 := a2.vw.wrote (o' := .lst (ds.set j d)) e (.lst (l.set ((rd.mono a1.gg).mono a2.gg) j))
          exact ⟨_, _, _, j, rfl, rfl, hu, by rw [l.length]; exact ej, k ρ _ σ _ _ (a1.trans (a2.trans a3)) (re.mono (a1.trans (a2.trans a3)).gg) h2⟩
      · exact h2.elim
    · exact h2.elim
  · exact h2.elim
structure Walks (K : PySem.W.Frag) (G1 : Hp) (kp : Store → Prop) (J : It) (ds : List D) : Prop where
  stop : ∀ (H G : Hp) (S : Store), Same G1 G → View K G S H → kp S → J.stop ds.length H
  goes : ∀ (i : Nat) (H G : Hp) (S : Store), i < ds.length → Same G1 G → View K G S H → kp S → J.go i H
  yld : ∀ (i : Nat) (d : D) (H : Hp) (x : V) (H' G : Hp) (S : Store), ds[i]? = some d → Same G1 G → View K G S H → kp S → J.yld i H x H' → ∃ G', Aft K G S H S H' G' ∧ Rp K G' x d
abbrev VW := Sl → Store → (List D → (Store → Prop) → Store → Prop) → Prop
def LI (K : PySem.W.Frag) (m : VW) : TI := fun σ H R => ∃ ρ S G Q, View K G S H ∧ REnv K G σ ρ ∧ m ρ S Q ∧ ∀ ds kp S' H' G' J, Aft K G S H S' H' G' → Walks K G' kp J ds → Q ds kp S' → R J H'
theorem PI.imp {tg it : Expr} {w w' : TI} (h : PI X tg it w) (i : ∀ σ H R, w' σ H R → w σ H R) : PI X tg it w' := ⟨fun pins s σ H R I q => h.run pins s σ H R I (i σ H R q)⟩
theorem walks_list {K : PySem.W.Frag} {G1 : Hp} {kp : Store → Prop} {a : Addr} {xs : List V} {ds : List D} (hs : ∀ (H G : Hp) (S : Store), Same G1 G → View K G S H → kp S → ∃ xs, SqL K H a xs ∧ RpL K G xs ds) : Walks K G1 kp (Itl K a) ds where
  stop := fun H G S g v k => by
    obtain ⟨xs, q, l⟩ := hs H G S g v k
    exact ⟨xs, q, Nat.le_of_eq l.length⟩
  goes := fun i H G S hi g v k => by
    obtain ⟨xs, q, l⟩ := hs H G S g v k
    exact ⟨xs, xs[i]'(by rw [l.length]; exact hi), q, by simp⟩
  yld := fun i d H x H' G S hd g v k y => by
    obtain ⟨xs, q, l⟩ := hs H G S g v k
    obtain ⟨e, y⟩ := y
    subst e
    obtain ⟨w, hw, r⟩ := l.get hd
    rw [y xs q] at hw
    cases hw
    exact ⟨G, Aft.refl v, r⟩
theorem walks_tup {K : PySem.W.Frag} {G1 : Hp} {a : Addr} {xs : List V} {ds : List D} (ht : SqT K G1 a xs) (l : RpL K G1 xs ds) : Walks K G1 (fun _ => True) (Itt K a) ds where
  stop := fun H G S g v k => ⟨xs, same_t (g.trans v.gh) ht, Nat.le_of_eq l.length⟩
  goes := fun i H G S hi g v k => ⟨xs, xs[i]'(by rw [l.length]; exact hi), same_t (g.trans v.gh) ht, by simp⟩
  yld := fun i d H x H' G S hd g v k y => by
    obtain ⟨e, y⟩ := y
    subst e
    obtain ⟨w, hw, r⟩ := l.get hd
    rw [y xs (same_t (g.trans v.gh) ht)] at hw
    cases hw
    exact ⟨G, Aft.refl v, r.mono g⟩
/-- a list or a tuple -/
def mSq (m : VE) : VW := fun ρ S Q => m ρ S fun d S1 => match d with
  | .tup ds => Q ds (fun _ => True) S1
  | .lst ds => Q ds (fun _ => True) S1
  | .ro ds => Q ds (fun _ => True) S1
  | .ref a => match S1 a with
    | some (.lst ds) => Q ds (fun S2 => S2 a = some (.lst ds)) S1
    | _ => False
  | _ => False
/-- what walks a list or a tuple, by values -/
def iSeq (K : PySem.W.Frag) (tl : TE) : TI := fun σ H R => tl σ H fun x H1 => ∃ a, x = .ref a ∧ (((∃ xs, SqL K H1 a xs) ∧ R (Itl K a) H1) ∨ ((∃ xs, SqT K H1 a xs) ∧ R (Itt K a) H1))
theorem pi_seq {tg it : Expr} {t : TE} (h : PE X it t) : PI X tg it (iSeq X.K t) := by
  refine ⟨fun pins s σ H R I q => thn (h.run pins s σ H _ I q) fun u s1 ⟨x, H1, I1, r1, a, ex, q1⟩ => ?_⟩
  subst ex
  cases r1
  have ok : ∀ b ∈ [s1.heap.objs.size], FpOk X pins H1 b := fun b hb => by
    rw [List.mem_singleton.mp hb]
    exact I1.fpOk (Nat.le_refl _) (I1.hok.fresh (Nat.le_refl _))
  rcases q1 with ⟨⟨xs, hq⟩, q⟩ | ⟨⟨xs, hq⟩, q⟩
  · obtain ⟨its, rv, p, hz⟩ := I1.list hq
    exact wpAny_pyIter_list p.isList ⟨_, [s1.heap.objs.size], _, _, H1, rfl, I1.kept (t' := s1.toks) (fun _ _ z => Heap.get?_push_of_some _ z), turn_list a _, ⟨_, Heap.get?_push_size _ rfl, rfl, rfl⟩, ok, q⟩
  · obtain ⟨its, rv, p, hz⟩ := I1.tuple hq
    exact wpAny_pyIter_tuple (show s1.heap.IsTuple a its.toArray from p) ⟨_, [s1.heap.objs.size], _, _, H1, rfl, I1.kept (t' := s1.toks) (fun _ _ z => Heap.get?_push_of_some _ z), turn_tuple a _, ⟨_, Heap.get?_push_size _ rfl, rfl, rfl⟩, ok, q⟩
theorem i_seq {tg it : Expr} {m : VE} (h : PE X it (LE X.K m)) : PI X tg it (LI X.K (mSq m)) := by
  refine PI.imp (pi_seq h) fun σ H R ⟨ρ, S, G, Q, vw, re, hm, k⟩ => ?_
  refine ⟨ρ, S, G, _, vw, re, hm, fun d S1 v1 H1 G1 a1 r1 h1 => ?_⟩
  cases r1 with
  | @tup a xs ds ht l => exact ⟨a, rfl, .inr ⟨⟨xs, same_t a1.vw.gh ht⟩, k ds _ S1 H1 G1 _ a1 (walks_tup ht l) h1⟩⟩
  | @lst a xs ds ht l => exact ⟨a, rfl, .inl ⟨⟨xs, SqL.of (a1.vw.gh _ _ ht)⟩, k ds _ S1 H1 G1 _ a1 (walks_list (xs := xs) fun H G S g v _ => ⟨xs, SqL.of (v.gh _ _ (g _ _ ht)), l.mono g⟩) h1⟩⟩
  | @ro a xs ds ht l => exact ⟨a, rfl, .inl ⟨⟨xs, a1.vw.gh.seq ht⟩, k ds _ S1 H1 G1 _ a1 (walks_list (xs := xs) fun H G S g v _ => ⟨xs, (g.trans v.gh).seq ht, l.mono g⟩) h1⟩⟩
  | ref a =>
    simp only at h1
    split at h1
    · rename_i ds e
      obtain ⟨_, u, hu, ku⟩ := a1.vw.st _ _ e
      cases ku with
      | @lst xs _ l =>
        refine ⟨a, rfl, .inl ⟨⟨xs, SqL.of hu⟩, k ds _ S1 H1 G1 _ a1 (walks_list (xs := xs) fun H G S g v e2 => ?_) h1⟩⟩
        obtain ⟨_, u2, hu2, ku2⟩ := v.st _ _ e2
        cases ku2 with
        | @lst ys _ l2 => exact ⟨ys, SqL.of hu2, l2⟩
    · exact h1.elim
  | non => exact h1.elim
  | bl => exact h1.elim
  | int => exact h1.elim
  | str => exact h1.elim
  | dct => exact h1.elim
/-- range(n), range(a, b) -/
def rngD (lo : Int) (n : Nat) : List D := (List.range n).map fun i => .int (lo + (i : Nat))
theorem walks_rng {K : PySem.W.Frag} {G1 : Hp} {lo : Int} {n : Nat} : Walks K G1 (fun _ => True) (Itr lo n) (rngD lo n) where
  stop := fun H G S g v k => by show n ≤ (rngD lo n).length; simp [rngD]
  goes := fun i H G S hi g v k => by show i < n; simpa [rngD] using hi
  yld := fun i d H x H' G S hd g v k y => by
    obtain ⟨e1, e2⟩ := y
    subst e1 e2
    have hi : i < n := by have := getE hd; simpa [rngD] using this
    simp [rngD, hi] at hd
    subst hd
    exact ⟨G, Aft.refl v, .int _⟩
def mRng1 (m : VE) : VW := fun ρ S Q => m ρ S fun d S1 => match d with
  | .int j => -(2 ^ 62) ≤ j ∧ j < 2 ^ 62 ∧ Q (rngD 0 j.toNat) (fun _ => True) S1
  | _ => False
theorem i_rng1 {tg : Expr} {x : Str} {p pos : Pos} {e : Expr} {m : VE} (hg : Gl X x) (hm : X.mg "range" = none) (h : PE X e (LE X.K m)) (w : PI X tg (.Call (.Name x p) [e] [] pos) (iRng1 (tCons (LE X.K m) tNil))) :
    PI X tg (.Call (.Name x p) [e] [] pos) (LI X.K (mRng1 m)) := by
  refine PI.imp w fun σ H R ⟨ρ, S, G, Q, vw, re, hm, k⟩ => ?_
  refine ⟨ρ, S, G, _, vw, re, hm, fun d S1 v1 H1 G1 a1 r1 h1 => ?_⟩
  cases r1 <;> try exact h1.elim
  rename_i j
  exact ⟨j, rfl, h1.1, h1.2.1, k _ _ S1 H1 G1 _ a1 walks_rng h1.2.2⟩
def mFor (c : CT) (mi : VW) (mb : VS) : VS := fun E ρ S => mi ρ S fun ds kp S1 => ∃ I : Nat → Sl → Store → Prop, I 0 ρ S1 ∧ ∀ i ρ2 S2, I i ρ2 S2 → kp S2 ∧ match ds[i]? with
  | none => E.nx ρ2 S2
  | some d => match mCT c d ρ2 with
    | some ρ3 => mb (E.loop (I (i + 1))) ρ3 S2
    | none => False
theorem s_for {c : CT} {tg iter : Expr} {body : List Stmt} {mi : VW} {mb : VS} {pos : Pos} (hp : PassesOwn (model X.prog X.w) X.A X.env X.xe) (hc : X.calm = true) (hi : PI X tg iter (LI X.K mi)) (hg : PG X tg (gCT X.K c)) (hb : PSs X body (LS X.K mb))
    (hs : ∀ x, foldedSetIterable iter X.env x = pure x := by intro _; rfl) : PS X (.For tg iter body [] pos) (LS X.K (mFor c mi mb)) := by
  refine PS.imp (ps_for hp hc hi hg hb hs) fun D' σ H ⟨ρ, S, G, E, vw, re, hm, ok⟩ => ?_
  refine ⟨ρ, S, G, _, vw, re, hm, fun ds kp S1 H1 G1 J a1 wk ⟨I, I0, step⟩ => ?_⟩
  refine ⟨fun i m σ2 H2 => m = ds.length - i ∧ i ≤ ds.length ∧ ∃ ρ2 S2 G2, Aft X.K G1 S1 H1 S2 H2 G2 ∧ REnv X.K G2 σ2 ρ2 ∧ I i ρ2 S2, ⟨_, rfl, Nat.zero_le _, ρ, S1, G1, Aft.refl a1.vw, re.mono a1.gg, I0⟩, ?_⟩
  rintro i m σ2 H2 ⟨rfl, hi, ρ2, S2, G2, a2, r2, h2⟩
  obtain ⟨hk, st⟩ := step i ρ2 S2 h2
  by_cases hlt : i < ds.length
  · have e : ds[i]? = some ds[i] := by simp
    rw [e] at st
    simp only at st
    split at st
    · rename_i ρ3 eb
      refine .inr ⟨wk.goes i H2 G2 S2 hlt a2.gg a2.vw hk, fun σ' H' => ∃ ρ' S' G', Aft X.K G1 S1 H1 S' H' G' ∧ REnv X.K G' σ' ρ' ∧ I (i + 1) ρ' S', ?_, fun x H3 hy => ?_⟩
      · rintro σ' H' ⟨ρ', S', G', a', r', h'⟩
        exact ⟨ds.length - (i + 1), by omega, rfl, hlt, ρ', S', G', a', r', h'⟩
      · obtain ⟨G3, a3, rx⟩ := wk.yld i ds[i] H2 x H3 G2 S2 e a2.gg a2.vw hk hy
        obtain ⟨σ3, r3, _, k3⟩ := gCT_ok a3.vw.gh (r2.mono a3.gg) rx eb
        have a13 := a2.trans a3
        refine k3 _ ⟨ρ3, S2, G3, _, a3.vw, r3, st, ⟨?_, ?_, ?_, ?_⟩⟩
        · exact fun ρ' S' σ' H' G' a' r' q => ⟨ρ', S', G', a13.trans a', r', q⟩
        · exact fun d S' v H' G' a' r' q => ok.rt d S' v H' G' (a1.trans (a13.trans a')) r' q
        · exact fun ρ' S' σ' H' G' a' r' q => ok.nx ρ' S' σ' H' G' (a1.trans (a13.trans a')) r' q
        · exact fun ρ' S' σ' H' G' a' r' q => ⟨ρ', S', G', a13.trans a', r', q⟩
    · exact st.elim
  · have ei : i = ds.length := by omega
    subst ei
    rw [List.getElem?_eq_none (Nat.le_refl _)] at st
    exact .inl ⟨wk.stop H2 G2 S2 a2.gg a2.vw hk, ok.nx ρ2 S2 σ2 H2 G2 (a1.trans a2) r2 st⟩
def mYes : VT := fun _ S Q => Q true S
theorem PTs.imp {ifs : List Expr} {t t' : TT} (h : PTs X ifs t) (i : ∀ σ H Q, t' σ H Q → t σ H Q) : PTs X ifs t' := ⟨fun pins s σ H Q I q => h.run pins s σ H Q I (i σ H Q q)⟩
theorem ts_nil : PTs X [] (LT X.K mYes) := PTs.imp pts_nil fun σ H Q' ⟨ρ, S, G, Q, vw, re, hm, k⟩ => k true S H G (Aft.refl vw) hm
theorem ts_one {c : Expr} {m : VT} (h : PT X c (LT X.K m)) : PTs X [c] (LT X.K m) := pts_one h
/-- the turns of a comprehension; R: what is made of the list -/
def mLcG (c : CT) (mi : VW) (mt : VT) (me : VE) (vs : List Nat) (R : List D → Store → (D → Store → Prop) → Prop) : VE := fun ρ S Q => mi ρ S fun ds kp S1 => ds.length ≤ sizeLine ∧ ∃ I : Nat → List D → Store → Prop, I 0 [] S1 ∧ ∀ i acc S2, I i acc S2 → kp S2 ∧ match ds[i]? with
  | none => R acc S2 Q
  | some d => match mCT c d (wipeD ρ vs) with
    | some ρ3 => mt ρ3 S2 fun b S3 => if b = true then me ρ3 S3 fun y S4 => I (i + 1) (acc ++ [y]) S4 else I (i + 1) acc S3
    | none => False
def rFrz : List D → Store → (D → Store → Prop) → Prop := fun acc S Q => Q (.lst acc) S
def RecR (R : List D → Store → (D → Store → Prop) → Prop) : Prop := ∀ (K : PySem.W.Frag) (G : Hp) (S : Store) (H : Hp) (a : Addr) (xs : List V) (acc : List D) (Q : D → Store → Prop), View K G S H → H a = some (.lst xs) → S a = none → G a = none → RpL K G xs acc → R acc S Q →
  ∃ S' G' d, Q d S' ∧ View K G' S' H ∧ Same G G' ∧ Rp K G' (.ref a) d ∧ ∀ b, b ≠ a → S' b = S b ∧ G' b = G b
theorem recR_frz : RecR rFrz := fun K G S H a xs acc Q vw ha hs hg l q =>
  ⟨S, upd G a (.lst xs), .lst acc, q, ⟨fun b o e => by
    by_cases hb : b = a
    · subst hb; rw [upd_same] at e; cases e; exact ha
    · rw [upd_ne hb] at e; exact vw.gh b o e, fun b o e => by
    have hb : b ≠ a := by intro z; subst z; rw [hs] at e; cases e
    obtain ⟨g, u, hu, k⟩ := vw.st b o e
    exact ⟨by rw [upd_ne hb]; exact g, u, hu, k.mono fun c w e => by rw [upd_ne (ne_of_none e hg)]; exact e⟩⟩, fun c w e => by rw [upd_ne (ne_of_none e hg)]; exact e,
    .lst upd_same (l.mono fun c w e => by rw [upd_ne (ne_of_none e hg)]; exact e), fun b hb => ⟨rfl, upd_ne hb⟩⟩
theorem le_lc {K : PySem.W.Frag} {c : CT} {mi : VW} {mt : VT} {me : VE} {vs : List Nat} {R : List D → Store → (D → Store → Prop) → Prop} (hR : RecR R) (hw : c.within vs) (σ : L2.St) (H : Hp) (Q' : VK) (q : LE K (mLcG c mi mt me vs R) σ H Q') : tLc (LI K mi) (gCT K c) (LT K mt) (LE K me) vs σ H Q' := by
  obtain ⟨ρ, S, G, Q, vw, re, hm, k⟩ := q
  refine ⟨ρ, S, G, _, vw, re, hm, fun ds kp S1 H1 G1 J a1 wk ⟨hz, I, I0, step⟩ L hL => ?_⟩
  have n0 := a1.vw.none hL
  refine ⟨fun i m H2 => m = ds.length - i ∧ i ≤ ds.length ∧ ∃ acc xs S2 G2, Aft K G1 S1 H1 S2 H2 G2 ∧ H2 L = some (.lst xs) ∧ S2 L = none ∧ G2 L = none ∧ RpL K G2 xs acc ∧ acc.length ≤ i ∧ I i acc S2,
    ⟨_, rfl, Nat.zero_le _, [], [], S1, G1, (Aft.refl a1.vw).junk hL n0.2 n0.1, upd_same, n0.2, n0.1, .nil, Nat.le_refl _, I0⟩, ?_⟩
  rintro i m H2 ⟨rfl, hi, acc, xs, S2, G2, a2, hH, hS, hG, l, hl, h2⟩
  obtain ⟨hk, st⟩ := step i acc S2 h2
  by_cases hlt : i < ds.length
  · have e : ds[i]? = some ds[i] := by simp
    rw [e] at st
    simp only at st
    split at st
    · rename_i ρ3 eb
      refine .inr ⟨wk.goes i H2 G2 S2 hlt a2.gg a2.vw hk, fun H' => ∃ acc xs S' G', Aft K G1 S1 H1 S' H' G' ∧ H' L = some (.lst xs) ∧ S' L = none ∧ G' L = none ∧ RpL K G' xs acc ∧ acc.length ≤ i + 1 ∧ I (i + 1) acc S', ?_, fun x H3 hy => ?_⟩
      · rintro H' ⟨acc', xs', S', G', a', z1, z2, z3, z4, z5, z6⟩
        exact ⟨ds.length - (i + 1), by omega, rfl, hlt, acc', xs', S', G', a', z1, z2, z3, z4, z5, z6⟩
      · obtain ⟨G3, a3, rx⟩ := wk.yld i ds[i] H2 x H3 G2 S2 e a2.gg a2.vw hk hy
        have r0 : REnv K G3 (L2.wipe σ vs) (wipeD ρ vs) := (re.mono (a1.gg.trans (a2.gg.trans a3.gg))).wipe vs
        obtain ⟨σ3, r3, w3, k3⟩ := gCT_ok a3.vw.gh r0 rx eb
        have a13 := a2.trans a3
        obtain ⟨h3, s3, g3⟩ := a3.fr L _ hS hH
        refine k3 _ ⟨?_, ρ3, S2, G3, _, a3.vw, r3, st, fun b S4 H4 G4 a4 q4 => ?_⟩
        · rw [w3 vs hw]
          exact wipe_eq (wipe_length σ vs) fun j hj => by rw [wipe_get, if_neg (fun z => hj z.1)]
        · have a14 := a13.trans a4
          obtain ⟨h4, s4, g4⟩ := a4.fr L _ hS h3
          have l4 := (l.mono a3.gg).mono a4.gg
          cases b with
          | true =>
            refine ⟨ρ3, S4, G4, _, a4.vw, r3.mono a4.gg, q4, fun y S5 v H5 G5 a5 r5 q5 => ?_⟩
            obtain ⟨h5, s5, g5⟩ := a5.fr L _ s4 h4
            refine ⟨xs, h5, by have := l.length; omega, acc ++ [y], xs ++ [v], S5, G5, ((a14.trans a5)).junk hL s5 (by rw [g5, g4, g3]; exact hG), upd_same, s5, by rw [g5, g4, g3]; exact hG, (l4.mono a5.gg).append (.cons r5 .nil), by simp; exact hl, q5⟩
          | false => exact ⟨acc, xs, S4, G4, a14, h4, s4, by rw [g4, g3]; exact hG, l4, by omega, q4⟩
    · exact st.elim
  · have ei : i = ds.length := by omega
    subst ei
    rw [List.getElem?_eq_none (Nat.le_refl _)] at st
    refine .inl ⟨wk.stop H2 G2 S2 a2.gg a2.vw hk, ?_⟩
    obtain ⟨S', G', d, qd, v', gg, rd, ot⟩ := hR K G2 S2 H2 L xs acc Q a2.vw hH hS hG l st
    have a12 := a1.trans a2
    refine k d S' (.ref L) H2 G' ⟨fun b o hb eb => ?_, a12.gg.trans gg, v'⟩ rd qd
    obtain ⟨e1, e2, e3⟩ := a12.fr b o hb eb
    have hbL : b ≠ L := by
      intro z
      subst z
      have := (a1.fr b o hb eb).1
      rw [hL] at this
      cases this
    exact ⟨e1, by rw [(ot b hbL).1]; exact e2, by rw [(ot b hbL).2]; exact e3⟩
section
variable {c : CT} {elt tg iter : Expr} {ifs : List Expr} {scope : Scope} {own : List (Str × Nat)} {pos : Pos} {mi : VW} {mt : VT} {me : VE} {R : List D → Store → (D → Store → Prop) → Prop}
theorem v_lc (hR : RecR R) (hw : c.within (own.map (·.2))) (hc : X.calm = true) (hN : X.N.Nodup) (hi : PI X tg iter (LI X.K mi)) (ok : BlkOk X.N X.env.scope scope own)
    (hg : ∀ (s : Shared) (H : Hp) (C : Addr) (cl : List (Str × Addr)) (fp : List Addr), PG (X.blk s H scope (compEnvC scope cl C X.env) fp) tg (gCT X.K c)) (ht : ∀ (s : Shared) (H : Hp) (C : Addr) (cl : List (Str × Addr)) (fp : List Addr), PTs (X.blk s H scope (compEnvC scope cl C X.env) fp) ifs (LT X.K mt))
    (he : ∀ (s : Shared) (H : Hp) (C : Addr) (cl : List (Str × Addr)) (fp : List Addr), PE (X.blk s H scope (compEnvC scope cl C X.env) fp) elt (LE X.K me)) (hs : ∀ x, foldedSetIterable iter X.env x = pure x := by intro _; rfl) :
    PE X (.ListComp elt [⟨tg, iter, ifs, 0⟩] scope pos) (LE X.K (mLcG c mi mt me (own.map (·.2)) R)) :=
  PE.imp (pe_lc hc hN hi ok hg ht he hs) fun σ H Q' q => le_lc hR hw σ H Q' q
theorem s_setLc {i : Nat} {y : Str} {py spos : Pos} (hR : RecR R) (hw : c.within (own.map (·.2))) (hc : X.calm = true) (hN : X.N.Nodup) (hy : X.N[i]? = some y) (hyl : X.env.scope.names.lookup y = some .local)
    (hsw : swapsWith (.ListComp elt [⟨tg, iter, ifs, 0⟩] scope pos) (some (.Name y py)) spos.line X.env = pure true) (hi : PI X tg iter (LI X.K mi)) (ok : BlkOk X.N X.env.scope scope own)
    (hg : ∀ (s : Shared) (H : Hp) (C : Addr) (cl : List (Str × Addr)) (fp : List Addr), PG (X.blk s H scope (compEnvC scope cl C X.env) fp) tg (gCT X.K c)) (ht : ∀ (s : Shared) (H : Hp) (C : Addr) (cl : List (Str × Addr)) (fp : List Addr), PTs (X.blk s H scope (compEnvC scope cl C X.env) fp) ifs (LT X.K mt))
    (he : ∀ (s : Shared) (H : Hp) (C : Addr) (cl : List (Str × Addr)) (fp : List Addr), PE (X.blk s H scope (compEnvC scope cl C X.env) fp) elt (LE X.K me)) (hs : ∀ x, foldedSetIterable iter X.env x = pure x := by intro _; rfl) :
    PS X (.Assign [.Name y py] (.ListComp elt [⟨tg, iter, ifs, 0⟩] scope pos) spos) (LS X.K (mSet i (mLcG c mi mt me (own.map (·.2)) R))) :=
  PS.imp (ps_setLc hc hN hy hyl hsw hi ok hg ht he hs) fun D' σ H ⟨ρ, S, G, E, vw, re, hm, ok⟩ => le_lc hR hw σ H _ ⟨ρ, S, G, _, vw, re, hm, fun d S' v H' G' a r q => ok.nx _ S' _ H' G' a ((re.mono a.gg).set r) q⟩
end
end
end VL
set_option maxHeartbeats 2000000
namespace VL
open PySem PySem.Spec L2
open PyProof.Rows hiding St
section
variable {X : Cx}
theorem claw {P : Program} {w : World} {K : PySem.W.Frag} {mg mb : Str → Option Value} {k : Nat} {fa a : Addr} {x nm : Str} {sp : VSp} {s₁ : Shared} {vs : List Value} {ns : List Int}
    (KX : K.In s₁.heap) (hns : s₁.heap.Ns mainGlobals mg) (hb : s₁.heap.Ns builtinsNs mb) (hbb : ∀ x : Str, x ≠ "__name__" → mb x = bootBuiltins x) (hlim : s₁.heap.NoLimit) (hg : s₁.gens = #[])
    (ha : s₁.heap.get? a = some { cls := .type "list", data := .seq vs.toArray }) (hi : IntsAre vs ns) (hl : ns.length ≤ sizeLine) (hr : Room k callerA) (hfa : mg nm = some (.ref fa))
    (F : ∀ base : Heap, K.In base → base.Ns mainGlobals mg → DefV P w K mg base k nm [x] sp)
    (hsp : ∀ Q : D → Store → Prop, (∀ S, Q (.bl true) S) → sp [.ro (ns.map D.int)] (fun _ => none) Q) :
    codeAny (model P w) callerA (.call (.ref fa) ⟨[.ref a], []⟩) (fun r s' => r = .ok (.ret (.bool true)) ∧ OldK s₁.heap s'.heap ∧ s'.os = s₁.os ∧ AllBare s'.gens) s₁ := by
  have rints : ∀ (G : Hp) (ns : List Int), RpL K G (ns.map V.int) (ns.map D.int) := fun G ns => by
    induction ns with
    | nil => exact .nil
    | cons n ns ih => exact .cons (.int n) ih
  have lenV := hi.length
  let Hs : Hp := fun b => if b = a then some (.frz { cls := .type "list", data := .seq vs.toArray } (.lst (ns.map V.int))) else none
  -- nothing is told of but the script, and not even that where the module itself has it
  suffices main : ∀ H : Hp, (∀ b, H b = none ∨ b = a ∧ H b = Hs a) → SqL K H a (ns.map V.int) → HOk P w H s₁.heap → (H a ≠ none → K.lookup a = none) →
      codeAny (model P w) callerA (.call (.ref fa) ⟨[.ref a], []⟩) (fun r s' => r = .ok (.ret (.bool true)) ∧ OldK s₁.heap s'.heap ∧ s'.os = s₁.os ∧ AllBare s'.gens) s₁ by
    cases hk : K.lookup a with
    | some o =>
      have e := (KX a o hk).symm.trans ha
      cases e
      exact main (fun _ => none) (fun _ => .inl rfl) (.inr ⟨_, vs.toArray, _, hk, rfl, rfl, rfl, by rw [List.size_toArray, lenV]; exact hl, vals_ints hi⟩) (fun _ _ z => nomatch z) fun z => absurd rfl z
    | none =>
      refine main Hs (fun b => ?_) (.inl (.inr ⟨_, if_pos rfl⟩)) (fun b u z => ?_) fun _ => hk
      · by_cases h : b = a
        · exact .inr ⟨h, by rw [h]⟩
        · exact .inl (if_neg h)
      · by_cases h : b = a
        · subst h
          have z' : some (HO.frz { cls := .type "list", data := .seq vs.toArray } (.lst (ns.map V.int))) = some u := (if_pos rfl).symm.trans z
          cases z'
          exact ⟨ha, by rw [List.length_map]; exact hl, vs, _, vals_ints hi, ha⟩
        · cases (if_neg h).symm.trans z
  intro H hO hS hok hK
  have notdict : ∀ {b : Addr} {o : Obj}, s₁.heap.get? b = some o → (∀ vs n, o.data ≠ .seq vs n) → H b = none := fun {b o} e d => (hO b).elim id fun ⟨z, _⟩ => by
    subst z
    rw [ha] at e
    cases e
    exact absurd rfl (d _ _)
  have nsK : ∀ {b : Addr} {m : Str → Option Value}, s₁.heap.Ns b m → (hidT s₁.heap H).Ns b m := fun ⟨o, es, ep, e, d, r⟩ => ⟨o, es, ep, hidT_get e (notdict e fun _ _ z => by rw [d] at z; cases z), d, r⟩
  have hKb : K.In (hidT s₁.heap H) := fun b o e => hidT_get (KX b o e) ((hO b).elim id fun ⟨z, _⟩ => by
    subst z
    cases q : H b with
    | none => rfl
    | some u => rw [hK (by rw [q]; exact nofun)] at e; cases e)
  have e0 : Env0 P w K mg (hidT s₁.heap H) callerA [] s₁ H := ⟨rfl, ⟨hKb, nsK hns, ⟨mb, nsK hb, hbb⟩, hlim.elim fun mc h => ⟨mc, nsK h.1, h.2⟩⟩, fun b o e => of_hidT e, Nat.le_of_eq (hidT_size _ _), trivial, fun b hb => (nomatch hb), hok, .of_eq hg⟩
  obtain ⟨f, fd, hm, hk, bd, G⟩ := (F _ hKb (nsK hns)).ex
  cases hfa.symm.trans hm
  refine codeAny_mono (G.go callerA [] s₁ H ⟨[.ref a], []⟩ [.ref a] [.ref a] (fun v _ => v = .bl true) (fun _ _ _ => False) hr rfl e0 (by simpa using bd s₁ [.ref a] KX rfl) (.cons rfl .nil)
    ⟨rfl, [.ro (ns.map D.int)], fun _ => none, H, fun d _ => d = .bl true, ⟨Same.refl H, fun _ _ z => nomatch z⟩, .cons (.ro hS (rints H ns)) .nil, hsp _ fun _ => rfl, fun d S' v H' G' _ r q => by subst q; cases r; rfl⟩) fun r s' h => ?_
  match r, h with
  | .error e, h => exact (show False from h).elim
  | .ok .next, h => exact (show False from h).elim
  | .ok .brk, h => exact (show False from h).elim
  | .ok .cont, h => exact (show False from h).elim
  | .ok (.ret u), ⟨v, H', os, bare, un, hok', r', q⟩ =>
    subst q
    obtain rfl : u = Value.bool true := r'
    refine ⟨rfl, OldK.of_keep fun b o e => ?_, os, bare⟩
    rcases hO b with z | ⟨z, z2⟩
    · exact un.keep b o e z (fun z => (nomatch z)) (by simp)
    · have z3 : H b = some (.frz { cls := .type "list", data := .seq vs.toArray } (.lst (ns.map V.int))) := z2.trans (if_pos rfl)
      obtain ⟨e1, _⟩ := hok b _ z3
      obtain ⟨e2, _⟩ := hok' b _ (un.frzs b _ _ z3)
      rw [e] at e1
      cases e1
      exact e2
/-- the end: from the promise of the law's def -/
theorem vwalk {l : PySem.W.OpenLaw} {n k : Nat} {q : Program} {loose : List Str} {XP : (Str → Option Value) → Heap → Prop} {YP : World → Heap → Prop} {d : DefRec} {K : Params → PySem.W.Frag} {sp : VSp} {x : Str}
    (hn : l.most = some n) (hn2 : n ≤ sizeLine) (hdf : d.params.defaults = []) (hr : Room k callerA) (hY : ∀ (w : World) (h : Heap), YP w h → (K w.params).In h)
    (F : ∀ (w : World) (mg : Str → Option Value) (h : Heap), (K w.params).In h → h.Ns mainGlobals mg → ∀ base : Heap, (K w.params).In base → base.Ns mainGlobals mg → DefV l.prog w (K w.params) mg base k d.name [x] sp)
    (hsp : ∀ (ns : List Int), ns.length ≤ n → ∀ Q : D → Store → Prop, (∀ S, Q (.bl true) S) → sp [.ro (ns.map D.int)] (fun _ => none) Q) : PySem.W.WalkO q loose XP YP l.row.toRowW d [] (fun f vs => PySem.call f vs) :=
  Att.attach_call hn hdf fun w s₀ s₁ mg mb fa o pm cd doc a vs ns G Y ho hd hcd hmg hobj hints hlen hg =>
    claw (hY w _ Y) G.T.g G.T.b G.T.builtins G.T.nolimit hg hobj hints (Nat.le_trans hlen hn2) hr hmg (fun base h1 h2 => F w mg _ (hY w _ Y) G.T.g base h1 h2) (hsp ns hlen)
end
end VL
set_option maxHeartbeats 2000000
namespace VL
open PySem PySem.Spec L2
open PyProof.Rows hiding St
section
variable {X : Cx}
def flatD : D → Bool
  | .non => true | .bl _ => true | .int _ => true | .str _ => true
  | _ => false
/-- == of flat data -/
def eqF : D → D → Bool
  | .non, .non => true
  | .bl a, .bl b => a == b
  | .bl a, .int b => (if a then 1 else 0) == b
  | .int a, .bl b => a == (if b then 1 else 0)
  | .int a, .int b => a == b
  | .str a, .str b => a == b
  | _, _ => false
theorem flat_of {K : PySem.W.Frag} {G : Hp} {v : V} {d : D} (r : Rp K G v d) (h : flatD d = true) : flatV v = true := by
  cases r <;> first | rfl | (simp [flatD] at h)
theorem eqF_of {K : PySem.W.Frag} {G : Hp} {v u : V} {d e : D} (r : Rp K G v d) (q : Rp K G u e) : eqV v u = eqF d e := by
  cases r <;> cases q <;> rfl
theorem flats_of {K : PySem.W.Frag} {G : Hp} : ∀ {vs : List V} {ds : List D}, RpL K G vs ds → ds.all flatD = true → vs.all flatV = true
  | _, _, .nil, _ => rfl
  | _, _, .cons r t, h => by
    rw [List.all_cons, Bool.and_eq_true] at h ⊢
    exact ⟨flat_of r h.1, flats_of t h.2⟩
def inF (x : D) (ds : List D) : Bool := ds.any fun y => eqF y x
theorem inF_of {K : PySem.W.Frag} {G : Hp} {v : V} {x : D} (r : Rp K G v x) : ∀ {vs : List V} {ds : List D}, RpL K G vs ds → inV v vs = inF x ds
  | _, _, .nil => rfl
  | _, _, .cons q t => by
    have ih := inF_of r t
    unfold inV inF at ih ⊢
    rw [List.any_cons, List.any_cons, ih, eqF_of q r]
/-- x in a row of flat things; a sign in a text -/
def mIn (neg : Bool) : R2V := fun x y S Q => match x, y with
  | .str x, .str z => (match x.cps.toList with
    | [c] => Q (.bl (if neg then !decide (c ∈ z.cps.toList) else decide (c ∈ z.cps.toList))) S
    | _ => False)
  | x, y => match rdS y S with
    | some ds => flatD x = true ∧ ds.all flatD = true ∧ Q (.bl (if neg then !inF x ds else inF x ds)) S
    | none => False
theorem lr_in (neg : Bool) : LR2 X.K (fun x y H Q => rIn X.K neg x y H Q ∨ ∃ (c : Nat) (z : Str), x = .str ⟨#[c]⟩ ∧ y = .str z ∧ Q (.bl (if neg then !decide (c ∈ z.cps.toList) else decide (c ∈ z.cps.toList))) H) (mIn neg) := by
  intro x y v1 v2 G S H Q Q' vw r1 r2 h k
  unfold mIn at h
  split at h
  · cases r1; cases r2
    rename_i x z
    split at h
    · rename_i c e
      refine .inr ⟨c, z, ?_, rfl, k _ S _ H G (Aft.refl vw) (.bl _) h⟩
      obtain ⟨⟨l⟩⟩ := x
      simp only at e
      subst e
      rfl
    · exact h.elim
  · split at h
    · rename_i ds e
      obtain ⟨a, xs, rfl, q, l⟩ := rdS_ok vw r2 e
      refine .inl ⟨a, xs, rfl, q, flat_of r1 h.1, flats_of l h.2.1, ?_⟩
      rw [inF_of r1 l]
      exact k _ S _ H G (Aft.refl vw) (.bl _) h.2.2
    · exact h.elim
theorem ov_in : OpV X (compareOp .In) (mIn false) := ⟨_, op_in_seq.or op_in_sign, lr_in false⟩
theorem ov_notin : OpV X (compareOp .NotIn) (mIn true) := ⟨_, op_notIn_seq.or op_notIn_sign, lr_in true⟩
/-- -a -/
def mNeg (m : VE) : VE := fun ρ S Q => m ρ S fun d S1 => match d with
  | .int i => Q (.int (-i)) S1
  | _ => False
theorem v_neg {a : Expr} {m : VE} {pos : Pos} (h : PE X a (LE X.K m)) : PE X (.UnaryOp .USub a pos) (LE X.K (mNeg m)) := by
  refine PE.imp (pe_un un_neg h) fun σ H Q' ⟨ρ, S, G, Q, vw, re, hm, k⟩ => ⟨ρ, S, G, _, vw, re, hm, fun d S1 v1 H1 G1 a1 r1 h1 => ?_⟩
  cases r1 <;> try exact h1.elim
  exact ⟨_, rfl, k _ S1 _ H1 G1 a1 (.int _) h1⟩
/-- an int of the module -/
theorem v_gint {x : Str} {i : Int} {pos : Pos} (hg : Gl X x) (hm : ∃ t, X.mg x = some (.int i t)) (hd : (x == ("__debug__" : Str)) = false := by decide) : PE X (.Name x pos) (LE X.K (mC (.int i))) := by
  obtain ⟨t, hm⟩ := hm
  exact v_c (pe_glob hg hm (v := .int i) ⟨_, rfl⟩ hd) fun _ => .int i
end
end VL
namespace VL
open PySem L2
theorem len0 {ds : List D} (h : ds.length = 0) : ds = [] := by cases ds with | nil => rfl | cons => simp at h
theorem len1 {ds : List D} (h : ds.length = 1) : ∃ a, ds = [a] := match ds, h with | [a], _ => ⟨a, rfl⟩
theorem len2 {ds : List D} (h : ds.length = 2) : ∃ a b, ds = [a, b] := match ds, h with | [a, b], _ => ⟨a, b, rfl⟩
theorem len3 {ds : List D} (h : ds.length = 3) : ∃ a b c, ds = [a, b, c] := match ds, h with | [a, b, c], _ => ⟨a, b, c, rfl⟩
theorem len5 {ds : List D} (h : ds.length = 5) : ∃ a b c d e, ds = [a, b, c, d, e] := match ds, h with | [a, b, c, d, e], _ => ⟨a, b, c, d, e, rfl⟩
end VL
namespace VL
open PySem L2
theorem tyn_ref (a : Addr) (S : Store) : tyn (.ref a) S = "list" ∨ tyn (.ref a) S = "dict" ∨ tyn (.ref a) S = "?" := by
  simp only [tyn]
  split <;> simp
end VL
namespace VL
open PySem L2
section
variable {α : Type} {a b c d e : α} {l : List α}
theorem atI_lit (n : Nat) (l : List α) : atI l (n : Int) = l[n]? := by
  unfold atI ixN
  by_cases h : n < l.length
  · simp [h]
  · simp only [show (0 : Int) ≤ (n : Int) by omega, if_true, show ¬ (n : Int) < (l.length : Int) by omega, if_false, Option.bind_none]
    rw [List.getElem?_eq_none (by omega)]
theorem atI_0 : atI (a :: l) 0 = some a := atI_lit 0 (a :: l)
theorem atI_1 : atI (a :: b :: l) 1 = some b := atI_lit 1 (a :: b :: l)
theorem atI_2 : atI (a :: b :: c :: l) 2 = some c := atI_lit 2 (a :: b :: c :: l)
theorem atI_3 : atI (a :: b :: c :: d :: l) 3 = some d := atI_lit 3 (a :: b :: c :: d :: l)
theorem atI_4 : atI (a :: b :: c :: d :: e :: l) 4 = some e := atI_lit 4 (a :: b :: c :: d :: e :: l)
theorem atI_last (l : List α) (x : α) : atI (l ++ [x]) (-1) = some x := by
  unfold atI ixN
  simp only [show ¬ (0 : Int) ≤ -1 by omega, if_false, List.length_append, List.length_singleton]
  rw [if_pos (by omega)]
  simp only [Option.bind_some]
  rw [show ((-1 : Int) + ((l.length + 1 : Nat) : Int)).toNat = l.length by omega]
  simp
end
end VL
namespace VL
open PySem L2
section
variable {S : Store}
theorem tyn_non : tyn .non S = "NoneType" := rfl
theorem tyn_bl {b} : tyn (.bl b) S = "bool" := rfl
theorem tyn_int {b} : tyn (.int b) S = "int" := rfl
theorem tyn_str {b} : tyn (.str b) S = "str" := rfl
theorem tyn_tup {b} : tyn (.tup b) S = "tuple" := rfl
theorem tyn_lst {b} : tyn (.lst b) S = "list" := rfl
theorem tyn_ro {b} : tyn (.ro b) S = "list" := rfl
theorem tyn_dct {b} : tyn (.dct b) S = "dict" := rfl
theorem noRef_non : noRef S .non = True := rfl
theorem noRef_bl {b} : noRef S (.bl b) = True := rfl
theorem noRef_int {b} : noRef S (.int b) = True := rfl
theorem noRef_str {b} : noRef S (.str b) = True := rfl
theorem noRef_tup {b} : noRef S (.tup b) = True := rfl
theorem noRef_lst {b} : noRef S (.lst b) = True := rfl
theorem noRef_dct {b} : noRef S (.dct b) = True := rfl
theorem isS_non {z} : isS .non z = false := rfl
theorem isS_bl {b z} : isS (.bl b) z = false := rfl
theorem isS_int {b z} : isS (.int b) z = false := rfl
theorem isS_str {b z} : isS (.str b) z = decide (b = z) := rfl
theorem isS_tup {b z} : isS (.tup b) z = false := rfl
theorem isS_lst {b z} : isS (.lst b) z = false := rfl
theorem isS_dct {b z} : isS (.dct b) z = false := rfl
theorem rdL_lst {b} : rdL (.lst b) S = some b := rfl
theorem rdL_tup {b} : rdL (.tup b) S = none := rfl
theorem rdL_int {b} : rdL (.int b) S = none := rfl
theorem rdR_lst {b} : rdR (.lst b) S = some b := rfl
theorem rdR_ro {b} : rdR (.ro b) S = some b := rfl
theorem rdS_tup {b} : rdS (.tup b) S = some b := rfl
theorem rdS_lst {b} : rdS (.lst b) S = some b := rfl
theorem rdS_ro {b} : rdS (.ro b) S = some b := rfl
theorem rdL_ref {a : Addr} {ds : List D} (h : S a = some (.lst ds)) : rdL (.ref a) S = some ds := by simp only [rdL, h]
theorem rdR_ref {a : Addr} {ds : List D} (h : S a = some (.lst ds)) : rdR (.ref a) S = some ds := rdL_ref h
theorem rdS_ref {a : Addr} {ds : List D} (h : S a = some (.lst ds)) : rdS (.ref a) S = some ds := rdL_ref h
theorem okq_non : okq S .non = True := by simp [okq, rsv, py, SeqAt.shaped, PyData.canLay0, PyData.depth]
theorem okq_bl {b} : okq S (.bl b) = True := by simp [okq, rsv, py, SeqAt.shaped, PyData.canLay0, PyData.depth]
theorem okq_int {b} : okq S (.int b) = True := by simp [okq, rsv, py, SeqAt.shaped, PyData.canLay0, PyData.depth]
theorem okq_str {b} : okq S (.str b) = (PyData.strOk b = true) := by simp [okq, rsv, py, SeqAt.shaped, PyData.canLay0, PyData.depth]
theorem eqq_int {a b : Int} : eqq S (.int a) (.int b) = decide (a = b) := by simp only [eqq, rsv, py, PyData.eqv]; exact Bool.beq_eq_decide_eq a b
theorem eqq_bl {a b : Bool} : eqq S (.bl a) (.bl b) = decide (a = b) := by simp only [eqq, rsv, py, PyData.eqv]; exact Bool.beq_eq_decide_eq a b
theorem eqq_str {a b : Str} : eqq S (.str a) (.str b) = decide (a = b) := by simp only [eqq, rsv, py, PyData.eqv]; exact Bool.beq_eq_decide_eq a b
end
end VL
namespace VL
open PySem L2
theorem isS_ro {b z} : isS (.ro b) z = false := rfl
theorem noRef_ro {b} {S : Store} : noRef S (.ro b) = True := rfl
theorem cast0 : ((0 : Nat) : Int) = 0 := rfl
theorem cast1 : ((1 : Nat) : Int) = 1 := rfl
theorem cast2 : ((2 : Nat) : Int) = 2 := rfl
theorem cast3 : ((3 : Nat) : Int) = 3 := rfl
theorem cast4 : ((4 : Nat) : Int) = 4 := rfl
theorem cast5 : ((5 : Nat) : Int) = 5 := rfl
end VL
namespace VL
open PySem L2
def Pot (S : Store) (p : Addr) : Prop := ∃ a b : Int, S p = some (.lst [.int a, .int b]) ∧ 0 ≤ a ∧ 0 ≤ b ∧ b < 2147483648
def But (p : Addr) (S S' : Store) : Prop := ∀ q, q ≠ p → S' q = S q
theorem But.refl (p : Addr) (S : Store) : But p S S := fun _ _ => rfl
theorem But.trans {p : Addr} {S S1 S2 : Store} (a : But p S S1) (b : But p S1 S2) : But p S S2 := fun q h => (b q h).trans (a q h)
theorem But.supd {p : Addr} {S : Store} {o : SO} : But p S (supd S p o) := fun q h => supd_ne h
theorem Pot.mk' {S : Store} {p : Addr} {a b : Int} (ha : 0 ≤ a) (hb : 0 ≤ b) (hb2 : b < 2147483648) : Pot (VL.supd S p (.lst [.int a, .int b])) p := ⟨a, b, supd_same, ha, hb, hb2⟩
theorem cpow10 {n : Int} (h0 : 0 ≤ n) (h : n ≤ 1000000) : CPow 10 n := ⟨h0, h, by decide⟩
theorem cmul_l {i j : Int} (h0 : -(2 ^ 64) < i) (h1 : i < 2 ^ 64) : CMul i j := .inl ⟨h0, h1⟩
theorem cmul_r {i j : Int} (h0 : -(2 ^ 64) < j) (h1 : j < 2 ^ 64) : CMul i j := .inr ⟨h0, h1⟩
theorem log2_small {m : Int} {k : Nat} (h : m.natAbs < 2 ^ k) (hk : k ≤ 9000) (h0 : 0 < k) : m.natAbs.log2 < 9000 := Nat.lt_of_lt_of_le (PySem.Flt.log2_lt_of h0 h) hk
end VL
namespace VL
open PySem L2
theorem ixN20 : ixN 2 0 = some 0 := rfl
theorem ixN21 : ixN 2 1 = some 1 := rfl
theorem rdS_supd {S : Store} {p : Addr} {ds : List D} : rdS (.ref p) (supd S p (.lst ds)) = some ds := rdS_ref supd_same
theorem rdL_supd {S : Store} {p : Addr} {ds : List D} : rdL (.ref p) (supd S p (.lst ds)) = some ds := rdL_ref supd_same
theorem rdR_supd {S : Store} {p : Addr} {ds : List D} : rdR (.ref p) (supd S p (.lst ds)) = some ds := rdR_ref supd_same
end VL
namespace VL
open PySem L2
theorem atI_ints {ns : List Int} {k : Int} (h0 : 0 ≤ k) (h1 : k < (ns.length : Int)) : ∃ n, atI (ns.map D.int) k = some (.int n) := by
  obtain ⟨m, rfl⟩ : ∃ m : Nat, k = (m : Int) := ⟨k.toNat, by omega⟩
  have hm : m < ns.length := by omega
  exact ⟨ns[m], by rw [atI_lit, List.getElem?_map, List.getElem?_eq_getElem hm]; rfl⟩
end VL
set_option maxHeartbeats 2000000
namespace VL
open PySem PySem.Spec L2
open PyProof.Rows hiding St
section
variable {X : Cx}
def keyD : D → Option Key
  | .int i => some (.inl i)
  | .str x => some (.inr x)
  | _ => none
def keysD : List (D × D) → Option (List (Key × D))
  | [] => some []
  | (k, v) :: r => match keyD k, keysD r with
    | some k, some l => some ((k, v) :: l)
    | _, _ => none
def putD (kvs : List (Key × D)) (k : Key) (v : D) : List (Key × D) := if kvs.any (fun kv => decide (kv.1 = k)) then kvs.map (fun kv => if kv.1 = k then (kv.1, v) else kv) else kvs ++ [(k, v)]
def mergeD (kvs more : List (Key × D)) : List (Key × D) := more.foldl (fun acc kv => putD acc kv.1 kv.2) kvs
def valD (kvs : List (Key × D)) (k : Key) : Option D := (kvs.find? fun kv => decide (kv.1 = k)).map (·.2)
section
variable {K : PySem.W.Frag} {G : Hp}
theorem RpK.any {k : Key} : ∀ {kvs : List (Key × V)} {ds : List (Key × D)}, RpK K G kvs ds → (kvs.any fun kv => decide (kv.1 = k)) = ds.any fun kv => decide (kv.1 = k)
  | _, _, .nil => rfl
  | _, _, .cons _ t => by rw [List.any_cons, List.any_cons, t.any]
theorem RpK.repl {k : Key} {v : V} {d : D} (r : Rp K G v d) : ∀ {kvs : List (Key × V)} {ds : List (Key × D)}, RpK K G kvs ds → RpK K G (kvs.map fun kv => if kv.1 = k then (kv.1, v) else kv) (ds.map fun kv => if kv.1 = k then (kv.1, d) else kv)
  | _, _, .nil => .nil
  | _, _, .cons (k := k') h t => by
    rw [List.map_cons, List.map_cons]
    by_cases e : k' = k
    · simp only [e, if_true]; exact .cons r (t.repl r)
    · simp only [e, if_false]; exact .cons h (t.repl r)
theorem RpK.append : ∀ {kvs ls : List (Key × V)} {ds es : List (Key × D)}, RpK K G kvs ds → RpK K G ls es → RpK K G (kvs ++ ls) (ds ++ es)
  | _, _, _, _, .nil, s => s
  | _, _, _, _, .cons h t, s => .cons h (t.append s)
theorem RpK.put {k : Key} {v : V} {d : D} (r : Rp K G v d) {kvs : List (Key × V)} {ds : List (Key × D)} (h : RpK K G kvs ds) : RpK K G (putK kvs k v) (putD ds k d) := by
  unfold putK putD
  rw [h.any]
  split
  · exact h.repl r
  · exact h.append (.cons r .nil)
theorem RpK.merge : ∀ {more : List (Key × V)} {ms : List (Key × D)} {kvs : List (Key × V)} {ds : List (Key × D)}, RpK K G more ms → RpK K G kvs ds → RpK K G (mergeK kvs more) (mergeD ds ms)
  | _, _, _, _, .nil, h => h
  | _, _, kvs, ds, .cons (k := k) (v := v) (vs := vs) (d := d) (ds := es) r t, h => by
    show RpK K G (mergeK (putK kvs k v) vs) (mergeD (putD ds k d) es)
    exact RpK.merge t (h.put r)
theorem RpK.val {k : Key} : ∀ {kvs : List (Key × V)} {ds : List (Key × D)}, RpK K G kvs ds → (valD ds k = none ∧ valV kvs k = none) ∨ ∃ v d, valD ds k = some d ∧ valV kvs k = some v ∧ Rp K G v d
  | _, _, .nil => .inl ⟨rfl, rfl⟩
  | _, _, .cons (k := k') h t => by
    unfold valD valV
    rw [List.find?_cons, List.find?_cons]
    by_cases e : k' = k
    · simp only [e, decide_true, Option.map_some]; exact .inr ⟨_, _, rfl, rfl, h⟩
    · simp only [e, decide_false]; exact t.val
theorem RpK.length : ∀ {kvs : List (Key × V)} {ds : List (Key × D)}, RpK K G kvs ds → kvs.length = ds.length
  | _, _, .nil => rfl
  | _, _, .cons _ t => by simp [t.length]
end
inductive RpP (K : PySem.W.Frag) (G : Hp) : List (V × V) → List (D × D) → Prop
  | nil : RpP K G [] []
  | cons {x y : V} {d e : D} {ps : List (V × V)} {qs : List (D × D)} (h : Rp K G x d) (h' : Rp K G y e) (t : RpP K G ps qs) : RpP K G ((x, y) :: ps) ((d, e) :: qs)
theorem RpP.keys {K : PySem.W.Frag} {G : Hp} : ∀ {ps : List (V × V)} {qs : List (D × D)} {l : List (Key × D)}, RpP K G ps qs → keysD qs = some l → ∃ kvs : List (Key × V), ps = kvs.map (fun kv => (kV kv.1, kv.2)) ∧ RpK K G kvs l
  | _, _, _, .nil, h => by cases h; exact ⟨[], rfl, .nil⟩
  | _, _, l, .cons (d := d) (qs := qs) h h' t, e => by
    unfold keysD at e
    split at e
    · rename_i k l' e1 e2
      cases e
      obtain ⟨kvs, rfl, r⟩ := t.keys e2
      cases h <;> simp only [keyD, Option.some.injEq, reduceCtorEq] at e1
      · subst e1; exact ⟨(.inl _, _) :: kvs, rfl, .cons h' r⟩
      · subst e1; exact ⟨(.inr _, _) :: kvs, rfl, .cons h' r⟩
    · cases e
/-- what is told is locked for ever -/
def tLk (t : TE) : TE := fun σ H Q => t σ H fun v H1 => ∃ d u, v = .ref d ∧ H1 d = some u ∧ Mut (some u) ∧ ∀ od, Q v (upd H1 d (.frz od u))
theorem pe_tlk {e : Expr} {t : TE} (h : PE X e t) : PE X e (tLk t) := by
  refine ⟨fun pins s σ H Q I hw => ?_⟩
  refine thn (h.run pins s σ H _ I hw) fun v s1 ⟨x, H1, I1, r, d, u, ex, hd, mu, q⟩ => ?_
  obtain ⟨od, I2⟩ := I1.lock hd mu
  exact ⟨x, _, I2, r, q od⟩
theorem upd_upd {H : Hp} {a : Addr} {o u : HO} : upd (upd H a o) a u = upd H a u := by
  funext b; unfold upd; split <;> rfl
def keyP : Key → PyData
  | .inl i => .int i
  | .inr x => .str x
mutual
def pyd : D → PyData
  | .non => .none | .bl b => .bool b | .int i => .int i | .str s => .str s
  | .tup ds => .tuple (pydL ds) | .lst ds => .list (pydL ds) | .ro ds => .list (pydL ds) | .dct kvs => .dict (pydK kvs) | .ref _ => .none
def pydL : List D → List PyData
  | [] => []
  | d :: ds => pyd d :: pydL ds
def pydK : List (Key × D) → List (PyData × PyData)
  | [] => []
  | (k, d) :: r => (keyP k, pyd d) :: pydK r
end
mutual
def whole : D → Bool
  | .non => true | .bl _ => true | .int _ => true | .str _ => true
  | .tup ds => wholeL ds | .lst ds => wholeL ds | .ro ds => wholeL ds | .dct kvs => wholeK kvs | .ref _ => false
def wholeL : List D → Bool
  | [] => true
  | d :: ds => whole d && wholeL ds
def wholeK : List (Key × D) → Bool
  | [] => true
  | (_, d) :: r => whole d && wholeK r
end
section
variable {pins : List (Addr × Obj)} {σ : L2.St} {H : Hp} {s : Shared} {G : Hp}
theorem pydK_keys : ∀ kvs : List (Key × D), (pydK kvs).map (·.1) = kvs.map fun kv => keyP kv.1
  | [] => rfl
  | (k, d) :: r => by simp only [pydK, List.map_cons, pydK_keys r]
theorem pydK_vals : ∀ kvs : List (Key × D), (pydK kvs).map (·.2) = pydL (kvs.map (·.2))
  | [] => rfl
  | (k, d) :: r => by simp only [pydK, List.map_cons, pydL, pydK_vals r]
/-- a thing of the heap with its text -/
def Shows (X : Cx) (s : Shared) (u : Value) (d : PyData) : Prop := ∃ bs as, Reads s.heap u d as ∧ ReadAtMost s.heap d.depth bs ∧ ReprK X.prog X.w bs s.heap d.depth u d.shown
def ShowsL (X : Cx) (s : Shared) (us : List Value) (ds : List PyData) : Prop := ∃ bs as, ReadsAll s.heap us ds as ∧ ReadAtMost s.heap (PyData.depthAll ds) bs ∧ ReprAllK X.prog X.w bs s.heap (PyData.depthAll ds) us (PyData.shownAll ds)
theorem ShowsL.cons {u : Value} {us : List Value} {d : PyData} {ds : List PyData} (h : Shows X s u d) (t : ShowsL X s us ds) : ShowsL X s (u :: us) (d :: ds) := by
  obtain ⟨b1, a1, r1, m1, k1⟩ := h
  obtain ⟨b2, a2, r2, m2, k2⟩ := t
  refine ⟨b1 ++ b2, _, .cons r1 r2, ?_, ?_⟩
  · exact (m1.mono (by simp only [PyData.depthAll]; omega)).append (m2.mono (by simp only [PyData.depthAll]; omega))
  · simp only [PyData.depthAll, PyData.shownAll]
    exact .cons ((k1.more fun b hb => List.mem_append_left _ hb).level_le (Nat.le_max_left _ _)) (k2.more_le (fun b hb => List.mem_append_right _ hb) (Nat.le_max_right _ _))
theorem shows_keys {P : Program} {w : World} : ∀ {es : List DictEntry} {vs : List (Key × Value)}, Pairs (mixKind P w) es vs → (∀ t ∈ PyData.shownAll (vs.map fun kv => keyP kv.1), t.length ≤ sizeLine) → PyData.showableAll (vs.map fun kv => keyP kv.1) = true →
    ShowsL X s (es.map (·.key)) (vs.map fun kv => keyP kv.1)
  | _, _, .nil, _, _ => ⟨[], [], .nil, (fun _ h => nomatch h), by simp only [List.map_nil, PyData.shownAll]; exact .nil⟩
  | e0 :: es, (k, v) :: vs, .cons h1 h2 t, hz, hs => by
    have hs' : (keyP k).showable = true ∧ PyData.showableAll (vs.map fun kv => keyP kv.1) = true := by simpa [PyData.showableAll] using hs
    have hz1 := hz _ (by rw [List.map_cons]; simp only [PyData.shownAll]; exact List.mem_cons_self)
    refine ShowsL.cons ?_ (shows_keys t (fun x hx => hz x (by rw [List.map_cons]; simp only [PyData.shownAll]; exact List.mem_cons_of_mem _ hx)) hs'.2)
    rcases keyIs_shape (k := k) h1 with ⟨i, t, rfl, e⟩ | ⟨x, t, rfl, e⟩
    · show Shows X s e0.key (keyP (.inl i))
      rw [e]
      exact ⟨[], _, .int i t, (fun _ h => nomatch h), by simp only [keyP, PyData.shown]; exact .of_is (ReprIs.int t (by simpa [PyData.showable, keyP] using hs'.1)) _ _ _⟩
    · show Shows X s e0.key (keyP (.inr x))
      rw [e]
      exact ⟨[], _, .str x t, (fun _ h => nomatch h), by simp only [keyP, PyData.shown]; exact .of_is (ReprIs.str x t (by simpa only [keyP, PyData.shown] using hz1)) _ _ _⟩
theorem kv_of {K : PySem.W.Frag} : ∀ {kvs : List (Key × V)} {ds : List (Key × D)} {vs : List (Key × Value)}, RpK K G kvs ds → KV kvs vs → (vs.map fun kv => keyP kv.1) = (ds.map fun kv => keyP kv.1) ∧ RpL K G (kvs.map (·.2)) (ds.map (·.2)) ∧ Vals (kvs.map (·.2)) (vs.map (·.2))
  | _, _, _, .nil, r => by cases r; exact ⟨rfl, .nil, .nil⟩
  | _, _, _, .cons h t, r => by
    cases r with
    | cons r rs =>
      obtain ⟨h1, h2, h3⟩ := kv_of t rs
      simp only [List.map_cons]
      exact ⟨by rw [h1, ← r.1], .cons h h2, .cons r.2 h3⟩
theorem pairs_vals {P : Program} {w : World} : ∀ {es : List DictEntry} {vs : List (Key × Value)}, Pairs (mixKind P w) es vs → es.map (·.val) = vs.map (·.2)
  | _, _, .nil => rfl
  | _, _, .cons h1 h2 t => by simp only [List.map_cons, h2, pairs_vals t]
mutual
theorem shows_of (I : Inv X pins σ H s) (g : Same G H) : ∀ (d : D) {v : V} {u : Value}, whole d = true → (pyd d).showable = true → (pyd d).shown.length ≤ sizeLine → Rp X.K G v d → RelV v u → Shows X s u (pyd d)
  | .non, _, _, _, _, _, .non, r => by cases r; exact ⟨[], _, .none, (fun _ h => nomatch h), by simp only [pyd, PyData.shown]; exact .of_is ReprIs.none _ _ _⟩
  | .bl b, _, _, _, _, _, .bl _, r => by cases r; exact ⟨[], _, .bool b, (fun _ h => nomatch h), by simp only [pyd, PyData.shown]; exact .of_is (ReprIs.bool b) _ _ _⟩
  | .int i, _, _, _, hs, _, .int _, r => by obtain ⟨t, rfl⟩ := r; exact ⟨[], _, .int i t, (fun _ h => nomatch h), by simp only [pyd, PyData.shown]; exact .of_is (ReprIs.int t (by simpa [pyd, PyData.showable] using hs)) _ _ _⟩
  | .str x, _, _, _, _, hz, .str _, r => by obtain ⟨t, rfl⟩ := r; exact ⟨[], _, .str x t, (fun _ h => nomatch h), by simp only [pyd, PyData.shown]; exact .of_is (ReprIs.str x t (by simpa only [pyd, PyData.shown] using hz)) _ _ _⟩
  | .tup ds, _, _, hw, hs, hz, .tup h l, r => by
    cases r
    have hz' : (tupleText (PyData.shownAll (pydL ds))).length ≤ sizeLine := by simpa only [pyd, PyData.shown] using hz
    obtain ⟨its, rv, ⟨o, h1, h2, n, h3⟩, _⟩ := I.tuple (same_t g h)
    obtain ⟨bs, as, h4, hb, hk⟩ := shows_ofL I g ds (by simpa [whole] using hw) (by simpa [pyd, PyData.showable] using hs) (fun t ht => Nat.le_trans (tupleText_mem_le ht) hz') l rv
    have rd : Reads s.heap _ (.tuple (pydL ds)) _ := .tuple h1 h2 h3 h4
    have hna := not_mem_of_deeper rd (by simp only [PyData.depth]; omega) hb
    refine ⟨_, _, rd, ReadAtMost.cons rd (Nat.le_succ _) hb, ?_⟩
    simp only [pyd, PyData.depth, PyData.shown]
    exact ReprK.tuple h1 h2 h3 hna hk
  | .lst ds, _, _, hw, hs, hz, .lst h l, r => by
    cases r
    exact shows_lst I g ds (SqL.of (g _ _ h)) (by simpa only [pyd, PyData.shown] using hz) (shows_ofL I g ds (by simpa [whole] using hw) (by simpa [pyd, PyData.showable] using hs) (fun t ht => Nat.le_trans (listText_mem_le ht) (by simpa only [pyd, PyData.shown] using hz)) l)
  | .ro ds, _, _, hw, hs, hz, .ro h l, r => by
    cases r
    exact shows_lst I g ds (g.seq h) (by simpa only [pyd, PyData.shown] using hz) (shows_ofL I g ds (by simpa [whole] using hw) (by simpa [pyd, PyData.showable] using hs) (fun t ht => Nat.le_trans (listText_mem_le ht) (by simpa only [pyd, PyData.shown] using hz)) l)
  | .dct kvs, _, _, hw, hs, hz, .dct (kvs := ks) h l, r => by
    cases r
    have hz' : (dictText (PyData.shownKv (pydK kvs))).length ≤ sizeLine := by simpa only [pyd, PyData.shown] using hz
    obtain ⟨_, hsys, vs, kv, o, es, ep, h1, ex, h3, _, hp, _⟩ := dk_rd I.hok (.inr ⟨_, g _ _ h⟩)
    obtain ⟨k1, k2, k3⟩ := kv_of l kv
    obtain ⟨hs1, hs2⟩ := PyData.showableKv_split (pydK kvs) (by simpa [pyd, PyData.showable] using hs)
    rw [pydK_keys] at hs1
    rw [pydK_vals] at hs2
    have z1 : ∀ t ∈ PyData.shownAll (kvs.map fun kv => keyP kv.1), t.length ≤ sizeLine := fun t ht => by
      obtain ⟨p, hp', hl⟩ := PyData.shownKv_key_le (pydK kvs) t (by rw [pydK_keys]; exact ht)
      exact Nat.le_trans hl (Nat.le_trans (dictText_mem_le hp') hz')
    have z2 : ∀ t ∈ PyData.shownAll (pydL (kvs.map (·.2))), t.length ≤ sizeLine := fun t ht => by
      obtain ⟨p, hp', hl⟩ := PyData.shownKv_val_le (pydK kvs) t (by rw [pydK_vals]; exact ht)
      exact Nat.le_trans hl (Nat.le_trans (dictText_mem_le hp') hz')
    obtain ⟨b1, a1, rd1, hb1, hk1⟩ := shows_keys (X := X) (s := s) hp (by rw [k1]; exact z1) (by rw [k1]; exact hs1)
    obtain ⟨b2, a2, rd2, hb2, hk2⟩ := shows_ofK I g kvs (by simpa [whole] using hw) hs2 z2 k2 k3
    rw [← pairs_vals hp] at rd2 hk2
    rw [k1, ← pydK_keys] at rd1 hb1 hk1
    rw [← pydK_vals] at rd2 hb2 hk2
    have rd : Reads s.heap _ (.dict (pydK kvs)) _ := .dict h1 ex.1 h3 rd1 rd2
    have hb : ReadAtMost s.heap (PyData.depthKv (pydK kvs)) (b1 ++ b2) := (hb1.mono (PyData.depthAll_keys_le _)).append (hb2.mono (PyData.depthAll_vals_le _))
    have hna := not_mem_of_deeper rd (by simp only [PyData.depth]; omega) hb
    refine ⟨_, _, rd, ReadAtMost.cons rd (Nat.le_succ _) hb, ?_⟩
    simp only [pyd, PyData.depth, PyData.shown, PyData.shownKv_eq]
    exact ReprK.dict h1 ex.1 h3 hsys hna (ReprEntriesK.of_two es.toList _ _ (hk1.more_le (fun b hb => List.mem_append_left _ hb) (PyData.depthAll_keys_le _)) (hk2.more_le (fun b hb => List.mem_append_right _ hb) (PyData.depthAll_vals_le _)))
  | .ref _, _, _, hw, _, _, _, _ => by simp [whole] at hw
theorem shows_ofL (I : Inv X pins σ H s) (g : Same G H) : ∀ (ds : List D) {vs : List V} {us : List Value}, wholeL ds = true → PyData.showableAll (pydL ds) = true → (∀ t ∈ PyData.shownAll (pydL ds), t.length ≤ sizeLine) → RpL X.K G vs ds → Vals vs us → ShowsL X s us (pydL ds)
  | [], _, _, _, _, _, .nil, r => by cases r; exact ⟨[], [], .nil, (fun _ h => nomatch h), by simp only [pydL, PyData.shownAll]; exact .nil⟩
  | d :: ds, _, _, hw, hs, hz, .cons h t, r => by
    cases r with
    | cons r rs =>
      have hw' : whole d = true ∧ wholeL ds = true := by simpa [wholeL] using hw
      have hs' : (pyd d).showable = true ∧ PyData.showableAll (pydL ds) = true := by simpa [pydL, PyData.showableAll] using hs
      exact ShowsL.cons (shows_of I g d hw'.1 hs'.1 (hz _ (by simp only [pydL, PyData.shownAll]; exact List.mem_cons_self)) h r) (shows_ofL I g ds hw'.2 hs'.2 (fun x hx => hz x (by simp only [pydL, PyData.shownAll]; exact List.mem_cons_of_mem _ hx)) t rs)
theorem shows_ofK (I : Inv X pins σ H s) (g : Same G H) : ∀ (kvs : List (Key × D)) {vs : List V} {us : List Value}, wholeK kvs = true → PyData.showableAll (pydL (kvs.map (·.2))) = true → (∀ t ∈ PyData.shownAll (pydL (kvs.map (·.2))), t.length ≤ sizeLine) → RpL X.K G vs (kvs.map (·.2)) → Vals vs us → ShowsL X s us (pydL (kvs.map (·.2)))
  | [], _, _, _, _, _, .nil, r => by cases r; exact ⟨[], [], .nil, (fun _ h => nomatch h), by simp only [List.map_nil, pydL, PyData.shownAll]; exact .nil⟩
  | (k, d) :: ds, _, _, hw, hs, hz, .cons h t, r => by
    cases r with
    | cons r rs =>
      have hw' : whole d = true ∧ wholeK ds = true := by simpa [wholeK] using hw
      have hs' : (pyd d).showable = true ∧ PyData.showableAll (pydL (ds.map (·.2))) = true := by simpa [pydL, PyData.showableAll] using hs
      exact ShowsL.cons (shows_of I g d hw'.1 hs'.1 (hz _ (by simp only [List.map_cons, pydL, PyData.shownAll]; exact List.mem_cons_self)) h r) (shows_ofK I g ds hw'.2 hs'.2 (fun x hx => hz x (by simp only [List.map_cons, pydL, PyData.shownAll]; exact List.mem_cons_of_mem _ hx)) t rs)
theorem shows_lst (I : Inv X pins σ H s) (g : Same G H) (ds : List D) {a : Addr} {xs : List V} (h : SqL X.K H a xs) (hz' : (listText (PyData.shownAll (pydL ds))).length ≤ sizeLine) (ih : ∀ {us : List Value}, Vals xs us → ShowsL X s us (pydL ds)) : Shows X s (.ref a) (.list (pydL ds)) := by
  obtain ⟨its, rv, ⟨o, n, h1, h2, _, h3⟩, _⟩ := I.list h
  obtain ⟨bs, as, h4, hb, hk⟩ := ih rv
  have rd : Reads s.heap _ (.list (pydL ds)) _ := .list h1 h2 h3 h4
  have hna := not_mem_of_deeper rd (by simp only [PyData.depth]; omega) hb
  refine ⟨_, _, rd, ReadAtMost.cons rd (Nat.le_succ _) hb, ?_⟩
  simp only [PyData.depth, PyData.shown]
  cases its with
  | nil =>
    generalize pydL ds = es at *
    cases h4
    simp only [PyData.shownAll, listText_nil]
    exact ReprK.listEmpty h1 h2 h3
  | cons x l => exact ReprK.list h1 h2 h3 hna (by simpa using hk.length_eq) (fun i y e => hk.item i y (by simpa using e))
end
/-- a list, tuple or dict by its repr -/
theorem shown_by (I : Inv X pins σ H s) (g : Same G H) (d : D) {a : Addr} (hw : whole d = true) (hs : (pyd d).showable = true) (hz : (pyd d).shown.length ≤ sizeLine) (r : Rp X.K G (.ref a) d) : ∃ T idr, ShowsBy X.prog X.w s.heap a (pyd d) T idr := by
  have lst : ∀ {ds : List D} {xs : List V}, SqL X.K H a xs → (listText (PyData.shownAll (pydL ds))).length ≤ sizeLine → (∀ {us : List Value}, Vals xs us → ShowsL X s us (pydL ds)) → ∃ T idr, ShowsBy X.prog X.w s.heap a (.list (pydL ds)) T idr := by
    intro ds xs h hz' ih
    obtain ⟨its, rv, ⟨o, n, h1, h2, _, h3⟩, _⟩ := I.list h
    obtain ⟨bs, as, h4, hb, hk⟩ := ih rv
    have rd : Reads s.heap _ (.list (pydL ds)) _ := .list h1 h2 h3 h4
    have hna := not_mem_of_deeper rd (by simp only [PyData.depth]; omega) hb
    refine ⟨"list", "list.__repr__", F.slot_list_repr.toG, F.slot_list_str, F.slot_list_format, fun s' hk0 => ⟨o, hk0 _ _ h1, h2⟩, fun A E s' Q hg hu hk0 hQ => ?_⟩
    simp only [PyData.depth] at hu
    simp only [PyData.shown] at hQ
    cases its with
    | nil =>
      generalize pydL ds = es at *
      cases h4
      simp only [PyData.shownAll, listText_nil] at hQ
      exact call_list_repr_empty ⟨o, hk0 _ _ h1, h2⟩ (hk0 _ _ h1) h3 (hQ s'.heap _ _ fun _ _ e => e)
    | cons x l => exact call_list_reprK h1 h2 h3 hna (by simpa using hk.length_eq) (fun i y e => hk.item i y (by simpa using e)) hg (fun b _ => Clear.nil b) hu hk0 hQ hz'
  cases r with
  | ref => simp [whole] at hw
  | @lst _ xs ds h l => exact lst (SqL.of (g _ _ h)) (by simpa only [pyd, PyData.shown] using hz) (shows_ofL I g ds (by simpa [whole] using hw) (by simpa [pyd, PyData.showable] using hs) (fun t ht => Nat.le_trans (listText_mem_le ht) (by simpa only [pyd, PyData.shown] using hz)) l)
  | @ro _ xs ds h l => exact lst (g.seq h) (by simpa only [pyd, PyData.shown] using hz) (shows_ofL I g ds (by simpa [whole] using hw) (by simpa [pyd, PyData.showable] using hs) (fun t ht => Nat.le_trans (listText_mem_le ht) (by simpa only [pyd, PyData.shown] using hz)) l)
  | @tup _ xs ds h l =>
    have hz' : (tupleText (PyData.shownAll (pydL ds))).length ≤ sizeLine := by simpa only [pyd, PyData.shown] using hz
    obtain ⟨its, rv, ⟨o, h1, h2, n, h3⟩, _⟩ := I.tuple (same_t g h)
    obtain ⟨bs, as, h4, hb, hk⟩ := shows_ofL I g ds (by simpa [whole] using hw) (by simpa [pyd, PyData.showable] using hs) (fun t ht => Nat.le_trans (tupleText_mem_le ht) hz') l rv
    have rd : Reads s.heap _ (.tuple (pydL ds)) _ := .tuple h1 h2 h3 h4
    have hna := not_mem_of_deeper rd (by simp only [PyData.depth]; omega) hb
    refine ⟨"tuple", "tuple.__repr__", F.slot_tuple_repr, F.slot_tuple_str, F.slot_tuple_format, fun s' hk0 => ⟨o, hk0 _ _ h1, h2⟩, fun A E s' Q hg hu hk0 hQ => ?_⟩
    simp only [pyd, PyData.depth] at hu
    simp only [pyd, PyData.shown] at hQ
    exact call_tuple_reprK h1 h2 h3 hna hk hg (fun b _ => Clear.nil b) hu hk0 hQ hz'
  | @dct _ ob ks kvs h l =>
    obtain ⟨bs0, as0, rd0, _, _⟩ := shows_of I g (.dct kvs) hw hs hz (.dct h l) (rfl : RelV (.ref a) (.ref a))
    have hz' : (dictText (PyData.shownKv (pydK kvs))).length ≤ sizeLine := by simpa only [pyd, PyData.shown] using hz
    obtain ⟨_, hsys, vs, kv, o, es, ep, h1, ex, h3, _, hp, _⟩ := dk_rd I.hok (.inr ⟨_, g _ _ h⟩)
    obtain ⟨k1, k2, k3⟩ := kv_of l kv
    obtain ⟨hs1, hs2⟩ := PyData.showableKv_split (pydK kvs) (by simpa [pyd, PyData.showable] using hs)
    rw [pydK_keys] at hs1
    rw [pydK_vals] at hs2
    have z1 : ∀ t ∈ PyData.shownAll (kvs.map fun kv => keyP kv.1), t.length ≤ sizeLine := fun t ht => by
      obtain ⟨p, hp', hl⟩ := PyData.shownKv_key_le (pydK kvs) t (by rw [pydK_keys]; exact ht)
      exact Nat.le_trans hl (Nat.le_trans (dictText_mem_le hp') hz')
    have z2 : ∀ t ∈ PyData.shownAll (pydL (kvs.map (·.2))), t.length ≤ sizeLine := fun t ht => by
      obtain ⟨p, hp', hl⟩ := PyData.shownKv_val_le (pydK kvs) t (by rw [pydK_vals]; exact ht)
      exact Nat.le_trans hl (Nat.le_trans (dictText_mem_le hp') hz')
    obtain ⟨b1, a1, rd1, hb1, hk1⟩ := shows_keys (X := X) (s := s) hp (by rw [k1]; exact z1) (by rw [k1]; exact hs1)
    obtain ⟨b2, a2, rd2, hb2, hk2⟩ := shows_ofK I g kvs (by simpa [whole] using hw) hs2 z2 k2 k3
    rw [← pairs_vals hp] at rd2 hk2
    rw [k1, ← pydK_keys] at rd1 hb1 hk1
    rw [← pydK_vals] at rd2 hb2 hk2
    have rd : Reads s.heap _ (.dict (pydK kvs)) _ := .dict h1 ex.1 h3 rd1 rd2
    have hb : ReadAtMost s.heap (PyData.depthKv (pydK kvs)) (b1 ++ b2) := (hb1.mono (PyData.depthAll_keys_le _)).append (hb2.mono (PyData.depthAll_vals_le _))
    have hna := not_mem_of_deeper rd (by simp only [PyData.depth]; omega) hb
    refine ⟨"dict", "dict.__repr__", F.slot_dict_repr, F.slot_dict_str, F.slot_dict_format, fun s' hk0 => ⟨o, hk0 _ _ h1, ex.1⟩, fun A E s' Q hg hu hk0 hQ => ?_⟩
    simp only [pyd, PyData.depth] at hu
    simp only [pyd, PyData.shown, PyData.shownKv_eq] at hQ
    exact call_dict_reprK h1 ex.1 h3 hsys hna (ReprEntriesK.of_two es.toList _ _ (hk1.more_le (fun b hb => List.mem_append_left _ hb) (PyData.depthAll_keys_le _)) (hk2.more_le (fun b hb => List.mem_append_right _ hb) (PyData.depthAll_vals_le _))) hg (fun b _ => Clear.nil b) hu hk0 hQ (by rw [← PyData.shownKv_eq]; exact hz')
end
/-- what a text of data wants -/
def fitW (d : D) : Prop := whole d = true ∧ (pyd d).showable = true ∧ (pyd d).depth ≤ 50 ∧ (pyd d).shown.length ≤ sizeLine
def mReprW : CV := fun ds S Q => match ds with
  | [d] => fitW (rsv S d) ∧ Q (.str (pyd (rsv S d)).shown) S
  | _ => False
theorem rsv_rp {K : PySem.W.Frag} {G H : Hp} {S : Store} {d : D} {v : V} (vw : View K G S H) (hw : whole (rsv S d) = true) (r : Rp K G v d) : ∃ G', Same G' H ∧ Rp K G' v (rsv S d) := by
  cases d with
  | ref a =>
    cases r
    cases e : S a with
    | none => simp [rsv, e, whole] at hw
    | some o =>
      obtain ⟨_, u, hu, k⟩ := vw.st a _ e
      cases k with
      | lst l => simp only [rsv, e]; exact ⟨H, Same.refl H, .lst hu (l.mono vw.gh)⟩
      | dct l => simp [rsv, e, whole] at hw
      | _ => simp [rsv, e, whole] at hw
  | _ => exact ⟨G, vw.gh, r⟩
theorem cv_reprW (hgd : X.A.guards = some []) (hu : X.A.units + 64 < cLine) : CallV X (.builtin "repr") mReprW := by
  refine ⟨fun vs H Q => ∃ d v G, vs = [v] ∧ Same G H ∧ Rp X.K G v d ∧ whole d = true ∧ (pyd d).showable = true ∧ (pyd d).depth ≤ 50 ∧ (pyd d).shown.length ≤ sizeLine ∧ Q (.str (pyd d).shown) H, ?_, ?_⟩
  · intro pins s σ H xs us Q I r h
    obtain ⟨d, v, G, rfl, g, rp, hw, h1, h3, h4, q⟩ := h
    obtain ⟨u, rfl, ru⟩ := vals1 r
    have top : ∀ a, v = .ref a → wpAny (model X.prog X.w) X.A (call (.builtin "repr") [u]) (EP X pins σ Q) X.xe s := fun a e => by
      subst e
      cases ru
      obtain ⟨T, idr, Sb⟩ := shown_by I g d hw h1 h4 rp
      exact call_repr_slot (by omega) (Sb.typeIs s fun _ _ e => e) Sb.slotRepr (Sb.call X.A.in1 X.xe s _ hgd (by show X.A.units + 1 + _ < cLine; omega) (fun _ _ e => e) fun h' u tk kk => ⟨_, _, rfl, .str _, H, I.kept kk, ⟨_, rfl⟩, q⟩)
    cases rp with
    | non => cases ru; exact PySem.P.repr_of_none ⟨.str _, H, I.tok _, ⟨_, rfl⟩, by simpa only [pyd, PyData.shown] using q⟩
    | bl b => cases ru; simp only [pyd, PyData.shown] at q; exact PySem.P.repr_of_bool ⟨.str _, H, I.tok _, ⟨_, rfl⟩, q⟩
    | int i => obtain ⟨t, rfl⟩ := ru; simp only [pyd, PyData.shown] at q; exact PySem.P.repr_of_int (by simpa [pyd, PyData.showable] using h1) ⟨.str _, H, I.tok _, ⟨_, rfl⟩, q⟩
    | str x => obtain ⟨t, rfl⟩ := ru; simp only [pyd, PyData.shown] at q h4; exact PySem.P.repr_of_str ⟨.str _, H, I.tok _, ⟨_, rfl⟩, q⟩ h4
    | ref a => simp [whole] at hw
    | tup h l => exact top _ rfl
    | lst h l => exact top _ rfl
    | ro h l => exact top _ rfl
    | dct h l => exact top _ rfl
  · intro ds vs G S H Q Q' vw rl h k
    unfold mReprW at h
    split at h
    · cases rl with
      | cons r t =>
        cases t
        obtain ⟨⟨h0, h1, h2, h3⟩, q⟩ := h
        obtain ⟨G', g', r'⟩ := rsv_rp vw h0 r
        exact ⟨_, _, G', rfl, g', r', h0, h1, h2, h3, k _ S _ H G (Aft.refl vw) (.str _) q⟩
    · exact h.elim
end
end VL
set_option maxHeartbeats 2000000
namespace VL
open PySem PySem.Spec L2
open PyProof.Rows hiding St
def smlI (i : Int) : Bool := decide (i.natAbs < 10 ^ 150)
theorem smlI_of {i : Int} (h0 : -1000000000000000000000000000000000000000000000 < i) (h1 : i < 1000000000000000000000000000000000000000000000) : smlI i = true := decide_eq_true (by omega)
def smlKey : Key → Bool
  | .inl i => smlI i
  | .inr x => PyData.strOk x
def cntKey : Key → Nat
  | .inl _ => 151
  | .inr x => 10 * x.length + 2
mutual
/-- small parts: ints of sixty figures, texts of true signs -/
def sml : D → Bool
  | .non => true | .bl _ => true | .int i => smlI i | .str s => PyData.strOk s
  | .tup ds => smlL ds | .lst ds => smlL ds | .ro ds => smlL ds | .dct kvs => smlK kvs | .ref _ => false
def smlL : List D → Bool
  | [] => true
  | d :: ds => sml d && smlL ds
def smlK : List (Key × D) → Bool
  | [] => true
  | (k, d) :: r => smlKey k && sml d && smlK r
end
mutual
/-- how many signs at most -/
def cnt : D → Nat
  | .non => 4 | .bl _ => 5 | .int _ => 151 | .str s => 10 * s.length + 2
  | .tup ds => cntL ds + 3 | .lst ds => cntL ds + 3 | .ro ds => cntL ds + 3 | .dct kvs => cntK kvs + 3 | .ref _ => 0
def cntL : List D → Nat
  | [] => 0
  | d :: ds => cnt d + 2 + cntL ds
def cntK : List (Key × D) → Nat
  | [] => 0
  | (k, d) :: r => cntKey k + cnt d + 4 + cntK r
end
mutual
def dep : D → Nat
  | .tup ds => depL ds + 1 | .lst ds => depL ds + 1 | .ro ds => depL ds + 1 | .dct kvs => depK kvs + 1
  | .non => 0 | .bl _ => 0 | .int _ => 0 | .str _ => 0 | .ref _ => 0
def depL : List D → Nat
  | [] => 0
  | d :: ds => max (dep d) (depL ds)
def depK : List (Key × D) → Nat
  | [] => 0
  | (_, d) :: r => max (dep d) (depK r)
end
theorem int_len60 {i : Int} (h : i.natAbs < 10 ^ 150) : (Str.ofString (toString i)).length ≤ 151 := by
  have h1 := int_text_length_le10 (a := i) (k := 150) (by decide) h
  rw [PySem.ofString_length]; omega
theorem log60 {i : Int} (h : i.natAbs < 10 ^ 150) : i.natAbs.log2 < 1920 := Nat.lt_of_lt_of_le (PySem.Flt.log2_lt_of (show 0 < 500 by decide) (Nat.lt_of_lt_of_le h (show 10 ^ 150 ≤ 2 ^ 500 by decide))) (by decide)
theorem str_len {s : Str} (h : PyData.strOk s = true) : (reprText s).length ≤ 10 * s.length + 2 := PySem.StrLaws.reprText_len s fun c hc => by
  have h' := (Array.all_eq_true_iff_forall_mem.mp h) c (by simpa using hc)
  have := of_decide_eq_true h'
  omega
theorem keyP_ok {k : Key} (h : smlKey k = true) : (keyP k).showable = true ∧ (keyP k).shown.length ≤ cntKey k := by
  cases k with
  | inl i =>
    have h' : i.natAbs < 10 ^ 150 := of_decide_eq_true h
    exact ⟨by simpa [keyP, PyData.showable] using log60 h', by simpa only [keyP, PyData.shown, cntKey] using int_len60 h'⟩
  | inr x => exact ⟨rfl, by simpa only [keyP, PyData.shown, cntKey] using str_len h⟩
mutual
theorem sml_ok : ∀ d : D, sml d = true → whole d = true ∧ (pyd d).showable = true ∧ (pyd d).shown.length ≤ cnt d ∧ (pyd d).depth ≤ dep d
  | .non, _ => ⟨rfl, rfl, by simp only [pyd, PyData.shown]; decide, by simp [pyd, PyData.depth]⟩
  | .bl b, _ => ⟨rfl, rfl, by simp only [pyd, PyData.shown]; cases b <;> decide, by simp [pyd, PyData.depth]⟩
  | .int i, h => by
    have h' : i.natAbs < 10 ^ 150 := of_decide_eq_true (by simpa only [sml, smlI] using h)
    exact ⟨rfl, by simpa [pyd, PyData.showable] using log60 h', by simpa only [pyd, PyData.shown, cnt] using int_len60 h', by simp [pyd, PyData.depth]⟩
  | .str s, h => ⟨rfl, rfl, by simpa only [pyd, PyData.shown, cnt] using str_len (by simpa [sml] using h), by simp [pyd, PyData.depth]⟩
  | .tup ds, h => by
    obtain ⟨a, b, c, e⟩ := smlL_ok ds (by simpa [sml] using h)
    refine ⟨by simpa [whole] using a, by simpa [pyd, PyData.showable] using b, ?_, by simp only [pyd, PyData.depth, dep]; omega⟩
    simp only [pyd, PyData.shown, cnt]
    exact Nat.le_trans (tupleText_len_le _) (by omega)
  | .lst ds, h => by
    obtain ⟨a, b, c, e⟩ := smlL_ok ds (by simpa [sml] using h)
    refine ⟨by simpa [whole] using a, by simpa [pyd, PyData.showable] using b, ?_, by simp only [pyd, PyData.depth, dep]; omega⟩
    simp only [pyd, PyData.shown, cnt]
    exact Nat.le_trans (listText_len_le _) (by omega)
  | .ro ds, h => by
    obtain ⟨a, b, c, e⟩ := smlL_ok ds (by simpa [sml] using h)
    refine ⟨by simpa [whole] using a, by simpa [pyd, PyData.showable] using b, ?_, by simp only [pyd, PyData.depth, dep]; omega⟩
    simp only [pyd, PyData.shown, cnt]
    exact Nat.le_trans (listText_len_le _) (by omega)
  | .dct kvs, h => by
    obtain ⟨a, b, c, e⟩ := smlK_ok kvs (by simpa [sml] using h)
    refine ⟨by simpa [whole] using a, by simpa [pyd, PyData.showable] using b, ?_, by simp only [pyd, PyData.depth, dep]; omega⟩
    simp only [pyd, PyData.shown, cnt]
    exact Nat.le_trans (dictText_len_le _) (by omega)
  | .ref _, h => by simp [sml] at h
theorem smlL_ok : ∀ ds : List D, smlL ds = true → wholeL ds = true ∧ PyData.showableAll (pydL ds) = true ∧ ((PyData.shownAll (pydL ds)).map (·.length)).sum + 2 * (PyData.shownAll (pydL ds)).length ≤ cntL ds ∧ PyData.depthAll (pydL ds) ≤ depL ds
  | [], _ => ⟨rfl, rfl, by simp [pydL, PyData.shownAll, cntL], by simp [pydL, PyData.depthAll, depL]⟩
  | d :: ds, h => by
    have h' : sml d = true ∧ smlL ds = true := by simpa [smlL] using h
    obtain ⟨a, b, c, e⟩ := sml_ok d h'.1
    obtain ⟨a', b', c', e'⟩ := smlL_ok ds h'.2
    refine ⟨by simp [wholeL, a, a'], by simp [pydL, PyData.showableAll, b, b'], ?_, by simp only [pydL, PyData.depthAll, depL]; omega⟩
    simp only [pydL, PyData.shownAll, List.map_cons, List.sum_cons, List.length_cons, cntL]
    omega
theorem smlK_ok : ∀ kvs : List (Key × D), smlK kvs = true → wholeK kvs = true ∧ PyData.showableKv (pydK kvs) = true ∧ ((PyData.shownKv (pydK kvs)).map (·.length)).sum + 2 * (PyData.shownKv (pydK kvs)).length ≤ cntK kvs ∧ PyData.depthKv (pydK kvs) ≤ depK kvs
  | [], _ => ⟨rfl, rfl, by simp [pydK, PyData.shownKv, cntK], by simp [pydK, PyData.depthKv, depK]⟩
  | (k, d) :: r, h => by
    have h' : (smlKey k = true ∧ sml d = true) ∧ smlK r = true := by simpa [smlK] using h
    obtain ⟨a, b, c, e⟩ := sml_ok d h'.1.2
    obtain ⟨a', b', c', e'⟩ := smlK_ok r h'.2
    obtain ⟨k1, k2⟩ := keyP_ok h'.1.1
    have k3 : (keyP k).depth = 0 := by cases k <;> simp [keyP, PyData.depth]
    refine ⟨by simp [wholeK, a, a'], by simp [pydK, PyData.showableKv, k1, b, b'], ?_, by simp only [pydK, PyData.depthKv, depK]; omega⟩
    simp only [pydK, PyData.shownKv, List.map_cons, List.sum_cons, List.length_cons, cntK, strLen_append]
    have : (Str.ofString ": ").length = 2 := by decide
    omega
end
theorem fitW_of {d : D} (h : sml d = true) (hc : cnt d ≤ 16000000) (hd : dep d ≤ 50) : fitW d := by
  obtain ⟨a, b, c, e⟩ := sml_ok d h
  exact ⟨a, b, by omega, Nat.le_trans c (Nat.le_trans hc (by decide))⟩
end VL
set_option maxHeartbeats 2000000
namespace VL
open PySem PySem.Spec L2
open PyProof.Rows hiding St
section
variable {X : Cx}
abbrev VPPs (X : Cx) (pos : Pos) (ks : List (Option Expr)) (vs : List Expr) (ps : List (VE × VE)) : Prop := PPs X pos ks vs (ps.map fun p => (LE X.K p.1, LE X.K p.2))
theorem vp_nil {pos : Pos} : VPPs X pos [] [] [] := pps_nil
theorem vp_cons {pos : Pos} {k v : Expr} {ks : List (Option Expr)} {vs : List Expr} {mk mv : VE} {ps : List (VE × VE)} (hk : PE X k (LE X.K mk)) (hv : PE X v (LE X.K mv)) (hr : VPPs X pos ks vs ps) : VPPs X pos (some k :: ks) (v :: vs) ((mk, mv) :: ps) := pps_cons hk hv hr
theorem rngD_get {lo : Int} {n i : Nat} (h : i < n) : (rngD lo n)[i]? = some (.int (lo + (i : Int))) := by
  simp [rngD, h]
theorem rngD_len {lo : Int} {n : Nat} : (rngD lo n).length = n := by simp [rngD]
theorem for_list {ds : List D} {kp : Store → Prop} {c : CT} {mb : VS} {E : VEnds} {ρ : Sl} {S : Store} (I : Nat → Sl → Store → Prop) (h0 : I 0 ρ S) (hk : ∀ i ρ2 S2, I i ρ2 S2 → kp S2)
    (hs : ∀ i d ρ2 S2, ds[i]? = some d → I i ρ2 S2 → match mCT c d ρ2 with
      | some ρ3 => mb (E.loop (I (i + 1))) ρ3 S2
      | none => False)
    (he : ∀ ρ2 S2, I ds.length ρ2 S2 → E.nx ρ2 S2) : ∃ I : Nat → Sl → Store → Prop, I 0 ρ S ∧ ∀ i ρ2 S2, I i ρ2 S2 → kp S2 ∧ match ds[i]? with
  | none => E.nx ρ2 S2
  | some d => match mCT c d ρ2 with
    | some ρ3 => mb (E.loop (I (i + 1))) ρ3 S2
    | none => False := by
  have mono : ∀ {i : Nat} {d : D}, ds[i]? = some d → (fun ρ' S' => I (i + 1) ρ' S') = fun ρ' S' => i + 1 ≤ ds.length ∧ I (i + 1) ρ' S' := fun {i d} e => by
    have := getE e
    funext ρ' S'
    exact propext ⟨fun h => ⟨by omega, h⟩, fun h => h.2⟩
  refine ⟨fun i ρ2 S2 => i ≤ ds.length ∧ I i ρ2 S2, ⟨Nat.zero_le _, h0⟩, fun i ρ2 S2 ⟨hl, h⟩ => ⟨hk i ρ2 S2 h, ?_⟩⟩
  cases e : ds[i]? with
  | none =>
    have : i = ds.length := by have := List.getElem?_eq_none_iff.mp e; omega
    subst this
    exact he ρ2 S2 h
  | some d =>
    have := hs i d ρ2 S2 e h
    simp only [← mono e]
    exact this
theorem for_rng {lo : Int} {n : Nat} {kp : Store → Prop} {c : CT} {mb : VS} {E : VEnds} {ρ : Sl} {S : Store} (I : Nat → Sl → Store → Prop) (h0 : I 0 ρ S) (hk : ∀ i ρ2 S2, I i ρ2 S2 → kp S2)
    (hs : ∀ (i : Nat) ρ2 S2, i < n → I i ρ2 S2 → match mCT c (.int (lo + (i : Int))) ρ2 with
      | some ρ3 => mb (E.loop (I (i + 1))) ρ3 S2
      | none => False)
    (he : ∀ ρ2 S2, I n ρ2 S2 → E.nx ρ2 S2) : ∃ I : Nat → Sl → Store → Prop, I 0 ρ S ∧ ∀ i ρ2 S2, I i ρ2 S2 → kp S2 ∧ match (rngD lo n)[i]? with
  | none => E.nx ρ2 S2
  | some d => match mCT c d ρ2 with
    | some ρ3 => mb (E.loop (I (i + 1))) ρ3 S2
    | none => False := by
  refine for_list I h0 hk (fun i d ρ2 S2 e h => ?_) fun ρ2 S2 h => he ρ2 S2 (by rwa [rngD_len] at h)
  have hi : i < n := by have := getE e; rwa [rngD_len] at this
  rw [rngD_get hi] at e
  cases e
  exact hs i ρ2 S2 hi h
/-- a comprehension whose turns leave the store as it is -/
theorem lc_turns {ds : List D} {kp : Store → Prop} {c : CT} {mt : VT} {me : VE} {vs : List Nat} {R : List D → Store → (D → Store → Prop) → Prop} {ρ : Sl} {S : Store} {Q : D → Store → Prop} (f : D → List D) (hl : ds.length ≤ sizeLine) (hk : kp S)
    (hs : ∀ d ∈ ds, ∀ J : List D → Store → Prop, J (f d) S → match mCT c d (wipeD ρ vs) with
      | some ρ3 => mt ρ3 S fun b S3 => if b = true then me ρ3 S3 fun y S4 => J [y] S4 else J [] S3
      | none => False)
    (hR : R (ds.flatMap f) S Q) : ds.length ≤ sizeLine ∧ ∃ I : Nat → List D → Store → Prop, I 0 [] S ∧ ∀ i acc S2, I i acc S2 → kp S2 ∧ match ds[i]? with
  | none => R acc S2 Q
  | some d => match mCT c d (wipeD ρ vs) with
    | some ρ3 => mt ρ3 S2 fun b S3 => if b = true then me ρ3 S3 fun y S4 => I (i + 1) (acc ++ [y]) S4 else I (i + 1) acc S3
    | none => False := by
  refine ⟨hl, fun i acc S2 => S2 = S ∧ acc = (ds.take i).flatMap f, ⟨rfl, by simp⟩, ?_⟩
  rintro i acc S2 ⟨rfl, rfl⟩
  refine ⟨hk, ?_⟩
  cases e : ds[i]? with
  | none =>
    have : ds.length ≤ i := List.getElem?_eq_none_iff.mp e
    rw [List.take_of_length_le this]
    exact hR
  | some d =>
    have hi := getE e
    have hd : ds[i] = d := by rw [List.getElem?_eq_getElem hi] at e; cases e; rfl
    have tk : ds.take (i + 1) = ds.take i ++ [d] := by rw [List.take_succ, e]; rfl
    have hJ := hs d (by rw [← hd]; exact List.getElem_mem hi) (fun y S4 => S4 = S2 ∧ (ds.take i).flatMap f ++ y = (ds.take (i + 1)).flatMap f) ⟨rfl, by rw [tk, List.flatMap_append]; simp⟩
    simp only [List.append_nil] at hJ
    exact hJ
end
theorem sml_noRef {d : D} {S : Store} (h : sml d = true) : noRef S d := by cases d <;> first | exact True.intro | (simp [sml] at h)
theorem sml_tyn {d : D} {S : Store} (h : sml d = true) : tyn d S ≠ "?" := by cases d <;> first | (simp [tyn]; done) | (simp [sml] at h)
theorem smlL_mem : ∀ {ds : List D} {d : D}, smlL ds = true → d ∈ ds → sml d = true
  | e :: ds, d, h, m => by
    have h' : sml e = true ∧ smlL ds = true := by simpa [smlL] using h
    cases m with
    | head => exact h'.1
    | tail _ m => exact smlL_mem h'.2 m
/-- small data, and how far -/
def Sm (n m : Nat) (d : D) : Prop := sml d = true ∧ cnt d ≤ n ∧ dep d ≤ m
theorem Sm.mono {n m n' m' : Nat} {d : D} (h : Sm n m d) (a : n ≤ n') (b : m ≤ m') : Sm n' m' d := ⟨h.1, Nat.le_trans h.2.1 a, Nat.le_trans h.2.2 b⟩
def smb (n m : Nat) (d : D) : Bool := sml d && decide (cnt d ≤ n) && decide (dep d ≤ m)
theorem smb_iff {n m : Nat} {d : D} : smb n m d = true ↔ Sm n m d := by simp [smb, Sm, and_assoc]
theorem Sm.all {n m : Nat} {ds : List D} {d : D} (h : d ∈ ds) (ha : ds.all (smb n m) = true) : Sm n m d := smb_iff.mp (List.all_eq_true.mp ha d h)
theorem sizeT {n : Nat} (h : n ≤ 1000000) : (n ≤ sizeLine) = True := eq_true (Nat.le_trans h (by decide))
def isWhole (d : D) : Bool := match d with
  | .int _ => true
  | _ => false
def isWithin (d : D) (a b : Int) : Bool := match d with
  | .int i => decide (a ≤ i) && decide (i ≤ b)
  | _ => false
def isHome (d : D) : Bool := match d with
  | .tup [.str s, .int k] => (decide (s = "peg") || decide (s = "bin")) && (decide (0 ≤ k) && decide (k ≤ 3))
  | _ => false
/-- things that have a kind, and whose items have -/
def kindly (S : Store) : D → Prop
  | .tup ds => ∀ d ∈ ds, tyn d S ≠ "?" ∧ noRef S d
  | d => tyn d S ≠ "?"
theorem sml_kindly {d : D} {S : Store} (h : sml d = true) : kindly S d := by
  cases d with
  | tup ds => exact fun e he => by have := smlL_mem (by simpa [sml] using h) he; exact ⟨sml_tyn this, sml_noRef this⟩
  | _ => exact sml_tyn h
end VL
set_option maxHeartbeats 2000000
namespace VL
open PySem PySem.Spec L2
open PyProof.Rows hiding St
theorem mVar_e {i : Nat} {ρ : Sl} {S : Store} {Q : D → Store → Prop} : mVar i ρ S Q = (match gv ρ i with
  | some d => Q d S
  | none => False) := rfl
theorem mC_e {d : D} {z_0 : Sl} {S : Store} {Q : D → Store → Prop} : mC d z_0 S Q = (Q d S) := rfl
theorem mOp_e {m : R2V} {ma mb : VE} {ρ : Sl} {S : Store} {Q : D → Store → Prop} : mOp m ma mb ρ S Q = (ma ρ S fun x S1 => mb ρ S1 fun y S2 => m x y S2 Q) := rfl
theorem mNum_e {C : Int → Int → Prop} {g : Int → Int → D} {x : D} {y : D} {S : Store} {Q : D → Store → Prop} : mNum C g x y S Q = (match x, y with
  | .int i, .int j => C i j ∧ Q (g i j) S
  | _, _ => False) := rfl
theorem mInt0_e {g : Int → Int → D} {x : D} {y : D} {S : Store} {Q : D → Store → Prop} : mInt0 g x y S Q = (match x, y with
  | .int i, .int j => Q (g i j) S
  | _, _ => False) := rfl
theorem mAdd_e {x : D} {y : D} {S : Store} {Q : D → Store → Prop} : mAdd  x y S Q = (match x, y with
  | .int i, .int j => Q (.int (i + j)) S
  | .str i, .str j => i.length + j.length ≤ sizeLine ∧ Q (.str (i ++ j)) S
  | .tup a, .tup b => a.length + b.length ≤ sizeLine ∧ Q (.tup (a ++ b)) S
  | x, y => match rdL x S, rdL y S with
    | some a, some b => a.length + b.length ≤ sizeLine ∧ Q (.lst (a ++ b)) S
    | _, _ => False) := rfl
theorem mMul_e {x : D} {y : D} {S : Store} {Q : D → Store → Prop} : mMul  x y S Q = (match x, y with
  | .int i, .int j => CMul i j ∧ Q (.int (i * j)) S
  | x, .int k => match rdL x S with
    | some ds => -(2 ^ 63) ≤ k ∧ k < 2 ^ 63 ∧ ds.length * k.toNat ≤ sizeLine ∧ Q (.lst (List.replicate k.toNat ds).flatten) S
    | none => False
  | _, _ => False) := rfl
theorem mEq_e {x : D} {y : D} {S : Store} {Q : D → Store → Prop} : mEq  x y S Q = (match x, y with
  | .str a, .str b => Q (.bl (decide (a = b))) S
  | x, y => okq S x ∧ okq S y ∧ Q (.bl (eqq S x y)) S) := rfl
theorem mNe_e {x : D} {y : D} {S : Store} {Q : D → Store → Prop} : mNe  x y S Q = (match x, y with
  | .str a, .str b => Q (.bl (!decide (a = b))) S
  | x, y => okq S x ∧ okq S y ∧ Q (.bl (!eqq S x y)) S) := rfl
theorem mEqS_e {x : D} {y : D} {S : Store} {Q : D → Store → Prop} : mEqS  x y S Q = (match y with
  | .str z => noRef S x ∧ Q (.bl (isS x z)) S
  | _ => False) := rfl
theorem mIsB_e {neg : Bool} {x : D} {y : D} {S : Store} {Q : D → Store → Prop} : mIsB neg x y S Q = (match x, y with
  | .bl a, .bl b => Q (.bl (if neg then !(decide (a = b)) else decide (a = b))) S
  | _, _ => False) := rfl
theorem mIx_e {x : D} {y : D} {S : Store} {Q : D → Store → Prop} : mIx  x y S Q = (match x, y with
  | .str z, .int i => z.length ≤ sizeLine ∧ (match atI z.cps.toList i with
    | some c => Q (.str ⟨#[c]⟩) S
    | none => False)
  | x, .int i => match rdS x S with
    | some ds => (match atI ds i with
      | some d => Q d S
      | none => False)
    | none => False
  | _, _ => False) := rfl
theorem mNil_e {z_0 : Sl} {S : Store} {Q : List D → Store → Prop} : mNil  z_0 S Q = (Q [] S) := rfl
theorem mCons_e {m : VE} {ms : VA} {ρ : Sl} {S : Store} {Q : List D → Store → Prop} : mCons m ms ρ S Q = (m ρ S fun d S1 => ms ρ S1 fun ds S2 => Q (d :: ds) S2) := rfl
theorem mTup_e {ms : VA} {ρ : Sl} {S : Store} {Q : D → Store → Prop} : mTup ms ρ S Q = (ms ρ S fun ds S1 => ds.length ≤ sizeLine ∧ Q (.tup ds) S1) := rfl
theorem mLst_e {ms : VA} {ρ : Sl} {S : Store} {Q : D → Store → Prop} : mLst ms ρ S Q = (ms ρ S fun ds S1 => ds.length ≤ sizeLine ∧ Q (.lst ds) S1) := rfl
theorem mLstM_e {ms : VA} {ρ : Sl} {S : Store} {Q : D → Store → Prop} : mLstM ms ρ S Q = (ms ρ S fun ds S1 => ds.length ≤ sizeLine ∧ ∀ a, S1 a = none → Q (.ref a) (supd S1 a (.lst ds))) := rfl
theorem mTest_e {m : VE} {ρ : Sl} {S : Store} {Q : Bool → Store → Prop} : mTest m ρ S Q = (m ρ S fun d S1 => match d with
  | .bl b => Q b S1
  | _ => False) := rfl
theorem mNot_e {m : VT} {ρ : Sl} {S : Store} {Q : Bool → Store → Prop} : mNot m ρ S Q = (m ρ S fun b S1 => Q (!b) S1) := rfl
theorem mAnd_e {m n : VT} {ρ : Sl} {S : Store} {Q : Bool → Store → Prop} : mAnd m n ρ S Q = (m ρ S fun b S1 => if b = true then n ρ S1 Q else Q false S1) := rfl
theorem mOr_e {m n : VT} {ρ : Sl} {S : Store} {Q : Bool → Store → Prop} : mOr m n ρ S Q = (m ρ S fun b S1 => if b = true then Q true S1 else n ρ S1 Q) := rfl
theorem mAndV_e {m n : VE} {ρ : Sl} {S : Store} {Q : D → Store → Prop} : mAndV m n ρ S Q = (m ρ S fun d S1 => match d with
  | .bl b => if b = true then n ρ S1 Q else Q (.bl false) S1
  | _ => False) := rfl
theorem mOrV_e {m n : VE} {ρ : Sl} {S : Store} {Q : D → Store → Prop} : mOrV m n ρ S Q = (m ρ S fun d S1 => match d with
  | .bl b => if b = true then Q (.bl true) S1 else n ρ S1 Q
  | _ => False) := rfl
theorem mNotV_e {m : VE} {ρ : Sl} {S : Store} {Q : D → Store → Prop} : mNotV m ρ S Q = (m ρ S fun d S1 => match d with
  | .bl b => Q (.bl (!b)) S1
  | _ => False) := rfl
theorem mIfE_e {t : VT} {m n : VE} {ρ : Sl} {S : Store} {Q : D → Store → Prop} : mIfE t m n ρ S Q = (t ρ S fun b S1 => if b = true then m ρ S1 Q else n ρ S1 Q) := rfl
theorem mChain_e {m m' : R2V} {ma mb mc : VE} {ρ : Sl} {S : Store} {Q : D → Store → Prop} : mChain m m' ma mb mc ρ S Q = (ma ρ S fun x S1 => mb ρ S1 fun y S2 => m x y S2 fun z S3 => match z with
  | .bl k => if k = true then mc ρ S3 fun w S4 => m' y w S4 Q else Q (.bl false) S3
  | _ => False) := rfl
theorem mCB_e {m : CV} {ms : VA} {ρ : Sl} {S : Store} {Q : D → Store → Prop} : mCB m ms ρ S Q = (ms ρ S fun ds S1 => m ds S1 Q) := rfl
theorem mLen_e {ds : List D} {S : Store} {Q : D → Store → Prop} : mLen  ds S Q = (match ds with
  | [.str z] => z.length ≤ sizeLine ∧ Q (.int z.length) S
  | [d] => match rdS d S with
    | some ds => Q (.int ds.length) S
    | none => False
  | _ => False) := rfl
theorem mInt1_e {g : Int → Int} {ds : List D} {S : Store} {Q : D → Store → Prop} : mInt1 g ds S Q = (match ds with
  | [.int i] => Q (.int (g i)) S
  | _ => False) := rfl
theorem mInt2_e {g : Int → Int → Int} {ds : List D} {S : Store} {Q : D → Store → Prop} : mInt2 g ds S Q = (match ds with
  | [.int i, .int j] => Q (.int (g i j)) S
  | _ => False) := rfl
theorem mBls_e {g : List Bool → Bool} {ds : List D} {S : Store} {Q : D → Store → Prop} : mBls g ds S Q = (match ds with
  | [d] => match rdR d S with
    | some ds => (match bls ds with
      | some bs => Q (.bl (g bs)) S
      | none => False)
    | none => False
  | _ => False) := rfl
theorem mTupOf_e {ds : List D} {S : Store} {Q : D → Store → Prop} : mTupOf  ds S Q = (match ds with
  | [.tup es] => Q (.tup es) S
  | [d] => match rdR d S with
    | some es => Q (.tup es) S
    | none => False
  | _ => False) := rfl
theorem mLstOf_e {ds : List D} {S : Store} {Q : D → Store → Prop} : mLstOf  ds S Q = (match ds with
  | [d] => match rdS d S with
    | some es => Q (.lst es) S
    | none => False
  | _ => False) := rfl
theorem mIsi_e {n : String} {m : VE} {ρ : Sl} {S : Store} {Q : D → Store → Prop} : mIsi n m ρ S Q = (m ρ S fun d S1 => tyn d S1 ≠ "?" ∧ Q (.bl (isT (tyn d S1) n)) S1) := rfl
theorem mCall_e {n : Nat} {sp : VSp} {ms : VA} {ρ : Sl} {S : Store} {Q : D → Store → Prop} : mCall n sp ms ρ S Q = (ms ρ S fun ds S1 => ds.length = n ∧ sp ds S1 Q) := rfl
theorem mNx_e {E : VEnds} {ρ : Sl} {S : Store} : mNx  E ρ S = (E.nx ρ S) := rfl
theorem mSeq_e {t u : VS} {E : VEnds} {ρ : Sl} {S : Store} : mSeq t u E ρ S = (t (E.on fun ρ' S' => u E ρ' S') ρ S) := rfl
theorem mRet_e {m : VE} {E : VEnds} {ρ : Sl} {S : Store} : mRet m E ρ S = (m ρ S E.rt) := rfl
theorem mIf_e {c : VT} {t u : VS} {E : VEnds} {ρ : Sl} {S : Store} : mIf c t u E ρ S = (c ρ S fun b S1 => if b = true then t E ρ S1 else u E ρ S1) := rfl
theorem mAsg_e {m : VE} {g : VG} {E : VEnds} {ρ : Sl} {S : Store} : mAsg m g E ρ S = (m ρ S fun d S1 => g d ρ S1 E.nx) := rfl
theorem mSet_e {i : Nat} {m : VE} {E : VEnds} {ρ : Sl} {S : Store} : mSet i m E ρ S = (m ρ S fun d S1 => E.nx (ρ.set i (some d)) S1) := rfl
theorem mUnp_e {is : List Nat} {m : VE} {E : VEnds} {ρ : Sl} {S : Store} : mUnp is m E ρ S = (m ρ S fun d S1 => match mCT (.many is) d ρ with
  | some ρ' => E.nx ρ' S1
  | none => False) := rfl
theorem gSetIx_e {mo mi : VE} {d : D} {ρ : Sl} {S : Store} {Q : Sl → Store → Prop} : gSetIx mo mi d ρ S Q = (mo ρ S fun o S1 => mi ρ S1 fun i S2 => match o, i with
  | .ref a, .int i => match S2 a with
    | some (.lst ds) => match ixN ds.length i with
      | some j => Q ρ (supd S2 a (.lst (ds.set j d)))
      | none => False
    | _ => False
  | _, _ => False) := rfl
theorem mSq_e {m : VE} {ρ : Sl} {S : Store} {Q : List D → (Store → Prop) → Store → Prop} : mSq m ρ S Q = (m ρ S fun d S1 => match d with
  | .tup ds => Q ds (fun _ => True) S1
  | .lst ds => Q ds (fun _ => True) S1
  | .ro ds => Q ds (fun _ => True) S1
  | .ref a => match S1 a with
    | some (.lst ds) => Q ds (fun S2 => S2 a = some (.lst ds)) S1
    | _ => False
  | _ => False) := rfl
theorem mRng1_e {m : VE} {ρ : Sl} {S : Store} {Q : List D → (Store → Prop) → Store → Prop} : mRng1 m ρ S Q = (m ρ S fun d S1 => match d with
  | .int j => -(2 ^ 62) ≤ j ∧ j < 2 ^ 62 ∧ Q (rngD 0 j.toNat) (fun _ => True) S1
  | _ => False) := rfl
theorem mYes_e {z_0 : Sl} {S : Store} {Q : Bool → Store → Prop} : mYes  z_0 S Q = (Q true S) := rfl
theorem mIn_e {neg : Bool} {x : D} {y : D} {S : Store} {Q : D → Store → Prop} : mIn neg x y S Q = (match x, y with
  | .str x, .str z => (match x.cps.toList with
    | [c] => Q (.bl (if neg then !decide (c ∈ z.cps.toList) else decide (c ∈ z.cps.toList))) S
    | _ => False)
  | x, y => match rdS y S with
    | some ds => flatD x = true ∧ ds.all flatD = true ∧ Q (.bl (if neg then !inF x ds else inF x ds)) S
    | none => False) := rfl
theorem mNeg_e {m : VE} {ρ : Sl} {S : Store} {Q : D → Store → Prop} : mNeg m ρ S Q = (m ρ S fun d S1 => match d with
  | .int i => Q (.int (-i)) S1
  | _ => False) := rfl
theorem mReprW_e {ds : List D} {S : Store} {Q : D → Store → Prop} : mReprW  ds S Q = (match ds with
  | [d] => fitW (rsv S d) ∧ Q (.str (pyd (rsv S d)).shown) S
  | _ => False) := rfl
theorem mCT_1 {i : Nat} {d : D} {ρ : Sl} : mCT (.one i) d ρ = some (ρ.set i (some d)) := rfl
theorem mCT_m {is : List Nat} {ds : List D} {ρ : Sl} : mCT (.many is) (.tup ds) ρ = if ds.length = is.length then some (setAll ρ is ds) else none := rfl
theorem setAll_c {α : Type} {ρ : List (Option α)} {i : Nat} {is : List Nat} {d : α} {ds : List α} : setAll ρ (i :: is) (d :: ds) = setAll (ρ.set i (some d)) is ds := rfl
theorem setAll_n {α : Type} {ρ : List (Option α)} {ds : List α} : setAll ρ [] ds = ρ := by cases ds <;> rfl
theorem wipeD_n {ρ : Sl} : wipeD ρ [] = ρ := rfl
theorem wipeD_c {ρ : Sl} {v : Nat} {vs : List Nat} : wipeD ρ (v :: vs) = (wipeD ρ vs).set v none := rfl
theorem rFrz_e {acc : List D} {S : Store} {Q : D → Store → Prop} : rFrz acc S Q = Q (.lst acc) S := rfl
theorem mFor_rng {c : CT} {mi : VW} {mb : VS} {E : VEnds} {ρ : Sl} {S : Store} (lo : Int) (n : Nat) (I : Nat → Sl → Store → Prop) {kp : Store → Prop} {S1 : Store} (hm : ∀ Qi : List D → (Store → Prop) → Store → Prop, Qi (rngD lo n) kp S1 → mi ρ S Qi) (h0 : I 0 ρ S1) (hk : ∀ i ρ2 S2, I i ρ2 S2 → kp S2)
    (hs : ∀ (i : Nat) ρ2 S2, i < n → I i ρ2 S2 → match mCT c (.int (lo + (i : Int))) ρ2 with
      | some ρ3 => mb (E.loop (I (i + 1))) ρ3 S2
      | none => False)
    (he : ∀ ρ2 S2, I n ρ2 S2 → E.nx ρ2 S2) : mFor c mi mb E ρ S := hm _ (for_rng I h0 hk hs he)
theorem mLc_of {c : CT} {mi : VW} {mt : VT} {me : VE} {vs : List Nat} {R : List D → Store → (D → Store → Prop) → Prop} {ρ : Sl} {S : Store} {Q : D → Store → Prop} (ds : List D) (f : D → List D) {kp : Store → Prop} {S1 : Store} (hm : ∀ Qi : List D → (Store → Prop) → Store → Prop, Qi ds kp S1 → mi ρ S Qi)
    (hl : ds.length ≤ sizeLine) (hk : kp S1)
    (hs : ∀ d ∈ ds, ∀ J : List D → Store → Prop, J (f d) S1 → match mCT c d (wipeD ρ vs) with
      | some ρ3 => mt ρ3 S1 fun b S3 => if b = true then me ρ3 S3 fun y S4 => J [y] S4 else J [] S3
      | none => False)
    (hR : R (ds.flatMap f) S1 Q) : mLcG c mi mt me vs R ρ S Q := hm _ (lc_turns f hl hk hs hR)
theorem okq_of {S : Store} {d : D} (h : rsv S d = d) (k : SeqAt.shaped (py d) = true) : okq S d := by unfold okq; rw [h]; exact k
end VL
set_option maxHeartbeats 2000000
namespace VL
open PySem PySem.Spec L2
open PyProof.Rows hiding St
section
variable {X : Cx}
def rdD (d : D) (S : Store) : Option (List (Key × D)) := match d with
  | .dct kvs => some kvs
  | .ref a => match S a with
    | some (.dct kvs) => some kvs
    | _ => none
  | _ => none
theorem rdD_dct {kvs : List (Key × D)} {S : Store} : rdD (.dct kvs) S = some kvs := rfl
theorem rdD_ok {K : PySem.W.Frag} {G H : Hp} {S : Store} {d : D} {v : V} {kvs : List (Key × D)} (vw : View K G S H) (r : Rp K G v d) (h : rdD d S = some kvs) : ∃ a ks, v = .ref a ∧ Rd H a (.dK ks) ∧ RpK K G ks kvs := by
  cases r with
  | dct e r => simp only [rdD, Option.some.injEq] at h; subst h; exact ⟨_, _, rfl, .inr ⟨_, vw.gh _ _ e⟩, r⟩
  | ref a =>
    simp only [rdD] at h
    split at h
    · rename_i ds' e
      cases h
      obtain ⟨_, u, hu, k⟩ := vw.st a _ e
      cases k with
      | dct r => exact ⟨a, _, rfl, .inl hu, r⟩
    · cases h
  | _ => simp [rdD] at h
theorem key_ok {K : PySem.W.Frag} {G : Hp} {v : V} {d : D} {k : Key} (r : Rp K G v d) (h : keyD d = some k) : v = kV k := by
  cases r <;> simp only [keyD, Option.some.injEq, reduceCtorEq] at h <;> subst h <;> rfl
def mDSub (m i : VE) : VE := fun ρ S Q => m ρ S fun d S1 => i ρ S1 fun y S2 => match rdD d S2, keyD y with
  | some kvs, some k => (match valD kvs k with
    | some v => Q v S2
    | none => False)
  | _, _ => False
theorem mDSub_e {m i : VE} {ρ : Sl} {S : Store} {Q : D → Store → Prop} : mDSub m i ρ S Q = m ρ S fun d S1 => i ρ S1 fun y S2 => match rdD d S2, keyD y with
  | some kvs, some k => (match valD kvs k with
    | some v => Q v S2
    | none => False)
  | _, _ => False := rfl
theorem v_dsub {o i : Expr} {m mi : VE} {pos : Pos} (hu : X.A.units + 1 < cLine) (ho : PE X o (LE X.K m)) (hi : PE X i (LE X.K mi)) (hs : NoSl i := by first | exact fun _ _ => rfl | trivial) : PE X (.Subscript o i pos) (LE X.K (mDSub m mi)) := by
  refine PE.imp (pe_dget hu ho hi hs) fun σ H Q' ⟨ρ, S, G, Q, vw, re, hm, k⟩ => ?_
  refine ⟨ρ, S, G, _, vw, re, hm, fun d S1 v1 H1 G1 a1 r1 h1 => ?_⟩
  refine ⟨ρ, S1, G1, _, a1.vw, re.mono a1.gg, h1, fun y S2 v2 H2 G2 a2 r2 h2 => ?_⟩
  split at h2
  · rename_i kvs ky e1 e2
    obtain ⟨a, ks, rfl, hr, rk⟩ := rdD_ok a2.vw (r1.mono a2.gg) e1
    split at h2
    · rename_i w e3
      rcases rk.val (k := ky) with ⟨z, _⟩ | ⟨v, d', z1, z2, z3⟩
      · rw [e3] at z; cases z
      · rw [e3] at z1; cases z1
        exact ⟨a, v, rfl, .inl ⟨ks, ky, hr, key_ok r2 e2, z2.symm⟩, k _ S2 _ H2 G2 (a1.trans a2) z3 h2⟩
    · exact h2.elim
  · exact h2.elim
def mDGet (m i x : VE) : VE := fun ρ S Q => m ρ S fun d S1 => (rdD d S1).isSome = true ∧ i ρ S1 fun y S2 => x ρ S2 fun z S3 => match rdD d S3, keyD y with
  | some kvs, some k => Q ((valD kvs k).getD z) S3
  | _, _ => False
theorem mDGet_e {m i x : VE} {ρ : Sl} {S : Store} {Q : D → Store → Prop} : mDGet m i x ρ S Q = m ρ S fun d S1 => (rdD d S1).isSome = true ∧ i ρ S1 fun y S2 => x ρ S2 fun z S3 => match rdD d S3, keyD y with
  | some kvs, some k => Q ((valD kvs k).getD z) S3
  | _, _ => False := rfl
theorem v_dget2 {o e f : Expr} {m mi mx : VE} {apos cpos : Pos} (hu : X.A.units + 1 < cLine) (ho : PE X o (LE X.K m)) (hi : PE X e (LE X.K mi)) (hf : PE X f (LE X.K mx)) (M : M2 X o "get" apos e f cpos) : PE X (.Call (.Attribute o "get" apos) [e, f] [] cpos) (LE X.K (mDGet m mi mx)) := by
  refine PE.imp (pe_dget2 hu ho hi hf M) fun σ H Q' ⟨ρ, S, G, Q, vw, re, hm, k⟩ => ?_
  refine ⟨ρ, S, G, _, vw, re, hm, fun d S1 v1 H1 G1 a1 r1 ⟨h0, h1⟩ => ?_⟩
  obtain ⟨kvs0, e0⟩ := Option.isSome_iff_exists.mp h0
  obtain ⟨a, ks0, rfl, hr0, rk0⟩ := rdD_ok a1.vw r1 e0
  refine ⟨a, rfl, .inl ⟨ks0, hr0⟩, ρ, S1, G1, _, a1.vw, re.mono a1.gg, h1, fun y S2 v2 H2 G2 a2 r2 h2 => ?_⟩
  refine ⟨ρ, S2, G2, _, a2.vw, (re.mono a1.gg).mono a2.gg, h2, fun z S3 v3 H3 G3 a3 r3 h3 => ?_⟩
  split at h3
  · rename_i kvs ky e1 e2
    obtain ⟨a', ks, e, hr, rk⟩ := rdD_ok a3.vw ((r1.mono a2.gg).mono a3.gg) e1
    cases e
    refine ⟨valV ks ky, .inl ⟨ks, ky, hr, key_ok r2 e2, rfl⟩, ?_⟩
    have a13 := a1.trans (a2.trans a3)
    rcases rk.val (k := ky) with ⟨z1, z2⟩ | ⟨v, d', z1, z2, z3⟩
    · rw [z1] at h3; rw [z2]; exact k _ S3 _ H3 G3 a13 r3 h3
    · rw [z1] at h3; rw [z2]; exact k _ S3 _ H3 G3 a13 z3 h3
  · exact h3.elim
def mDIn (neg : Bool) (i m : VE) : VE := fun ρ S Q => i ρ S fun y S1 => m ρ S1 fun d S2 => match rdD d S2, keyD y with
  | some kvs, some k => Q (.bl (if neg then !(valD kvs k).isSome else (valD kvs k).isSome)) S2
  | _, _ => False
theorem mDIn_e {neg : Bool} {m i : VE} {ρ : Sl} {S : Store} {Q : D → Store → Prop} : mDIn neg i m ρ S Q = i ρ S fun y S1 => m ρ S1 fun d S2 => match rdD d S2, keyD y with
  | some kvs, some k => Q (.bl (if neg then !(valD kvs k).isSome else (valD kvs k).isSome)) S2
  | _, _ => False := rfl
theorem le_din {K : PySem.W.Frag} {i m : VE} {ρ : Sl} {neg : Bool} {σ : L2.St} {H : Hp} {Q' : VK} (q : LE K (mDIn neg i m) σ H Q') : LE K i σ H fun y H1 => LE K m σ H1 fun x H2 => ∃ a o, x = .ref a ∧ DGet H2 a y o ∧ Q' (.bl (if neg then !o.isSome else o.isSome)) H2 := by
  obtain ⟨ρ, S, G, Q, vw, re, hm, k⟩ := q
  refine ⟨ρ, S, G, _, vw, re, hm, fun y S1 v1 H1 G1 a1 r1 h1 => ?_⟩
  refine ⟨ρ, S1, G1, _, a1.vw, re.mono a1.gg, h1, fun d S2 v2 H2 G2 a2 r2 h2 => ?_⟩
  split at h2
  · rename_i kvs ky e1 e2
    obtain ⟨a, ks, rfl, hr, rk⟩ := rdD_ok a2.vw r2 e1
    refine ⟨a, valV ks ky, rfl, .inl ⟨ks, ky, hr, key_ok r1 e2, rfl⟩, ?_⟩
    rcases rk.val (k := ky) with ⟨z1, z2⟩ | ⟨v, d', z1, z2, z3⟩
    · rw [z1] at h2; rw [z2]; exact k _ S2 _ H2 G2 (a1.trans a2) (.bl _) h2
    · rw [z1] at h2; rw [z2]; exact k _ S2 _ H2 G2 (a1.trans a2) (.bl _) h2
  · exact h2.elim
def sgnD (x : Str) : List D := x.cps.toList.map fun c => .str ⟨#[c]⟩
theorem walks_str {K : PySem.W.Frag} {G1 : Hp} {x : Str} : Walks K G1 (fun _ => True) (Its x) (sgnD x) where
  stop := fun H G S g v k => by show x.cps.size ≤ (sgnD x).length; simp [sgnD]
  goes := fun i H G S hi g v k => by show i < x.cps.size; simpa [sgnD] using hi
  yld := fun i d H u H' G S hd g v k y => by
    obtain ⟨e1, c, e2, e3⟩ := y
    subst e1 e3
    simp only [sgnD, List.getElem?_map, Array.getElem?_toList, e2, Option.map_some, Option.some.injEq] at hd
    subst hd
    exact ⟨G, Aft.refl v, .str _⟩
def mSgn (m : VE) : VW := fun ρ S Q => m ρ S fun d S1 => match d with
  | .str x => Q (sgnD x) (fun _ => True) S1
  | _ => False
theorem mSgn_e {m : VE} {ρ : Sl} {S : Store} {Q : List D → (Store → Prop) → Store → Prop} : mSgn m ρ S Q = m ρ S fun d S1 => match d with
  | .str x => Q (sgnD x) (fun _ => True) S1
  | _ => False := rfl
theorem i_str {tg e : Expr} {m : VE} (h : PE X e (LE X.K m)) : PI X tg e (LI X.K (mSgn m)) := by
  refine PI.imp (pi_str h) fun σ H R ⟨ρ, S, G, Q, vw, re, hm, k⟩ => ?_
  refine ⟨ρ, S, G, _, vw, re, hm, fun d S1 v1 H1 G1 a1 r1 h1 => ?_⟩
  cases r1 <;> try exact h1.elim
  rename_i x
  exact ⟨x, rfl, k _ _ S1 H1 G1 _ a1 walks_str h1⟩
end
end VL
set_option maxHeartbeats 2000000
namespace VL
open PySem PySem.Spec L2
open PyProof.Rows hiding St
theorem kds_codeIn {K : PySem.W.Frag} {cd : Value} {q : Str} (h : PySem.W.codeIn K cd q = true) : PySem.W.kdsCode K cd = true := by
  unfold PySem.W.codeIn at h
  unfold PySem.W.kdsCode
  split at h
  · split at h
    · rename_i e; simp only [e]
    · cases h
  · cases h
section
variable {P : Program} {w : World} {A : Around} {E : Value → Shared → Prop} {s : Shared}
abbrev freshSet (w : World) : Obj := { cls := .type "set", dict := none, data := .set #[] 0 (.fresh 0 0 (!w.params.followText "set-order")) }
theorem newSet_known {Qs : Value → Shared → Prop} (q : Qs (.ref s.heap.objs.size) { s with heap := s.heap.push (freshSet w) }) : wpAny (model P w) A (newSet (.type "set")) Qs E s := by
  unfold newSet setsByText
  refine wpAny_bind (wpAny_bind (wpAny_askSetting (wpAny_pure ?_))); dsimp only; simp only [newObj]
  exact wpAny_bind (wpAny_alloc (wpAny_pure q))
theorem two_laid {b : Bool} {el : List (Bool × Sem Value)} {ts : List (Sem Value)} {Qs : Value → Shared → Prop} (h0 : el.findIdx? (·.1) = none) (h1 : el.length ≤ 30) (h2 : el.map (·.2) = ts)
    (q : wpAny (model P w) A (evalAll ts) (fun us s1 => PySem.W.KdsFill (model P w) A E false s.heap.objs.size Qs us s1) E { s with heap := s.heap.push (freshSet w) }) :
    wpAny (model P w) A (setDisplay .oneByOne b el) Qs E s := by
  have many : (if el.length > 30 then 0 else (el.findIdx? (·.1)).getD el.length) = el.length := by rw [if_neg (by omega), h0]; rfl
  unfold setDisplay
  try dsimp only
  rw [if_neg (by decide)]
  refine wpAny_bind (newSet_known ?_); dsimp only
  rw [many, List.take_length, List.drop_length, h2]
  refine wpAny_bind (wpAny_holding (wpAny_bind (wpAny_mono q (fun us s1 q1 => ?_) fun _ _ z => z)))
  refine wpAny_bind (wpAny_holding (wpAny_bind (wpAny_mono (PySem.W.kds_for (fun x R s2 hx => ?_) us s1 q1) (fun _ s2 q2 => ?_) fun _ _ z => z)))
  · refine wpAny_bind (wpAny_mono hx (fun _ s3 q3 => ?_) fun _ _ z => z)
    first | exact wpAny_bind (wpAny_pure (wpAny_pure ⟨rfl, q3⟩)) | exact wpAny_pure ⟨rfl, q3⟩
  · have q3 : Qs (.ref s.heap.objs.size) s2 := by simpa [PySem.W.KdsFill] using q2
    rw [if_neg (by decide)]
    refine wpAny_pure ?_; rw [List.forIn_nil]
    exact wpAny_pure (wpAny_pure q3)
theorem add_one {a : Addr} {Sm : Int → Bool} {n : Nat} {k : Int} {tk : Tok} {Qs : Bool → Shared → Prop} (R : SetR w s.heap a Sm n) (room : n + 1 < scanBound)
    (q : ∀ h', Heap.SameBut a s.heap h' → SetR w h' a (fun j => Sm j || decide (j = k)) (if Sm k = true then n else n + 1) → Qs (!Sm k) { s with heap := h', toks := s.toks + 1 }) : wpAny (model P w) A (setAdd a (.int k tk)) Qs E s := by
  unfold setAdd
  refine wpAny_holding (wpAny_bind ((intKind P w).pyHash (intKind_is P w k tk) ?_))
  exact setR_add_hashed (s := { s with toks := s.toks + 1 }) R room q
end
section
variable {X : Cx}
def tSet2 (w : World) (ta tb : TE) : TE := fun σ H Q => ∀ p, H p = none → ta σ (upd H p (SetO w p (fun _ => false) 0)) fun x H1 => tb σ H1 fun y H2 => ∃ i j : Int, x = .int i ∧ y = .int j ∧ H2 p = some (SetO w p (fun _ => false) 0) ∧
  ∀ (S : Int → Bool), (∀ k, S k = true ↔ k = i ∨ k = j) → Q (.ref p) (upd H2 p (SetO w p S (if i = j then 1 else 2)))
theorem pe_set2 {a b : Expr} {ta tb : TE} {pos : Pos} (hcd : PySem.W.kdsCode X.K X.env.code = true) (ha : PE X a ta) (hb : PE X b tb) (hp : [a, b].all PySem.W.kdsPlain = true := by rfl) : PE X (.Set [a, b] 0 pos) (tSet2 X.w ta tb) := by
  refine ⟨fun pins s σ H Q I q => ?_⟩
  have hn := I.hok.fresh (Nat.le_refl s.heap.objs.size)
  have I1 : L2.Inv X pins σ (upd H s.heap.objs.size (SetO X.w s.heap.objs.size (fun _ => false) 0)) { s with heap := s.heap.push (freshSet X.w) } :=
    I.laid (t' := s.toks) (fun b u e => Heap.get?_push_of_some _ e) (Nat.le_refl _) (setO_new (setR_fresh X.w))
  rw [arm_eval_Set]
  refine wpAny_bind (wpAny_standAt (wpAny_bind (PySem.W.kds_main I.kIn hcd fun bb => ?_)))
  rw [PySem.W.kds_star [a, b] hp, List.map_map]
  have road : displayRoad 0 [a, b] = .oneByOne := by unfold displayRoad; rw [if_neg (Nat.lt_irrefl 0), if_pos (by simp)]
  rw [road]
  refine two_laid (ts := (evalEach [a, b] X.env).map fun t => do let v ← t; standAt pos; pure v) ?_ ?_ ?_ ?_
  · refine List.findIdx?_eq_none_iff.mpr fun x hx => ?_
    obtain ⟨t, _, rfl⟩ := List.mem_map.mp hx; rfl
  · rw [List.length_map, PySem.W.kds_len]; simp
  · rw [List.map_map]; try rfl
  refine PySem.W.kds_all pos [a, b] _ _ ?_
  refine wpAny_mono (ha.run pins _ σ _ _ I1 (q _ hn)) (fun u s1 ⟨x, H1, I2, rx, q1⟩ => ?_) fun _ _ z => z
  refine wpAny_mono (hb.run pins s1 σ H1 _ I2 q1) (fun u2 s2 ⟨y, H2, I3, ry, i, j, ex, ey, hS, q2⟩ => ?_) fun _ _ z => z
  subst ex ey
  obtain ⟨t1, rfl⟩ := rx
  obtain ⟨t2, rfl⟩ := ry
  show PySem.W.KdsFill (model X.prog X.w) X.A X.xe false s.heap.objs.size (EP X pins σ Q) [.int i t1, .int j t2] s2
  have R0 := setO_get I3 hS
  refine PySem.W.kds_fill_cons (add_one R0 (by decide) fun h1 sb1 R1 => ?_)
  have R1' : SetR X.w h1 s.heap.objs.size (fun k => decide (k = i)) 1 := by
    have := SetR.congr R1 (S' := fun k => decide (k = i)) (fun k => by simp)
    simpa using this
  refine PySem.W.kds_fill_cons (add_one (s := { s2 with heap := h1, toks := s2.toks + 1 }) R1' (by decide) fun h2 sb2 R2 => ?_)
  refine PySem.W.kds_fill_nil rfl ?_
  have he : ∃ u, h2.get? s.heap.objs.size = some u := by
    have ⟨o, _, _, _, ho, _⟩ := R2
    exact ⟨o, ho⟩
  have R2' : SetR X.w h2 s.heap.objs.size (fun k => decide (k = i) || decide (k = j)) (if i = j then 1 else 2) := by
    have e : (if decide (j = i) = true then 1 else 1 + 1) = if i = j then 1 else 2 := by by_cases h : i = j <;> simp [h, eq_comm]
    rw [← e]; exact R2
  exact ⟨.ref s.heap.objs.size, _, I3.write (e := s.heap.objs.size) (t' := s2.toks + 1 + 1) (by rw [hS]; trivial) (.inl rfl) (fun b u hb hu => (sb2.2 b hb).trans ((sb1.2 b hb).trans hu)) he (setO_new R2'), rfl, q2 _ fun k => by simp⟩
/-- sorted of two ints, each once -/
def sort2 (i j : Int) : List Int := if i = j then [i] else if i < j then [i, j] else [j, i]
theorem sort2_of {i j : Int} {ns : List Int} (h1 : ns.Pairwise (· < ·)) (h2 : ∀ k, k ∈ ns ↔ k = i ∨ k = j) (h3 : ns.length = if i = j then 1 else 2) : ns = sort2 i j := by
  unfold sort2
  by_cases e : i = j
  · rw [if_pos e] at h3 ⊢
    match ns, h3 with
    | [a], _ =>
      have := (h2 a).mp (by simp)
      rcases this with z | z
      · rw [z]
      · rw [z, e]
  · rw [if_neg e] at h3 ⊢
    match ns, h3 with
    | [a, b], _ =>
      have hab : a < b := by simpa using h1
      have ha := (h2 a).mp (by simp)
      have hb := (h2 b).mp (by simp)
      by_cases l : i < j
      · rw [if_pos l]
        rcases ha with rfl | rfl <;> rcases hb with rfl | rfl <;> first | rfl | omega
      · rw [if_neg l]
        rcases ha with rfl | rfl <;> rcases hb with rfl | rfl <;> first | rfl | omega
/-- sorted({a, b}): a new list of the store -/
def mSort2 (ma mb : VE) : VE := fun ρ S Q => ma ρ S fun x S1 => mb ρ S1 fun y S2 => match x, y with
  | .int i, .int j => ∀ p, S2 p = none → Q (.ref p) (supd S2 p (.lst ((sort2 i j).map D.int)))
  | _, _ => False
theorem mSort2_e {ma mb : VE} {ρ : Sl} {S : Store} {Q : D → Store → Prop} : mSort2 ma mb ρ S Q = ma ρ S fun x S1 => mb ρ S1 fun y S2 => match x, y with
  | .int i, .int j => ∀ p, S2 p = none → Q (.ref p) (supd S2 p (.lst ((sort2 i j).map D.int)))
  | _, _ => False := rfl
theorem rints {K : PySem.W.Frag} (G : Hp) : ∀ ns : List Int, RpL K G (ns.map V.int) (ns.map D.int)
  | [] => .nil
  | n :: ns => .cons (.int n) (rints G ns)
theorem v_sort2 {a b : Expr} {ma mb : VE} {p1 p2 pos : Pos} (hc : X.calm = true) (hcd : PySem.W.kdsCode X.K X.env.code = true) (hg : Gl X "sorted") (hm : X.mg "sorted" = none) (ha : PE X a (LE X.K ma)) (hb : PE X b (LE X.K mb)) (hp : [a, b].all PySem.W.kdsPlain = true := by rfl)
    (he : starEach [.Set [a, b] 0 p2] X.env = (false, eval (.Set [a, b] 0 p2) X.env) :: starEach [] X.env := by rfl) : PE X (.Call (.Name "sorted" p1) [.Set [a, b] 0 p2] [] pos) (LE X.K (mSort2 ma mb)) := by
  refine PE.imp (pe_callB (cr_sortedSet hc) hg hm (by decide +kernel) (pa_cons (pe_set2 hcd ha hb hp) pa_nil he) (by decide) (by decide) he) fun σ H Q' ⟨ρ, S, G, Q, vw, re, hm, k⟩ => ?_
  intro p hp
  have n0 := vw.none hp
  have aj := (Aft.refl vw).junk (u := SetO X.w p (fun _ => false) 0) hp n0.2 n0.1
  refine ⟨ρ, S, G, _, aj.vw, re, hm, fun x S1 v1 H1 G1 a1 r1 h1 => ?_⟩
  refine ⟨ρ, S1, G1, _, a1.vw, re.mono a1.gg, h1, fun y S2 v2 H2 G2 a2 r2 h2 => ?_⟩
  cases r1 <;> try exact h2.elim
  cases r2 <;> try exact h2.elim
  rename_i i j
  have a12 := aj.trans (a1.trans a2)
  obtain ⟨e1, s1, g1⟩ := a1.fr p _ n0.2 upd_same
  obtain ⟨e2, s2, g2⟩ := a2.fr p _ s1 e1
  refine ⟨i, j, rfl, rfl, e2, fun Sm hSm => ?_⟩
  refine ⟨p, Sm, _, rfl, upd_same, by split <;> decide, fun ns t hs hk hl ht => ?_⟩
  have en := sort2_of hs (fun k => by rw [hk, hSm]) hl
  subst en
  have gp : G2 p = none := by rw [g2, g1]; exact n0.1
  have b2 : Aft X.K G S H S2 (upd H2 p (SetO X.w p Sm (if i = j then 1 else 2))) G2 := (a12.junk (a := p) hp s2 gp)
  have b3 := b2.vw.stored (o := .lst ((sort2 i j).map D.int)) ht (.lst (rints _ _))
  exact k _ _ _ _ _ (b2.trans b3) (.ref _) (h2 t (b2.vw.none ht).2)
end
end VL
set_option maxHeartbeats 2000000
namespace VL
open PySem PySem.Spec L2
open PyProof.Rows hiding St
def sameC : Value → D → Bool
  | .none, .non => true
  | .bool a, .bl b => a == b
  | .int i _, .int j => decide (i = j)
  | .str x _, .str y => decide (x = y)
  | _, _ => false
def allC : List Value → List D → Bool
  | [], [] => true
  | v :: vs, d :: ds => sameC v d && allC vs ds
  | _, _ => false
def tupC (o : Obj) (ds : List D) : Bool := decide (o.cls = .type "tuple") && (match o.data with
  | .seq its _ => decide (its.size ≤ sizeLine) && allC its.toList ds
  | _ => false)
theorem sameC_ok {K : PySem.W.Frag} {v : Value} {d : D} (h : sameC v d = true) : ∃ u, RelV u v ∧ ∀ G, Rp K G u d := by
  unfold sameC at h
  split at h
  · exact ⟨.non, rfl, fun _ => .non⟩
  · rename_i a b
    obtain rfl : a = b := by simpa using h
    exact ⟨.bl a, rfl, fun _ => .bl a⟩
  · rename_i i t j
    obtain rfl : i = j := by simpa using h
    exact ⟨.int i, ⟨t, rfl⟩, fun _ => .int i⟩
  · rename_i x t y
    obtain rfl : x = y := by simpa using h
    exact ⟨.str x, ⟨t, rfl⟩, fun _ => .str x⟩
  · cases h
theorem allC_ok {K : PySem.W.Frag} : ∀ {vs : List Value} {ds : List D}, allC vs ds = true → ∃ us, Vals us vs ∧ ∀ G, RpL K G us ds
  | [], [], _ => ⟨[], .nil, fun _ => .nil⟩
  | v :: vs, d :: ds, h => by
    have h' : sameC v d = true ∧ allC vs ds = true := by simpa [allC] using h
    obtain ⟨u, r, q⟩ := sameC_ok (K := K) h'.1
    obtain ⟨us, rs, qs⟩ := allC_ok (K := K) h'.2
    exact ⟨u :: us, .cons r rs, fun G => .cons (q G) (qs G)⟩
  | [], _ :: _, h => by simp [allC] at h
  | _ :: _, [], h => by simp [allC] at h
theorem tupC_ok {K : PySem.W.Frag} {a : Addr} {o : Obj} {ds : List D} (l : K.lookup a = some o) (h : tupC o ds = true) : ∀ G, Rp K G (.ref a) (.tup ds) := by
  unfold tupC at h
  rw [Bool.and_eq_true] at h
  obtain ⟨h1, h2⟩ := h
  split at h2
  · rename_i its n e
    rw [Bool.and_eq_true] at h2
    obtain ⟨us, r, q⟩ := allC_ok (K := K) h2.2
    exact fun G => .tup (.inr ⟨o, its, n, l, of_decide_eq_true h1, e, of_decide_eq_true h2.1, r⟩) (q G)
  · cases h2
section
variable {X : Cx}
theorem v_gtup {x : Str} {d : D} {pos : Pos} (hg : Gl X x) (hm : ∃ a, X.mg x = some (.ref a) ∧ ∀ G, Rp X.K G (.ref a) d) (hd : (x == ("__debug__" : Str)) = false := by decide) : PE X (.Name x pos) (LE X.K (mC d)) := by
  obtain ⟨a, hm, r⟩ := hm
  exact v_c (pe_glob hg hm (v := .ref a) rfl hd) r
end
theorem inF_strs {x : Str} : ∀ ws : List Str, inF (.str x) (ws.map D.str) = decide (x ∈ ws)
  | [] => rfl
  | w :: ws => by
    have ih := inF_strs (x := x) ws
    unfold inF at ih ⊢
    rw [List.map_cons, List.any_cons, ih]
    simp only [eqF, List.mem_cons]
    by_cases h : w = x
    · subst h; simp
    · have : ¬ x = w := fun z => h z.symm
      simp [h, this]
end VL
set_option maxHeartbeats 2000000
namespace VL
open PySem PySem.Spec L2
open PyProof.Rows hiding St
section
variable {X : Cx}
def mVals : List (Str × VE) → Sl → Store → (List (Key × D) → Store → Prop) → Prop
  | [], _, S, Q => Q [] S
  | (x, mv) :: r, ρ, S, Q => mv ρ S fun y S1 => mVals r ρ S1 fun ps S2 => Q ((.inr x, y) :: ps) S2
theorem mVals_n {ρ : Sl} {S : Store} {Q : List (Key × D) → Store → Prop} : mVals [] ρ S Q = Q [] S := rfl
theorem mVals_c {x : Str} {mv : VE} {r : List (Str × VE)} {ρ : Sl} {S : Store} {Q : List (Key × D) → Store → Prop} : mVals ((x, mv) :: r) ρ S Q = mv ρ S fun y S1 => mVals r ρ S1 fun ps S2 => Q ((.inr x, y) :: ps) S2 := rfl
def mDictS (ps : List (Str × VE)) : VE := fun ρ S Q => mVals ps ρ S fun kvs S1 => Q (.dct kvs) S1
theorem mDictS_e {ps : List (Str × VE)} {ρ : Sl} {S : Store} {Q : D → Store → Prop} : mDictS ps ρ S Q = mVals ps ρ S fun kvs S1 => Q (.dct kvs) S1 := rfl
abbrev VPS (X : Cx) (pos : Pos) (ks : List (Option Expr)) (vs : List Expr) (ps : List (Str × VE)) : Prop := VPPs X pos ks vs (ps.map fun p => (mC (.str p.1), p.2))
theorem vs_nil {pos : Pos} : VPS X pos [] [] [] := vp_nil
theorem vs_cons {pos p : Pos} {x : Str} {j : Nat} {v : Expr} {ks : List (Option Expr)} {vs : List Expr} {mv : VE} {ps : List (Str × VE)} (hv : PE X v (LE X.K mv)) (hr : VPS X pos ks vs ps) : VPS X pos (some (.Constant (.str x) j p) :: ks) (v :: vs) ((x, mv) :: ps) := vp_cons v_str hv hr
theorem any_none {kvs : List (Key × D)} {k : Key} (h : k ∉ kvs.map (·.1)) : (kvs.any fun kv => decide (kv.1 = k)) = false := by
  rw [List.any_eq_false]
  intro kv hkv
  simp only [decide_eq_true_eq]
  exact fun e => h (by rw [← e]; exact List.mem_map_of_mem hkv)
theorem merge_new : ∀ (more kvs : List (Key × D)), (kvs.map (·.1) ++ more.map (·.1)).Nodup → mergeD kvs more = kvs ++ more
  | [], kvs, _ => by simp [mergeD]
  | (k, v) :: r, kvs, h => by
    have hk : k ∉ kvs.map (·.1) := by
      rw [List.nodup_append] at h
      exact fun z => h.2.2 _ z _ (by simp) rfl
    have e : putD kvs k v = kvs ++ [(k, v)] := by unfold putD; rw [any_none hk]; simp
    show mergeD (putD kvs k v) r = _
    rw [e, merge_new r (kvs ++ [(k, v)]) (by simpa using h)]
    simp
theorem keys_strs : ∀ kvs : List (Str × D), keysD (kvs.map fun kv => (D.str kv.1, kv.2)) = some (kvs.map fun kv => (Sum.inr kv.1, kv.2))
  | [] => rfl
  | (x, d) :: r => by rw [List.map_cons, List.map_cons]; simp only [keysD, keyD, keys_strs r]
theorem lpS_of {K : PySem.W.Frag} {σ : L2.St} {ρ : Sl} : ∀ (ps : List (Str × VE)) {G H : Hp} {S : Store} {Q : List (Key × D) → Store → Prop} {Q' : List (V × V) → Hp → Prop}, View K G S H → REnv K G σ ρ → mVals ps ρ S Q →
    (∀ (kvs : List (Str × D)) S' vs H' G', kvs.map (·.1) = ps.map (·.1) → Aft K G S H S' H' G' → RpP K G' vs (kvs.map fun kv => (D.str kv.1, kv.2)) → Q (kvs.map fun kv => (Sum.inr kv.1, kv.2)) S' → Q' vs H') → tPairs ((ps.map fun p => (mC (.str p.1), p.2)).map fun p => (LE K p.1, LE K p.2)) σ H Q'
  | [], G, H, S, Q, Q', vw, re, hm, k => k [] S [] H G rfl (Aft.refl vw) .nil hm
  | (x, mv) :: r, G, H, S, Q, Q', vw, re, hm, k => by
    refine ⟨ρ, S, G, (fun (d : D) (S1 : Store) => d = .str x ∧ mv ρ S1 fun y S2 => mVals r ρ S2 fun ps S3 => Q ((.inr x, y) :: ps) S3), vw, re, ⟨rfl, hm⟩, fun d S1 v1 H1 G1 a1 r1 h1 => ?_⟩
    obtain ⟨rfl, h1⟩ := h1
    refine ⟨ρ, S1, G1, _, a1.vw, re.mono a1.gg, h1, fun y S2 v2 H2 G2 a2 r2 h2 => ?_⟩
    refine lpS_of r a2.vw ((re.mono a1.gg).mono a2.gg) h2 fun kvs S3 vs H3 G3 e a3 r3 h3 => ?_
    exact k ((x, y) :: kvs) S3 _ H3 G3 (by rw [List.map_cons, List.map_cons, e]) (a1.trans (a2.trans a3)) (.cons ((r1.mono a2.gg).mono a3.gg) (r2.mono a3.gg) r3) h3
theorem v_dictS {pos : Pos} {keys : List (Option Expr)} {values : List Expr} {ps : List (Str × VE)} (h : VPS X pos keys values ps) (nd : (ps.map (·.1)).Nodup) (hall : keys.all (·.isSome) = true) (hl : keys.length = values.length) (h0 : keys ≠ []) (h15 : keys.length ≤ 15) (hp : ps.length ≤ 15) :
    PE X (.Dict keys values pos) (LE X.K (mDictS ps)) := by
  refine PE.imp (pe_tlk (pe_disp h hall hl h0 h15)) fun σ H Q' ⟨ρ, S, G, Q, vw, re, hm, k⟩ => fun p hp' => ?_
  have n0 := vw.none hp'
  have aj := (Aft.refl vw).junk (u := .dK []) hp' n0.2 n0.1
  refine lpS_of ps aj.vw re hm fun kvs S1 vs H1 G1 ek a1 r1 h1 => ?_
  obtain ⟨ks, rfl, rk⟩ := r1.keys (keys_strs kvs)
  obtain ⟨e1, s1, g1⟩ := a1.fr p _ n0.2 upd_same
  have lk : ks.length ≤ 15 := by
    have h1 := rk.length
    have h2 := congrArg List.length ek
    simp only [List.length_map] at h1 h2
    omega
  have em : mergeD [] (kvs.map fun kv => (Sum.inr kv.1, kv.2)) = kvs.map fun kv => (Sum.inr kv.1, kv.2) := by
    rw [merge_new _ [] (by
      have : ((kvs.map fun kv => ((Sum.inr kv.1 : Key), kv.2)).map (·.1)) = (kvs.map (·.1)).map Sum.inr := by simp
      rw [this, ek]
      simp only [List.map_nil, List.nil_append]
      exact List.Pairwise.map _ (fun a b h z => h (Sum.inr.inj z)) nd)]
    rfl
  have rr := RpK.merge rk (.nil (K := X.K) (G := G1))
  rw [em] at rr
  refine ⟨e1, ks, rfl, lk, p, _, rfl, upd_same, trivial, fun od => ?_⟩
  rw [upd_upd]
  have gg : Same G1 (upd G1 p (.frz od (.dK (mergeK [] ks)))) := fun c w ec => by rw [upd_ne (ne_of_none ec (g1.trans n0.1))]; exact ec
  have a2 : Aft X.K G S H S1 (upd H1 p (.frz od (.dK (mergeK [] ks)))) (upd G1 p (.frz od (.dK (mergeK [] ks)))) := by
    have a12 := aj.trans a1
    refine ⟨fun b o hs e => ?_, a12.gg.trans gg, ⟨fun b o e => ?_, fun b o e => ?_⟩⟩
    · obtain ⟨x1, x2, x3⟩ := a12.fr b o hs e
      have hb := ne_of_none e hp'
      exact ⟨by rw [upd_ne hb]; exact x1, x2, by rw [upd_ne hb]; exact x3⟩
    · by_cases hb : b = p
      · subst hb; rw [upd_same] at e ⊢; exact e
      · rw [upd_ne hb] at e ⊢; exact a1.vw.gh b o e
    · have hb : b ≠ p := by intro z; subst z; rw [s1] at e; cases e
      obtain ⟨x1, u, x2, x3⟩ := a1.vw.st b o e
      exact ⟨by rw [upd_ne hb]; exact x1, u, by rw [upd_ne hb]; exact x2, x3.mono gg⟩
  exact k _ S1 _ _ _ a2 (.dct upd_same (rr.mono gg)) h1
end
end VL
namespace VL
open PySem L2
theorem t_din {X : Cx} {i o : Expr} {mi m : VE} {pos : Pos} (hu : X.A.units + 1 < cLine) (hi : PE X i (LE X.K mi)) (ho : PE X o (LE X.K m)) (hm : behindInMarks .In o = false := by first | exact nomark _ | rfl) : PT X (.Compare i [.In] [o] pos) (LT X.K (mTest (mDIn false mi m))) :=
  PT.imp (pt_cmp (pc_din hu hi ho) hm) fun σ H Q' q => le_din (ρ := []) (lt_B q)
theorem units1 {A : Around} (h : A.units + 64 < cLine) : A.units + 1 < cLine := by omega
theorem keyD_int {i : Int} : keyD (.int i) = some (.inl i) := rfl
theorem keyD_str {x : Str} : keyD (.str x) = some (.inr x) := rfl
theorem atI_end {ps : List D} {x d : D} (h : ps.getLast? = some d) : atI (x :: ps) (-1) = some d := by
  have hn : ps ≠ [] := by intro z; subst z; cases h
  obtain ⟨qs, y, rfl⟩ : ∃ qs y, ps = qs ++ [y] := ⟨ps.dropLast, ps.getLast hn, (List.dropLast_concat_getLast hn).symm⟩
  simp only [List.getLast?_append, List.getLast?_singleton, Option.some_or, Option.some.injEq] at h
  subst h
  exact atI_last (x :: qs) _
def nextN (w : Str) (ps : List D) (at_ : Int) : Option (List Int) :=
  if w = "back" then some [] else if w = "go" then (match ps with | .int i :: _ => some [i] | _ => none)
  else if w = "if" ∨ w = "ifnone" ∨ w = "same" then (match ps.getLast? with | some (.int i) => some (sort2 (at_ + 1) i) | _ => none) else some [at_ + 1]
end VL
set_option maxHeartbeats 2000000
namespace VL
open PySem PySem.Spec L2
open PyProof.Rows hiding St
/-- a comprehension, with an invariant -/
theorem mLc_inv {c : CT} {mi : VW} {mt : VT} {me : VE} {vs : List Nat} {R : List D → Store → (D → Store → Prop) → Prop} {ρ : Sl} {S : Store} {Q : D → Store → Prop} (ds : List D) (I : Nat → List D → Store → Prop) {kp : Store → Prop} {S1 : Store} (hm : ∀ Qi : List D → (Store → Prop) → Store → Prop, Qi ds kp S1 → mi ρ S Qi)
    (hl : ds.length ≤ sizeLine) (h0 : I 0 [] S1) (hk : ∀ i acc S2, I i acc S2 → kp S2)
    (hs : ∀ i d acc S2, ds[i]? = some d → I i acc S2 → match mCT c d (wipeD ρ vs) with
      | some ρ3 => mt ρ3 S2 fun b S3 => if b = true then me ρ3 S3 fun y S4 => I (i + 1) (acc ++ [y]) S4 else I (i + 1) acc S3
      | none => False)
    (he : ∀ acc S2, I ds.length acc S2 → R acc S2 Q) : mLcG c mi mt me vs R ρ S Q := by
  refine hm _ ⟨hl, fun i acc S2 => i ≤ ds.length ∧ I i acc S2, ⟨Nat.zero_le _, h0⟩, fun i acc S2 ⟨hi, h⟩ => ⟨hk i acc S2 h, ?_⟩⟩
  cases e : ds[i]? with
  | none =>
    have : i = ds.length := by have := List.getElem?_eq_none_iff.mp e; omega
    subst this
    exact he acc S2 h
  | some d =>
    have h1 := getE e
    have m1 : ∀ a S', (i + 1 ≤ ds.length ∧ I (i + 1) a S') = I (i + 1) a S' := fun a S' => propext ⟨fun h => h.2, fun h => ⟨by omega, h⟩⟩
    have := hs i d acc S2 e h
    simp only [m1]
    exact this
theorem pyL_ints (ns : List Int) : pyL (ns.map D.int) = ns.map PyData.int := by
  induction ns with
  | nil => rfl
  | cons n ns ih => simp only [List.map_cons, pyL, py, ih]
theorem lay_ints : ∀ ns : List Int, PyData.canLayAll0 (ns.map PyData.int) = true
  | [] => rfl
  | n :: ns => by rw [List.map_cons]; simp only [PyData.canLayAll0, PyData.canLay0, lay_ints ns, Bool.and_self]
theorem dep_ints : ∀ ns : List Int, PyData.depthAll (ns.map PyData.int) = 0
  | [] => rfl
  | n :: ns => by rw [List.map_cons]; simp only [PyData.depthAll, PyData.depth, dep_ints ns, Nat.max_self]
theorem shaped_ints (ns : List Int) : SeqAt.shaped (py (.lst (ns.map D.int))) = true := by
  unfold SeqAt.shaped
  simp only [py, pyL_ints, PyData.canLay0, PyData.depth, lay_ints, dep_ints]
  decide
theorem tyn_supd {S : Store} {a : Addr} {ds : List D} : tyn (.ref a) (VL.supd S a (.lst ds)) = "list" := by simp only [tyn, supd_same]
end VL
set_option maxHeartbeats 2000000
namespace VL
open PySem PySem.Spec L2
open PyProof.Rows hiding St
section
variable {P : Program} {w : World} {A : Around} {E : Value → Shared → Prop} {s : Shared}
/-- first, *rest of a tuple -/
theorem first_rest {t : Addr} {its : Array Value} {x : Value} {Qs : List Value → Shared → Prop} (hh : A.handled = none) (ht : IsTup s.heap t its) (hx : its[0]? = some x) (hz : its.size ≤ 16384)
    (q : ∀ (h2 : Heap) (tk : Nat), (∀ b o, s.heap.get? b = some o → h2.get? b = some o) → Qs [x, .ref h2.objs.size] { s with heap := h2.push { cls := .type "list", data := .seq (its.toList.drop 1).toArray 0 }, toks := tk }) : wpAny (model P w) A (unpackItems (.ref t) 2 (some 1)) Qs E s := by
  have t_ne : t ≠ s.heap.objs.size := by obtain ⟨o, ho, _⟩ := ht; exact Nat.ne_of_lt (Heap.lt_size ho)
  have pos : 0 < its.size := by rw [Array.getElem?_eq_some_iff] at hx; exact hx.1
  unfold unpackItems notIterableAtAll
  refine wpAny_bind (wpAny_bind (wpAny_specialOf ht.typeIs slot_tuple_iter.lookup (wpAny_pure ?_)))
  simp only [Bool.false_eq_true, if_false]
  refine wpAny_bind (wpAny_holding (iter_tuple ht (wpAny_bind (wpAny_holding (draw_tuple t_ne 1 0 _ _ ⟨_, Heap.get?_push_size _ rfl, rfl, rfl⟩ (ht.push _) (by omega) fun ha it_a sb_a => ?_)))))
  have ta : IsTup ha t its := (ht.push _).extBut sb_a.extBut t_ne
  obtain ⟨o1, e1, _⟩ := id it_a
  obtain ⟨o2, e2, _⟩ := id ta
  have one : (its.toList.drop 0).take 1 = [x] := by
    rw [List.drop_zero, List.take_one]
    have : its.toList.head? = some x := by rw [List.head?_eq_getElem?, Array.getElem?_toList]; exact hx
    rw [this]; rfl
  rw [one, if_neg (by simp)]
  refine wpAny_bind (wpAny_holding (PySem.W.kun_collect (s := { s with heap := ha }) (T := "tuple_iterator") (.inr (.inr (.inr rfl))) (Walks.tuple (A := A.in1) hh s.heap.objs.size t t_ne its) (fun j u st => st.1.typeIs) (k := 1) (by omega)
    ⟨it_a, ta⟩ (Heap.lt_size e1) (Heap.lt_size e2) (fun hb tk hk => ?_) (by rw [sizeLine_eq]; omega)))
  have many : (its.toList.drop 1).length = its.size - 1 := by rw [List.length_drop, Array.length_toList]
  show wpAny _ _ (if (its.toList.drop 1).length < 2 - 1 - 1 then _ else _) _ _ _
  rw [if_neg (by omega)]
  show wpAny _ _ (newList ((its.toList.drop 1).take ((its.toList.drop 1).length - (2 - 1 - 1))) >>= fun d => pure ([x] ++ [d] ++ (its.toList.drop 1).drop ((its.toList.drop 1).length - (2 - 1 - 1)))) _ _ _
  rw [show (its.toList.drop 1).length - (2 - 1 - 1) = (its.toList.drop 1).length by omega, List.take_length, List.drop_length]
  have old : ∀ b o, s.heap.get? b = some o → hb.get? b = some o := fun b o e => by
    have ne : b ≠ s.heap.objs.size := Nat.ne_of_lt (Heap.lt_size e)
    exact hk b o ne (sb_a.extBut b o ne (Heap.get?_push_of_some _ e))
  refine wpAny_bind (wpAny_newObj_type (wpAny_pure ?_) (by show (its.toList.drop 1).toArray.size ≤ sizeLine; rw [List.size_toArray, many, sizeLine_eq]; omega))
  exact q hb tk old
end
section
variable {X : Cx}
/-- word, *rest = e -/
def mStar (i j : Nat) (m : VE) : VS := fun E ρ S => m ρ S fun d S1 => match d with
  | .tup (x :: ds) => ds.length < 16000 ∧ E.nx ((ρ.set i (some x)).set j (some (.lst ds))) S1
  | _ => False
theorem mStar_e {i j : Nat} {m : VE} {E : VEnds} {ρ : Sl} {S : Store} : mStar i j m E ρ S = m ρ S fun d S1 => match d with
  | .tup (x :: ds) => ds.length < 16000 ∧ E.nx ((ρ.set i (some x)).set j (some (.lst ds))) S1
  | _ => False := rfl
def gStar (K : PySem.W.Frag) (i j : Nat) : TG := fun v σ H Q => ∃ a x xs, v = .ref a ∧ SqT K H a (x :: xs) ∧ xs.length < 16000 ∧ ∀ p, H p = none → Q ((σ.set i (some x)).set j (some (.ref p))) (upd H p (.lst xs))
theorem pg_star {i j k : Nat} {a b : Expr} {pos sp : Pos} (hc : X.calm = true) (ha : PG X a (gName i)) (hb : PG X b (gName j))
    (he : (assignEach [a, .Starred b sp] X.env) = [(false, assign a X.env), (true, assign b X.env)] := by rfl) : PG X (.Tuple [a, .Starred b sp] k pos) (gStar X.K i j) := by
  refine ⟨fun pins s σ H v u Q I r hw => ?_⟩
  obtain ⟨c, x, xs, rfl, hq, hl, hw⟩ := hw
  cases r
  obtain ⟨its, rv, ht, hz⟩ := I.tuple hq
  cases rv with
  | @cons _ ux _ us rx rxs =>
    rw [assign_Tuple]
    refine wpAny_bind (wpAny_standAt ?_)
    unfold unpack
    rw [he]
    have len := rxs.length
    refine wpAny_bind (wpAny_holding (first_rest (x := ux) (I.ok.hd hc) ht (by simp) (by simp; omega) fun h2 tk old => ?_))
    have I1 : L2.Inv X pins σ H { s with heap := h2, toks := tk } := I.kept old
    have hn := I1.hok.fresh (Nat.le_refl h2.objs.size)
    have I2 : L2.Inv X pins σ (upd H h2.objs.size (.lst xs)) { s with heap := h2.push { cls := .type "list", data := .seq ((ux :: us).toArray.toList.drop 1).toArray 0 }, toks := tk } :=
      I1.laid (t' := tk) (fun b u e => Heap.get?_push_of_some _ e) (Nat.le_refl _) ⟨by rw [sizeLine_eq]; omega, us, 0, rxs, by simpa using Heap.get?_push_size _ rfl⟩
    refine assignInOrder_cons (wpAny_mono (ha.run pins _ σ _ x ux (fun σ1 H1 => σ1 = σ.set i (some x) ∧ H1 = upd H h2.objs.size (.lst xs)) I2 rx ⟨rfl, rfl⟩) (fun _ s3 h3 => ?_) fun _ _ z => z)
    obtain ⟨σ1, H1, I3, rfl, rfl⟩ := h3
    refine assignInOrder_cons (wpAny_mono (hb.run pins s3 _ _ (.ref h2.objs.size) (.ref h2.objs.size) Q I3 rfl (hw _ hn)) (fun _ s4 h4 => ?_) fun _ _ z => z)
    exact assignInOrder_nil h4
theorem s_star {i j : Nat} {tg e : Expr} {m : VE} {pos : Pos} (he : PE X e (LE X.K m)) (hg : PG X tg (gStar X.K i j)) (hs : swapsWithSole [tg] e pos.line X.env = pure false := by rfl) (hw : swappedStores [tg] e X.env = pure none := by rfl) (h1 : (assignEach [tg] X.env).map (·.2) = [assign tg X.env] := by rfl) :
    PS X (.Assign [tg] e pos) (LS X.K (mStar i j m)) := by
  refine PS.imp (ps_asg he hg hs hw h1) fun D' σ H ⟨ρ, S, G, E, vw, re, hm, ok⟩ => ⟨ρ, S, G, _, vw, re, hm, fun d S' v H' G' a r q => ?_⟩
  split at q
  · rename_i x ds
    cases r with
    | tup ht l =>
      cases l with
      | @cons vx vxs _ _ rx rl =>
        refine ⟨_, vx, vxs, rfl, same_t a.vw.gh ht, by rw [rl.length]; exact q.1, fun p hp => ?_⟩
        have a2 := a.vw.froze (o := .lst vxs) hp
        have re' := (re.mono a.gg).mono a2.gg
        exact ok.nx _ _ _ _ _ (a.trans a2) ((re'.set (rx.mono a2.gg)).set (.lst upd_same (rl.mono a2.gg))) q.2
  · exact q.elim
end
end VL
set_option maxHeartbeats 2000000
namespace VL
open PySem PySem.Spec L2
open PyProof.Rows hiding St
section
variable {X : Cx}
abbrev VO := Sl → Store → (Option Int → Store → Prop) → Prop
def LO (K : PySem.W.Frag) (m : VO) : TO := fun σ H Q' => ∃ ρ S G Q, View K G S H ∧ REnv K G σ ρ ∧ m ρ S Q ∧ ∀ o S' H' G', Aft K G S H S' H' G' → Q o S' → Q' o H'
def mNoP : VO := fun _ S Q => Q none S
def mPart (m : VE) : VO := fun ρ S Q => m ρ S fun d S1 => match d with
  | .int i => Q (some i) S1
  | _ => False
theorem mNoP_e {ρ : Sl} {S : Store} {Q : Option Int → Store → Prop} : mNoP ρ S Q = Q none S := rfl
theorem mPart_e {m : VE} {ρ : Sl} {S : Store} {Q : Option Int → Store → Prop} : mPart m ρ S Q = m ρ S fun d S1 => match d with
  | .int i => Q (some i) S1
  | _ => False := rfl
theorem PO.imp {e : Option Expr} {t t' : TO} (h : PO X e t) (i : ∀ σ H Q, t' σ H Q → t σ H Q) : PO X e t' := ⟨fun pins s σ H Q I q => h.run pins s σ H Q I (i σ H Q q)⟩
theorem o_none : PO X none (LO X.K mNoP) := PO.imp po_none fun σ H Q' ⟨ρ, S, G, Q, vw, re, hm, k⟩ => k none S H G (Aft.refl vw) hm
theorem o_some {e : Expr} {m : VE} (h : PE X e (LE X.K m)) : PO X (some e) (LO X.K (mPart m)) :=
  PO.imp (po_some h) fun σ H Q' ⟨ρ, S, G, Q, vw, re, hm, k⟩ => ⟨ρ, S, G, _, vw, re, hm, fun d S1 v H1 G1 a1 r1 h1 => by
    cases r1 <;> try exact h1.elim
    exact ⟨_, rfl, k _ S1 H1 G1 a1 h1⟩⟩
def cutD (ds : List D) (lo hi : Option Int) : List D := (ds.drop (HT.sIx ds.length 0 lo)).take (HT.sIx ds.length ds.length hi - HT.sIx ds.length 0 lo)
theorem RpL.cut {K : PySem.W.Frag} {G : Hp} {xs : List V} {ds : List D} (r : RpL K G xs ds) (lo hi : Option Int) : RpL K G (cutV xs lo hi) (cutD ds lo hi) := by
  unfold cutV cutD
  rw [r.length]
  exact (r.drop _).take _
theorem cutD_all {ds : List D} {lo hi : Option Int} (h : HT.sIx ds.length 0 lo = 0 ∧ HT.sIx ds.length ds.length hi = ds.length) : cutD ds lo hi = ds := by
  unfold cutD
  rw [h.1, h.2, List.drop_zero, Nat.sub_zero, List.take_length]
def mSlc (m : VE) (ml mh : VO) : VE := fun ρ S Q => m ρ S fun d S1 => ml ρ S1 fun l S2 => mh ρ S2 fun u S3 => match d with
  | .tup ds => Q (.tup (cutD ds l u)) S3
  | .str z => z.length ≤ sizeLine ∧ Q (.str (cutS z l u)) S3
  | d => match rdR d S3 with
    | some ds => Q (.lst (cutD ds l u)) S3
    | none => False
theorem mSlc_e {m : VE} {ml mh : VO} {ρ : Sl} {S : Store} {Q : D → Store → Prop} : mSlc m ml mh ρ S Q = m ρ S fun d S1 => ml ρ S1 fun l S2 => mh ρ S2 fun u S3 => match d with
  | .tup ds => Q (.tup (cutD ds l u)) S3
  | .str z => z.length ≤ sizeLine ∧ Q (.str (cutS z l u)) S3
  | d => match rdR d S3 with
    | some ds => Q (.lst (cutD ds l u)) S3
    | none => False := rfl
theorem v_slc {e : Expr} {lo hi : Option Expr} {m : VE} {ml mh : VO} {p2 pos : Pos} (he : PE X e (LE X.K m)) (hl : PO X lo (LO X.K ml)) (hh : PO X hi (LO X.K mh)) : PE X (.Subscript e (.Slice lo hi none p2) pos) (LE X.K (mSlc m ml mh)) := by
  refine PE.imp (pe_slice (SlR.or sl_tupA (SlR.or sl_list sl_str)) he hl hh) fun σ H Q' ⟨ρ, S, G, Q, vw, re, hm, k⟩ => ?_
  refine ⟨ρ, S, G, _, vw, re, hm, fun d S1 v1 H1 G1 a1 r1 h1 => ?_⟩
  refine ⟨ρ, S1, G1, _, a1.vw, re.mono a1.gg, h1, fun l S2 H2 G2 a2 h2 => ?_⟩
  refine ⟨ρ, S2, G2, _, a2.vw, (re.mono a1.gg).mono a2.gg, h2, fun u S3 H3 G3 a3 h3 => ?_⟩
  have rr := (r1.mono a2.gg).mono a3.gg
  have a13 := a1.trans (a2.trans a3)
  split at h3
  · cases rr with
    | @tup a xs ds ht rl =>
      refine .inl ⟨a, xs, rfl, same_t a3.vw.gh ht, fun w => ?_, fun _ p hp => ?_⟩
      · rw [rl.length] at w
        rw [cutD_all w] at h3
        exact k _ S3 _ H3 G3 a13 (.tup ht rl) h3
      · have a4 := a3.vw.froze (o := .tup (cutV xs l u)) hp
        exact k _ S3 _ _ _ (a13.trans a4) (.tup (SqT.of upd_same) ((rl.cut l u).mono a4.gg)) h3
  · cases rr
    exact .inr (.inr ⟨_, rfl, h3.1, k _ S3 _ H3 G3 a13 (.str _) h3.2⟩)
  · split at h3
    · rename_i ds e
      obtain ⟨a, xs, rfl, q, rl⟩ := rdR_ok a3.vw rr e
      refine .inr (.inl ⟨a, xs, rfl, q, fun p hp => ?_⟩)
      have a4 := a3.vw.froze (o := .lst (cutV xs l u)) hp
      exact k _ S3 _ _ _ (a13.trans a4) (.lst upd_same ((rl.cut l u).mono a4.gg)) h3
    · exact h3.elim
end
end VL
set_option maxHeartbeats 2000000
namespace VL
open PySem PySem.Spec L2
open PyProof.Rows hiding St
inductive Kd where
  | l | t | s
def rowK (k : Kd) (K : PySem.W.Frag) (H : Hp) (v : V) (xs : List V) : Prop := match k with
  | .l => ∃ a, v = .ref a ∧ SqL K H a xs
  | .t => ∃ a, v = .ref a ∧ SqT K H a xs
  | .s => ∃ x : Str, v = .str x ∧ xs = x.cps.toList.map fun c => V.str ⟨#[c]⟩
def itK (k : Kd) (u : Value) (it : Addr) (i : Nat) (h : Heap) : Prop := match k, u with
  | .l, .ref a => h.IsListIter it a i
  | .t, .ref a => h.IsTupleIter it a i
  | .s, .str x t => h.IsStrIter it (PySem.strIterType x) x t i
  | _, _ => False
theorem itK.obj {k : Kd} {u : Value} {it : Addr} {i : Nat} {h : Heap} (q : itK k u it i h) : ∃ o, h.get? it = some o ∧ ∀ v, o.data ≠ .cell v := by
  unfold itK at q
  split at q
  · obtain ⟨o, e, _, d⟩ := q; exact ⟨o, e, fun v z => by rw [d] at z; cases z⟩
  · obtain ⟨o, e, _, d⟩ := q; exact ⟨o, e, fun v z => by rw [d] at z; cases z⟩
  · obtain ⟨o, e, _, d⟩ := q; exact ⟨o, e, fun v z => by rw [d] at z; cases z⟩
  · exact q.elim
theorem itK.at {k : Kd} {u : Value} {it : Addr} {i : Nat} {h h' : Heap} (q : itK k u it i h) (e : ∀ o, h.get? it = some o → h'.get? it = some o) : itK k u it i h' := by
  unfold itK at q ⊢
  split at q
  · obtain ⟨o, e1, r⟩ := q; exact ⟨o, e _ e1, r⟩
  · obtain ⟨o, e1, r⟩ := q; exact ⟨o, e _ e1, r⟩
  · obtain ⟨o, e1, r⟩ := q; exact ⟨o, e _ e1, r⟩
  · exact q.elim
section
variable {X : Cx} {pins : List (Addr × Obj)} {σ : L2.St} {H : Hp} {s : Shared}
theorem vals_back : ∀ {xs : List V} {us : List Value} {i : Nat} {w : Value}, Vals xs us → us[i]? = some w → ∃ y, xs[i]? = some y ∧ RelV y w
  | _, _, _, _, .nil, e => by simp at e
  | _, _, 0, _, .cons r _, e => by simp at e; subst e; exact ⟨_, rfl, r⟩
  | _, _, i + 1, w, .cons _ t, e => by
    obtain ⟨y, a, b⟩ := vals_back (i := i) (w := w) t (by simpa using e)
    exact ⟨y, by simpa using a, b⟩
/-- the row at hand gives the items one by one -/
theorem draws_of {k : Kd} {v : V} {u : Value} {xs : List V} {A : Around} {it : Addr} {i : Nat} (I : L2.Inv X pins σ H s) (hh : A.handled = none) (r : RelV v u) (row : rowK k X.K H v xs) (q : itK k u it i s.heap) (ap : ∀ a, u = .ref a → a ≠ it) :
    ∃ fp Pp St, Draws X.prog X.w A it fp xs.length Pp St ∧ St i s.heap ∧ (∀ j h, St j h → itK k u it j h) ∧ (∀ j x, Pp j x → ∃ y, xs[j]? = some y ∧ RelV y x) ∧ it ∈ fp ∧ ∀ c ∈ fp, c = it ∨ u = .ref c := by
  cases k with
  | l =>
    obtain ⟨a, rfl, sq⟩ := row
    cases r
    obtain ⟨its, rv, p, _⟩ := I.list sq
    have e : its.toArray.size = xs.length := by rw [List.size_toArray]; exact rv.length.symm
    refine ⟨_, _, _, e ▸ Draws.list hh it a (ap a rfl) its.toArray, ⟨q, p.isList⟩, fun j h z => z.1, fun j x z => ?_, by simp, fun c hc => ?_⟩
    · obtain ⟨y, h1, h2⟩ := vals_back (i := j) rv (by simpa using z); exact ⟨y, h1, h2⟩
    · simp only [List.mem_cons, List.not_mem_nil, or_false] at hc; exact hc.imp id fun z => by rw [z]
  | t =>
    obtain ⟨a, rfl, sq⟩ := row
    cases r
    obtain ⟨its, rv, p, _⟩ := I.tuple sq
    have e : its.toArray.size = xs.length := by rw [List.size_toArray]; exact rv.length.symm
    refine ⟨_, _, _, e ▸ Draws.tuple hh it a (ap a rfl) its.toArray, ⟨q, p⟩, fun j h z => z.1, fun j x z => ?_, by simp, fun c hc => ?_⟩
    · obtain ⟨y, h1, h2⟩ := vals_back (i := j) rv (by simpa using z); exact ⟨y, h1, h2⟩
    · simp only [List.mem_cons, List.not_mem_nil, or_false] at hc; exact hc.imp id fun z => by rw [z]
  | s =>
    obtain ⟨x, rfl, rfl⟩ := row
    obtain ⟨t, rfl⟩ := r
    have e : x.cps.size = (x.cps.toList.map fun c => V.str ⟨#[c]⟩).length := by simp
    refine ⟨_, _, _, e ▸ Draws.text hh it x t, q, fun j h z => z, fun j y z => ?_, by simp, fun c hc => .inl (by simpa using hc)⟩
    obtain ⟨c, w, h1, rfl⟩ := z
    exact ⟨.str ⟨#[c]⟩, by simp [h1], w, rfl⟩
theorem rowK_inj {k : Kd} {v : V} {xs ys : List V} (I : L2.Inv X pins σ H s) (a : rowK k X.K H v xs) (b : rowK k X.K H v ys) : xs = ys := by
  cases k with
  | l =>
    obtain ⟨a, rfl, p⟩ := a
    obtain ⟨b, e, q⟩ := b
    cases e
    exact I.list_inj p q
  | t =>
    obtain ⟨a, rfl, p⟩ := a
    obtain ⟨b, e, q⟩ := b
    cases e
    exact I.tuple_inj p q
  | s =>
    obtain ⟨x, rfl, rfl⟩ := a
    obtain ⟨y, e, rfl⟩ := b
    cases e
    rfl
def ItG (K : PySem.W.Frag) (k1 k2 : Kd) (v1 v2 : V) : It :=
  ⟨fun i H => ∃ (xs ys : List V) (x y : V), rowK k1 K H v1 xs ∧ rowK k2 K H v2 ys ∧ xs[i]? = some x ∧ ys[i]? = some y,
    fun i H v H' => ∃ T x y, v = .ref T ∧ H T = none ∧ H' = upd H T (.tup [x, y]) ∧ (∀ xs, rowK k1 K H v1 xs → xs[i]? = some x) ∧ ∀ ys, rowK k2 K H v2 ys → ys[i]? = some y,
    fun i H => ∃ xs ys : List V, rowK k1 K H v1 xs ∧ rowK k2 K H v2 ys ∧ ((i = xs.length ∧ i ≤ ys.length) ∨ (i = ys.length ∧ i ≤ xs.length))⟩
structure FarZ (z TI TO i1 i2 : Addr) (u1 u2 : Value) : Prop where
  d : [z, TI, TO, i1, i2].Nodup
  a1 : ∀ a, u1 = .ref a → a ∉ [z, TI, TO, i1, i2]
  a2 : ∀ a, u2 = .ref a → a ∉ [z, TI, TO, i1, i2]
theorem FarZ.sep {z TI TO i1 i2 : Addr} {u1 u2 : Value} (F : FarZ z TI TO i1 i2 u1 u2) {fp1 fp2 : List Addr} (m1 : i1 ∈ fp1) (m2 : i2 ∈ fp2) (c1 : ∀ c ∈ fp1, c = i1 ∨ u1 = .ref c) (c2 : ∀ c ∈ fp2, c = i2 ∨ u2 = .ref c) : PySem.ZipSep2 z TI TO i1 i2 fp1 fp2 := by
  have d := F.d
  simp only [List.nodup_cons, List.mem_cons, List.not_mem_nil, or_false, not_or, List.nodup_nil, and_true, not_false_eq_true] at d
  obtain ⟨⟨d1, d2, d3, d4⟩, ⟨d5, d6, d7⟩, ⟨d8, d9⟩, d10⟩ := d
  have f1 : ∀ c ∈ fp1, c ∈ [z, TI, TO, i1, i2] → c = i1 := fun c h h' => (c1 c h).elim id fun e => absurd h' (F.a1 c e)
  have f2 : ∀ c ∈ fp2, c ∈ [z, TI, TO, i1, i2] → c = i2 := fun c h h' => (c2 c h).elim id fun e => absurd h' (F.a2 c e)
  exact { TIz := Ne.symm d1, TOz := Ne.symm d2, TITO := d5, TIi1 := d6, mem1 := m1, zf1 := fun h => d3 (f1 _ h (by simp)), Tf1 := fun h => d8 (f1 _ h (by simp)), TIi2 := d7, mem2 := m2, zf2 := fun h => d4 (f2 _ h (by simp)), Tf2 := fun h => d9 (f2 _ h (by simp)), sep1_2 := fun h => d10 (f2 _ h (by simp)), sep2_1 := fun h => d10 (f1 _ h (by simp)).symm }
theorem turn_g {P : Program} {w : World} {K : PySem.W.Frag} {elts : List Expr} {kk : Nat} {tpos : Pos} {z TI TO i1 i2 : Addr} {k1 k2 : Kd} {v1 v2 : V} {u1 u2 : Value} (F : FarZ z TI TO i1 i2 u1 u2) (r1 : RelV v1 u1) (r2 : RelV v2 u2) :
    Turn P w K (.Tuple elts kk tpos) (ItG K k1 k2 v1 v2) [z, TI, TO, i1, i2] z (fun i h => IsZip h z TI TO .none ∧ IsPair h TI (.ref i1) (.ref i2) ∧ (∃ x y, IsPair h TO x y) ∧ itK k1 u1 i1 i h ∧ itK k2 u2 i2 i h) where
  mem := by simp
  obj := fun i h st c hc => by
    obtain ⟨q1, q2, ⟨x, y, q3⟩, q4, q5⟩ := st
    simp only [List.mem_cons, List.not_mem_nil, or_false] at hc
    rcases hc with rfl | rfl | rfl | rfl | rfl
    · exact ⟨_, q1, fun v e => nomatch e⟩
    · exact ⟨_, q2, fun v e => nomatch e⟩
    · exact ⟨_, q3, fun v e => nomatch e⟩
    · exact q4.obj
    · exact q5.obj
  keep := fun i h h' st k => by
    obtain ⟨q1, q2, ⟨x, y, q3⟩, q4, q5⟩ := st
    exact ⟨k z (by simp) _ q1, k TI (by simp) _ q2, ⟨x, y, k TO (by simp) _ q3⟩, q4.at fun o e => k i1 (by simp) o e, q5.at fun o e => k i2 (by simp) o e⟩
  item := by
    intro X hP hw hK hc i pins s σ H E I hf st hg
    subst hP hw hK
    obtain ⟨q1, q2, ⟨x0, y0, q3⟩, q4, q5⟩ := st
    obtain ⟨xs, ys, x, y, hx, hy, ex, ey⟩ := hg
    obtain ⟨fp1, P1, S1, D1, s1, t1, p1, m1, c1⟩ := draws_of (A := X.A.in1) I (I.ok.hd hc) r1 hx q4 fun a e z => F.a1 a e (by subst z; simp)
    obtain ⟨fp2, P2, S2, D2, s2, t2, p2, m2, c2⟩ := draws_of (A := X.A.in1) I (I.ok.hd hc) r2 hy q5 fun a e z => F.a2 a e (by subst z; simp)
    have zl : z < s.heap.objs.size := Heap.lt_size q1
    have d := F.d
    simp only [List.nodup_cons, List.mem_cons, List.not_mem_nil, or_false, not_or, List.nodup_nil, and_true, not_false_eq_true] at d
    obtain ⟨⟨d1, d2, d3, d4⟩, ⟨d5, d6, d7⟩, ⟨d8, d9⟩, d10⟩ := d
    refine PySem.wpAny_pyNext_zipD2_item (F.sep m1 m2 c1 c2) D1 D2 q1 q2 q3 s1 s2 (getE ex) (getE ey) fun w1 w2 h' tk y1 y2 z' TO' s1' s2' hT hsz hk => ?_
    refine ⟨_, rfl, wpAny_letOwnedTupleGo_zip (s := { s with heap := h', toks := tk }) z' fun h'' z'' sb => ?_⟩
    obtain ⟨x', ex', rx'⟩ := p1 _ _ y1
    obtain ⟨y', ey', ry'⟩ := p2 _ _ y2
    rw [ex] at ex'; cases ex'
    rw [ey] at ey'; cases ey'
    have hT2 : h''.get? s.heap.objs.size = some { cls := .type "tuple", data := .seq #[w1, w2] } := (sb.2 _ (Nat.ne_of_gt zl)).trans hT
    have new : ObjOk X.prog X.w (upd H s.heap.objs.size (.tup [x, y])) h'' s.heap.objs.size (.tup [x, y]) := ⟨by show 2 ≤ sizeLine; decide, [w1, w2], .cons rx' (.cons ry' .nil), ⟨_, hT2, rfl, _, rfl⟩⟩
    have I1 : L2.Inv X pins σ (upd H s.heap.objs.size (.tup [x, y])) { s with heap := h'', toks := tk } :=
      I.turnedNew (t' := tk) (ch := [z, TI, TO, i1, i2]) (fun c o hb e => (sb.2 c (fun e' => hb (by simp [e']))).trans (hk c o (fun e' => hb (by simp [e'])) (fun e' => hb (by simp [e'])) (fun e' => hb (by simp [e'])) (fun e' => hb (by simp [e'])) e)) hf (Nat.le_refl _) new
    refine ⟨.ref s.heap.objs.size, _, I1, rfl, ⟨_, x, y, rfl, I.hok.fresh (Nat.le_refl _), rfl, fun l hl => by rw [rowK_inj I hl hx]; exact ex, fun l hl => by rw [rowK_inj I hl hy]; exact ey⟩, ⟨z'', ?_, ⟨w1, w2, ?_⟩, ?_, ?_⟩, fun c hcm => ?_⟩
    · exact (sb.2 _ (Ne.symm d1)).trans (hk _ _ (Ne.symm d1) d5 d6 d7 q2)
    · exact (sb.2 _ (Ne.symm d2)).trans TO'
    · exact (t1 _ _ s1').at fun o e => (sb.2 _ (Ne.symm d3)).trans e
    · exact (t2 _ _ s2').at fun o e => (sb.2 _ (Ne.symm d4)).trans e
    · have lt : c < s.heap.objs.size := by
        obtain ⟨_, e4, _⟩ := q4.obj
        obtain ⟨_, e5, _⟩ := q5.obj
        simp only [List.mem_cons, List.not_mem_nil, or_false] at hcm
        rcases hcm with rfl | rfl | rfl | rfl | rfl
        · exact zl
        · exact Heap.lt_size q2
        · exact Heap.lt_size q3
        · exact Heap.lt_size e4
        · exact Heap.lt_size e5
      rw [upd_ne (Nat.ne_of_lt lt)]
      exact (hf c hcm).1
  done := by
    intro X hP hw hK hc i pins s σ H E I hf st hg
    subst hP hw hK
    obtain ⟨q1, q2, ⟨x0, y0, q3⟩, q4, q5⟩ := st
    obtain ⟨xs, ys, hx, hy, hend⟩ := hg
    obtain ⟨fp1, P1, S1, D1, s1, t1, p1, m1, c1⟩ := draws_of (A := X.A.in1) I (I.ok.hd hc) r1 hx q4 fun a e z => F.a1 a e (by subst z; simp)
    obtain ⟨fp2, P2, S2, D2, s2, t2, p2, m2, c2⟩ := draws_of (A := X.A.in1) I (I.ok.hd hc) r2 hy q5 fun a e z => F.a2 a e (by subst z; simp)
    exact PySem.wpAny_pyNext_zipD2_end (F.sep m1 m2 c1 c2) D1 D2 q1 q2 q3 s1 s2 (by omega) (by omega) (hend.imp And.left And.left) fun h' tk hk => ⟨rfl, I.turnedL (t' := tk) (ch := [z, TI, TO, i1, i2]) (fun c o hb e =>
      hk c o (fun e' => hb (by simp [e'])) (fun e' => hb (by simp [e'])) (fun e' => hb (by simp [e'])) (fun e' => hb (by simp [e'])) e) hf⟩
  self := fun A i s Q E st h => wpAny_pyIter_zip st.1 h
end
end VL
namespace VL
open PySem PySem.Spec L2
open PyProof.Rows hiding St
section
variable {X : Cx} {pins : List (Addr × Obj)} {σ : L2.St} {H : Hp} {s : Shared}
theorem begins_of {k : Kd} {v : V} {u : Value} {xs : List V} (I : L2.Inv X pins σ H s) (r : RelV v u) (row : rowK k X.K H v xs) :
    ∃ (o : Obj) (Hb : Heap → Prop), PySem.Begins u o Hb ∧ Hb s.heap ∧ (∀ (h' : Heap) it, h'.get? it = some o → itK k u it 0 h') ∧ ∀ a, u = .ref a → a < s.heap.objs.size := by
  cases k with
  | l =>
    obtain ⟨a, rfl, sq⟩ := row
    cases r
    obtain ⟨its, rv, p, _⟩ := I.list sq
    exact ⟨_, _, PySem.begins_list a its.toArray, p.isList, fun h' it e => ⟨_, e, rfl, rfl⟩, fun b e => by cases e; exact p.lt⟩
  | t =>
    obtain ⟨a, rfl, sq⟩ := row
    cases r
    obtain ⟨its, rv, p, _⟩ := I.tuple sq
    exact ⟨_, _, PySem.begins_tuple a its.toArray, p, fun h' it e => ⟨_, e, rfl, rfl⟩, fun b e => by cases e; obtain ⟨o, e, _⟩ := p; exact Heap.lt_size e⟩
  | s =>
    obtain ⟨x, rfl, rfl⟩ := row
    obtain ⟨t, rfl⟩ := r
    exact ⟨_, _, PySem.begins_text x t, trivial, fun h' it e => ⟨_, e, rfl, rfl⟩, fun b e => by cases e⟩
def iG (K : PySem.W.Frag) (ta : TA) : TI := fun σ H R => ta σ H fun vs H1 => ∃ v1 v2 xs ys k1 k2, vs = [v1, v2] ∧ rowK k1 K H1 v1 xs ∧ rowK k2 K H1 v2 ys ∧ R (ItG K k1 k2 v1 v2) H1
theorem pi_g {e e2 : Expr} {ta : TA} {p pos tpos : Pos} {elts : List Expr} {kk : Nat} (hg : Gl X "zip") (hm : X.mg "zip" = none) (ha : PA X [e, e2] ta)
    (hs : starEach [e, e2] X.env = (false, eval e X.env) :: starEach [e2] X.env := by rfl) (hpl : (backTo pos (starEach [e2] X.env)).any (·.1) = false := by rfl) :
    PI X (.Tuple elts kk tpos) (.Call (.Name "zip" p) [e, e2] [] pos) (iG X.K ta) := by
  refine ⟨fun pins s σ H R I h => ?_⟩
  refine Call_ (ld_blt I hg hm PyProof.Rows.boot_zip (PyProof.Rows.callWith_type1 (thn (ha.run pos pins s σ H _ I h) fun us s1 ⟨vs, H1, I1, rr, q1⟩ => ?_) hs hpl))
  obtain ⟨v1, v2, xs, ys, k1, k2, rfl, w1, w2, q⟩ := q1
  cases rr with
  | @cons _ u1 _ us1 r1 rr =>
    cases rr with
    | @cons _ u2 _ us2 r2 rr =>
      cases rr
      obtain ⟨o1, B1, b1, p1, t1, l1⟩ := begins_of I1 r1 w1
      obtain ⟨o2, B2, b2, p2, t2, l2⟩ := begins_of I1 r2 w2
      refine PySem.zip_begins2 b1 b2 p1 p2 fun h' z1 z2 z3 z4 z5 hsz hk => wpAny_pyIter_zip z1 ?_
      have I2 : L2.Inv X pins σ H1 { s1 with heap := h' } := I1.kept (t' := s1.toks) hk
      have out : ∀ a : Addr, a < s1.heap.objs.size → a ∉ [s1.heap.objs.size + 4, s1.heap.objs.size + 2, s1.heap.objs.size + 3, s1.heap.objs.size, s1.heap.objs.size + 1] := fun a lt h => by
        simp only [List.mem_cons, List.not_mem_nil, or_false] at h
        rcases h with z | z | z | z | z <;> rw [z] at lt <;> first | exact Nat.lt_irrefl _ lt | exact absurd lt (Nat.not_lt.mpr (Nat.le_add_right _ _))
      have far : FarZ (s1.heap.objs.size + 4) (s1.heap.objs.size + 2) (s1.heap.objs.size + 3) s1.heap.objs.size (s1.heap.objs.size + 1) u1 u2 := ⟨by simp, fun a e => out a (l1 a e), fun a e => out a (l2 a e)⟩
      exact ⟨s1.heap.objs.size + 4, [s1.heap.objs.size + 4, s1.heap.objs.size + 2, s1.heap.objs.size + 3, s1.heap.objs.size, s1.heap.objs.size + 1], _, _, H1, rfl, I2, turn_g far r1 r2, ⟨z1, z2, ⟨_, _, z3⟩, t1 _ _ z4, t2 _ _ z5⟩, fun c hc => by
        have le : s1.heap.objs.size ≤ c := Nat.not_lt.mp fun lt => out c lt hc
        exact I1.fpOk le (I1.hok.fresh le), q⟩
def rdW (d : D) (S : Store) : Option (List D) := match d with
  | .str x => some (sgnD x)
  | d => rdS d S
def kindD : D → Kd
  | .tup _ => .t
  | .str _ => .s
  | _ => .l
theorem row_of {K : PySem.W.Frag} {G H : Hp} {S : Store} {d : D} {v : V} {ds : List D} (vw : View K G S H) (r : Rp K G v d) (h : rdW d S = some ds) : ∃ xs, rowK (kindD d) K H v xs ∧ RpL K G xs ds := by
  have lst : kindD d = .l → rdR d S = some ds → ∃ xs, rowK (kindD d) K H v xs ∧ RpL K G xs ds := fun e h => by
    obtain ⟨a, xs, rfl, q, l⟩ := rdR_ok vw r h
    exact ⟨xs, by rw [e]; exact ⟨a, rfl, q⟩, l⟩
  cases d with
  | str x =>
    cases r
    simp only [rdW, Option.some.injEq] at h
    subst h
    refine ⟨_, ⟨x, rfl, rfl⟩, ?_⟩
    unfold sgnD
    induction x.cps.toList with
    | nil => exact .nil
    | cons c cs ih => exact .cons (.str _) ih
  | tup es =>
    simp only [rdW, rdS, Option.some.injEq] at h
    subst h
    cases r with
    | tup ht l => exact ⟨_, ⟨_, rfl, same_t vw.gh ht⟩, l⟩
  | non => exact lst rfl h
  | bl => exact lst rfl h
  | int => exact lst rfl h
  | lst => exact lst rfl h
  | ro => exact lst rfl h
  | dct => exact lst rfl h
  | ref => exact lst rfl h
def zipD (ds es : List D) : List D := (ds.zip es).map fun p => .tup [p.1, p.2]
def mZip (m n : VE) : VW := fun ρ S Q => m ρ S fun d S1 => n ρ S1 fun e S2 => match rdW d S2, rdW e S2 with
  | some ds, some es => Q (zipD ds es) (fun S' => rdW d S' = some ds ∧ rdW e S' = some es) S2
  | _, _ => False
theorem mZip_e {m n : VE} {ρ : Sl} {S : Store} {Q : List D → (Store → Prop) → Store → Prop} : mZip m n ρ S Q = m ρ S fun d S1 => n ρ S1 fun e S2 => match rdW d S2, rdW e S2 with
  | some ds, some es => Q (zipD ds es) (fun S' => rdW d S' = some ds ∧ rdW e S' = some es) S2
  | _, _ => False := rfl
theorem walks_zip {K : PySem.W.Frag} {G1 : Hp} {d e : D} {v1 v2 : V} {ds es : List D} (r1 : Rp K G1 v1 d) (r2 : Rp K G1 v2 e) :
    Walks K G1 (fun S' => rdW d S' = some ds ∧ rdW e S' = some es) (ItG K (kindD d) (kindD e) v1 v2) (zipD ds es) where
  stop := fun H G S g v k => by
    obtain ⟨xs, w1, l1⟩ := row_of v (r1.mono g) k.1
    obtain ⟨ys, w2, l2⟩ := row_of v (r2.mono g) k.2
    refine ⟨xs, ys, w1, w2, ?_⟩
    have a := l1.length
    have b := l2.length
    simp only [zipD, List.length_map, List.length_zip]
    omega
  goes := fun i H G S hi g v k => by
    obtain ⟨xs, w1, l1⟩ := row_of v (r1.mono g) k.1
    obtain ⟨ys, w2, l2⟩ := row_of v (r2.mono g) k.2
    have a := l1.length
    have b := l2.length
    simp only [zipD, List.length_map, List.length_zip] at hi
    exact ⟨xs, ys, xs[i]'(by omega), ys[i]'(by omega), w1, w2, by simp, by simp⟩
  yld := fun i q H x H' G S hd g v k y => by
    obtain ⟨T, x', y', rfl, hT, rfl, f1, f2⟩ := y
    obtain ⟨xs, w1, l1⟩ := row_of v (r1.mono g) k.1
    obtain ⟨ys, w2, l2⟩ := row_of v (r2.mono g) k.2
    obtain ⟨d', e1, rd⟩ := l1.getV (f1 xs w1)
    obtain ⟨e', e2, re⟩ := l2.getV (f2 ys w2)
    have : q = .tup [d', e'] := by
      simp only [zipD, List.getElem?_map, List.getElem?_zip_eq_some, Option.map_eq_some_iff] at hd
      obtain ⟨p, ⟨h1, h2⟩, h3⟩ := hd
      rw [e1] at h1; cases h1
      rw [e2] at h2; cases h2
      exact h3.symm
    subst this
    have a3 := v.froze (o := .tup [x', y']) hT
    exact ⟨_, a3, .tup (SqT.of upd_same) (.cons (rd.mono a3.gg) (.cons (re.mono a3.gg) .nil))⟩
theorem i_zip {e e2 : Expr} {m n : VE} {p pos tpos : Pos} {elts : List Expr} {kk : Nat} (hg : Gl X "zip") (hm : X.mg "zip" = none) (h1 : PE X e (LE X.K m)) (h2 : PE X e2 (LE X.K n))
    (hs : starEach [e, e2] X.env = (false, eval e X.env) :: starEach [e2] X.env := by rfl) (hs2 : starEach [e2] X.env = (false, eval e2 X.env) :: starEach [] X.env := by rfl) (hpl : (backTo pos (starEach [e2] X.env)).any (·.1) = false := by rfl) :
    PI X (.Tuple elts kk tpos) (.Call (.Name "zip" p) [e, e2] [] pos) (LI X.K (mZip m n)) := by
  refine PI.imp (pi_g hg hm (pa_cons h1 (pa_cons h2 pa_nil hs2) hs) hs hpl) fun σ H R ⟨ρ, S, G, Q, vw, re, hm, k⟩ => ?_
  refine ⟨ρ, S, G, _, vw, re, hm, fun d S1 v1 H1 G1 a1 r1 h1 => ?_⟩
  refine ⟨ρ, S1, G1, _, a1.vw, re.mono a1.gg, h1, fun e S2 v2 H2 G2 a2 r2 h2 => ?_⟩
  split at h2
  · rename_i ds es e1 e2
    obtain ⟨xs, w1, l1⟩ := row_of a2.vw (r1.mono a2.gg) e1
    obtain ⟨ys, w2, l2⟩ := row_of a2.vw r2 e2
    exact ⟨v1, v2, xs, ys, _, _, rfl, w1, w2, k _ _ S2 H2 G2 _ (a1.trans a2) (walks_zip (r1.mono a2.gg) r2) h2⟩
  · exact h2.elim
end
end VL
set_option maxHeartbeats 2000000
namespace VL
open PySem PySem.Spec L2
open PyProof.Rows hiding St
def strKeys : List DictEntry → Bool
  | [] => true
  | e :: r => (match e.key with | .str _ _ => true | _ => false) && strKeys r
def kvOf : List DictEntry → List (Str × Value)
  | [] => []
  | e :: r => ((match e.key with | .str x _ => x | _ => ""), e.val) :: kvOf r
inductive KVs (K : PySem.W.Frag) : List (Str × Value) → List (Str × D) → Prop
  | nil : KVs K [] []
  | cons {k : Str} {u : Value} {d : D} {us : List (Str × Value)} {ds : List (Str × D)} (h : ∃ v, RelV v u ∧ ∀ G, Rp K G v d) (t : KVs K us ds) : KVs K ((k, u) :: us) ((k, d) :: ds)
theorem kv_tup {K : PySem.W.Frag} {a : Addr} {o : Obj} {ds : List D} (l : K.lookup a = some o) (h : tupC o ds = true) : ∃ v, RelV v (.ref a) ∧ ∀ G, Rp K G v (.tup ds) := ⟨.ref a, rfl, tupC_ok l h⟩
theorem find_kv {z : Str} : ∀ {es : List DictEntry}, strKeys es = true → (es.find? (·.key.isStr z) = none ∧ (kvOf es).lookup z = none) ∨ ∃ e, es.find? (·.key.isStr z) = some e ∧ (kvOf es).lookup z = some e.val
  | [], _ => .inl ⟨rfl, rfl⟩
  | e :: r, h => by
    have h' : (match e.key with | .str _ _ => true | _ => false) = true ∧ strKeys r = true := by simpa [strKeys] using h
    have ih := find_kv (z := z) h'.2
    cases ek : e.key with
    | str x t =>
      simp only [List.find?_cons, kvOf, ek, List.lookup_cons]
      by_cases hz : x = z
      · subst hz
        have : (Value.str x t).isStr x = true := by simp [Value.isStr]
        rw [this]
        exact .inr ⟨e, rfl, by simp⟩
      · have h1 : (Value.str x t).isStr z = false := by simp [Value.isStr, hz]
        have h2 : (z == x) = false := by simpa using fun q => hz q.symm
        rw [h1, h2]
        exact ih
    | _ => rw [ek] at h'; simp at h'
theorem keys_noRef : ∀ {es : List DictEntry}, strKeys es = true → es.any (·.refKey) = false
  | [], _ => rfl
  | e :: r, h => by
    have h' : (match e.key with | .str _ _ => true | _ => false) = true ∧ strKeys r = true := by simpa [strKeys] using h
    rw [List.any_cons, keys_noRef h'.2, Bool.or_false]
    unfold DictEntry.refKey
    cases ek : e.key with
    | str x t => simp
    | _ => simp [ek] at h'
/-- at x: a dict of the module with these items -/
def KD (K : PySem.W.Frag) (w : World) (mg : Str → Option Value) (x : Str) (kvs : List (Str × D)) : Prop :=
  ∃ (d : Addr) (es : Array DictEntry) (n : Nat), mg x = some (.ref d) ∧ KDict K w d es n ∧ ∀ z, (kvs.lookup z = none → PySem.W.nsIn K d z = some none) ∧ ∀ q, kvs.lookup z = some q → ∃ u0 v0, PySem.W.nsIn K d z = some (some u0) ∧ RelV v0 u0 ∧ ∀ G, Rp K G v0 q
theorem KVs.look {K : PySem.W.Frag} {z : Str} : ∀ {us : List (Str × Value)} {ds : List (Str × D)}, KVs K us ds → (us.lookup z = none ∧ ds.lookup z = none) ∨ ∃ u v q, us.lookup z = some u ∧ ds.lookup z = some q ∧ RelV v u ∧ ∀ G, Rp K G v q
  | _, _, .nil => .inl ⟨rfl, rfl⟩
  | _, _, .cons (k := k) (u := u) (d := d) ⟨v, r, g⟩ t => by
    simp only [List.lookup_cons]
    cases hz : z == k with
    | true => exact .inr ⟨u, v, d, rfl, rfl, r, g⟩
    | false => exact t.look
theorem kd_mk {K : PySem.W.Frag} {w : World} {mg : Str → Option Value} {x : Str} {d : Addr} {es : Array DictEntry} {n : Nat} {us : List (Str × Value)} {kvs : List (Str × D)} (hm : mg x = some (.ref d)) (l : K.lookup d = some ⟨.type "dict", none, .dict es n, #[]⟩)
    (lit : PySem.W.KeysLit w.params es.toList) (low : (d == sysModules) = false) (sk : strKeys es.toList = true) (hu : kvOf es.toList = us) (h : KVs K us kvs) : KD K w mg x kvs := by
  refine ⟨d, es, n, hm, ⟨l, lit, low⟩, fun z => ?_⟩
  have ns : PySem.W.nsIn K d z = some (us.lookup z) := by
    unfold PySem.W.nsIn
    rw [l]
    simp only
    rw [← hu]
    rcases find_kv (z := z) sk with ⟨a, b⟩ | ⟨e, a, b⟩
    · rw [a, b]; simp only [keys_noRef sk]; rfl
    · rw [a, b]
  rcases h.look (z := z) with ⟨a, b⟩ | ⟨u, v, q, a, b, r, g⟩
  · exact ⟨fun _ => by rw [ns, a], fun q e => (by rw [b] at e; cases e)⟩
  · refine ⟨fun e => ?_, fun q' e => ?_⟩
    · rw [b] at e; cases e
    · rw [b] at e; cases e; exact ⟨u, v, by rw [ns, a], r, g⟩
section
variable {X : Cx}
def mKSub (kvs : List (Str × D)) (mi : VE) : VE := fun ρ S Q => mi ρ S fun y S1 => match y with
  | .str z => (match kvs.lookup z with
    | some d => Q d S1
    | none => False)
  | _ => False
theorem mKSub_e {kvs : List (Str × D)} {mi : VE} {ρ : Sl} {S : Store} {Q : D → Store → Prop} : mKSub kvs mi ρ S Q = mi ρ S fun y S1 => match y with
  | .str z => (match kvs.lookup z with
    | some d => Q d S1
    | none => False)
  | _ => False := rfl
theorem v_ksub {x : Str} {kvs : List (Str × D)} {i : Expr} {mi : VE} {p pos : Pos} (hg : Gl X x) (hK : KD X.K X.w X.mg x kvs) (hi : PE X i (LE X.K mi)) (hs : PlainIx i := by exact fun _ _ => rfl) (hd : (x == ("__debug__" : Str)) = false := by decide) : PE X (.Subscript (.Name x p) i pos) (LE X.K (mKSub kvs mi)) := by
  obtain ⟨d, es, n, hm, D, lk⟩ := hK
  refine PE.imp (pe_ix ix_kdict (pe_glob hg hm (v := .ref d) rfl hd) hi hs) fun σ H Q' ⟨ρ, S, G, Q, vw, re, hm, k⟩ => ?_
  refine ⟨ρ, S, G, _, vw, re, hm, fun y S1 v1 H1 G1 a1 r1 h1 => ?_⟩
  cases r1 <;> try exact h1.elim
  rename_i z
  simp only at h1
  split at h1
  · rename_i q e
    obtain ⟨u0, v0, e0, r0, g0⟩ := (lk z).2 q e
    exact ⟨d, z, v0, rfl, rfl, ⟨es, n, u0, D.at_, D.lit, e0, r0⟩, k _ S1 _ H1 G1 a1 (g0 G1) h1⟩
  · exact h1.elim
def mKIn (neg : Bool) (kvs : List (Str × D)) (mi : VE) : VE := fun ρ S Q => mi ρ S fun y S1 => match y with
  | .str z => Q (.bl (if neg then !(kvs.lookup z).isSome else (kvs.lookup z).isSome)) S1
  | _ => False
theorem mKIn_e {neg : Bool} {kvs : List (Str × D)} {mi : VE} {ρ : Sl} {S : Store} {Q : D → Store → Prop} : mKIn neg kvs mi ρ S Q = mi ρ S fun y S1 => match y with
  | .str z => Q (.bl (if neg then !(kvs.lookup z).isSome else (kvs.lookup z).isSome)) S1
  | _ => False := rfl
theorem kd_ns {K : PySem.W.Frag} {w : World} {d : Addr} {kvs : List (Str × D)} {z : Str} (h : (kvs.lookup z = none → PySem.W.nsIn K d z = some none) ∧ ∀ q, kvs.lookup z = some q → ∃ u0 v0, PySem.W.nsIn K d z = some (some u0) ∧ RelV v0 u0 ∧ ∀ G, Rp K G v0 q) :
    ∃ r, PySem.W.nsIn K d z = some r ∧ r.isSome = (kvs.lookup z).isSome := by
  cases e : kvs.lookup z with
  | none => exact ⟨none, h.1 e, rfl⟩
  | some q => obtain ⟨u, v, e0, _⟩ := h.2 q e; exact ⟨some u, e0, rfl⟩
theorem le_kin {neg : Bool} {d : Addr} {kvs : List (Str × D)} {mi : VE} {σ : L2.St} {H : Hp} {Q' : VK} (lk : ∀ z, (kvs.lookup z = none → PySem.W.nsIn X.K d z = some none) ∧ ∀ q, kvs.lookup z = some q → ∃ u0 v0, PySem.W.nsIn X.K d z = some (some u0) ∧ RelV v0 u0 ∧ ∀ G, Rp X.K G v0 q)
    (q : LE X.K (mKIn neg kvs mi) σ H Q') : LE X.K mi σ H fun y H1 => ∃ (z : Str) (r : Option Value), y = .str z ∧ V.ref d = .ref d ∧ PySem.W.nsIn X.K d z = some r ∧ Q' (.bl (if neg then !r.isSome else r.isSome)) H1 := by
  obtain ⟨ρ, S, G, Q, vw, re, hm, k⟩ := q
  refine ⟨ρ, S, G, _, vw, re, hm, fun y S1 v1 H1 G1 a1 r1 h1 => ?_⟩
  cases r1 <;> try exact h1.elim
  rename_i z
  obtain ⟨r, e1, e2⟩ := kd_ns (w := X.w) (lk z)
  refine ⟨z, r, rfl, rfl, e1, ?_⟩
  rw [e2]
  exact k _ S1 _ H1 G1 a1 (.bl _) h1
end
end VL
set_option maxHeartbeats 2000000
namespace VL
open PySem PySem.Spec L2
open PyProof.Rows hiding St
section
variable {X : Cx}
theorem PGs.imp {ts : List Expr} {t t' : TGs} (h : PGs X ts t) (i : ∀ vs σ H Q, t' vs σ H Q → t vs σ H Q) : PGs X ts t' := ⟨fun pins s σ H vs us Q I r q => h.run pins s σ H vs us Q I r (i vs σ H Q q)⟩
/-- a text of the module -/
theorem v_gstr {x y : Str} {pos : Pos} (hg : Gl X x) (hm : ∃ t, X.mg x = some (.str y t)) (hd : (x == ("__debug__" : Str)) = false := by decide) : PE X (.Name x pos) (LE X.K (mC (.str y))) := by
  obtain ⟨t, hm⟩ := hm
  exact v_c (pe_glob hg hm (v := .str y) ⟨_, rfl⟩ hd) fun _ => .str y
theorem t_knotin {x : Str} {kvs : List (Str × D)} {i : Expr} {mi : VE} {p pos : Pos} (hg : Gl X x) (hK : KD X.K X.w X.mg x kvs) (hi : PE X i (LE X.K mi)) (hd : (x == ("__debug__" : Str)) = false := by decide) (hm2 : behindInMarks .NotIn (.Name x p) = false := by rfl) : PT X (.Compare i [.NotIn] [.Name x p] pos) (LT X.K (mTest (mKIn true kvs mi))) := by
  obtain ⟨d, es, n, hm, D, lk⟩ := hK
  exact PT.imp (pt_cmpR (op_notIn_kd D) hi (pe_glob hg hm (v := .ref d) rfl hd) hm2) fun σ H Q' q => le_kin (neg := true) lk (lt_B q)
theorem op_eqT0 (hu : X.A.units < cLine) : OpR X (compareOp .Eq) (fun x y H Q => ∃ a b xs, x = .ref a ∧ y = .ref b ∧ SqT X.K H a xs ∧ SqT X.K H b [] ∧ Q (.bl (decide (xs = []))) H) := by
  intro pins s σ H x y v u Q I rx ry h
  obtain ⟨a, b, xs, rfl, rfl, h1, h2, q⟩ := h
  cases rx
  cases ry
  obtain ⟨its, r1, t1, _⟩ := I.tuple h1
  obtain ⟨its2, r2, t2, _⟩ := I.tuple h2
  cases r2
  refine SeqAt.RcAt.tuples (e := fun _ => true) t1 t2 hu (fun j _ z => absurd z (by simp)) _ _ _ _ ⟨.bl (decide (xs = [])), H, I, ?_, q⟩
  have e : decide (xs = []) = ((List.range (min its.toArray.size (#[] : Array Value).size)).all (fun _ => true) && its.toArray.size == (#[] : Array Value).size) := by
    cases r1 <;> simp
  rw [e]
  rfl
def mEqT0 : R2V := fun x y S Q => match x, y with
  | .tup ds, .tup [] => Q (.bl (decide (ds = []))) S
  | _, _ => False
theorem mEqT0_e {ds : List D} {S : Store} {Q : D → Store → Prop} : mEqT0 (.tup ds) (.tup []) S Q = Q (.bl (decide (ds = []))) S := rfl
theorem ov_eqT0 (hu : X.A.units < cLine) : OpV X (compareOp .Eq) mEqT0 := by
  refine ⟨_, op_eqT0 hu, ?_⟩
  intro x y v1 v2 G S H Q Q' vw r1 r2 h k
  unfold mEqT0 at h
  split at h
  · cases r1 with
    | @tup a xs ds h1 l1 =>
      cases r2 with
      | @tup b ys es h2 l2 =>
        cases l2
        refine ⟨a, b, xs, rfl, rfl, same_t vw.gh h1, same_t vw.gh h2, k _ S _ H G (Aft.refl vw) ?_ h⟩
        have same : ∀ {ds : List D}, RpL X.K G xs ds → decide (xs = []) = decide (ds = []) := fun l => by cases l <;> simp
        rw [same l1]
        exact .bl _
  · exact h.elim
end
end VL
set_option maxHeartbeats 2000000
namespace VL
open PySem PySem.Spec L2
open PyProof.Rows hiding St
def lineTab : List (Str × List (Nat × Str)) := [("put", [(104, "written"), (110, "number")]), ("none", [(104, "written")]), ("copy", [(104, "written"), (103, "read")]), ("add", [(104, "written"), (103, "read"), (103, "read")]), ("less", [(104, "written"), (103, "read"), (103, "read")]),
  ("new", [(104, "written"), (97, "few"), (97, "few")]), ("getn", [(104, "written"), (103, "read"), (107, "field")]), ("setn", [(103, "read"), (107, "field"), (103, "read")]), ("getb", [(104, "written"), (103, "read"), (107, "field")]), ("setb", [(103, "read"), (107, "field"), (103, "read")]),
  ("tell", [(103, "read")]), ("go", [(116, "goal")]), ("if", [(103, "read"), (116, "goal")]), ("ifnone", [(103, "read"), (116, "goal")]), ("same", [(103, "read"), (103, "read"), (116, "goal")]), ("call", [(116, "called")]), ("back", []), ("rest", [])]
def isFrom (d : D) : Bool := match d with
  | .int i => decide (0 ≤ i)
  | _ => false
def fitC (c : Nat) (d : D) : Bool := if c = 104 ∨ c = 103 then isHome d else if c = 110 then isWhole d else if c = 97 then isWithin d 0 3 else if c = 107 then isWithin d 0 2 else isFrom d
def partB (p : Str) (d : D) : Bool := if p = "written" ∨ p = "read" then isHome d else if p = "number" then isWhole d else if p = "few" then isWithin d 0 3 else if p = "field" then isWithin d 0 2 else isFrom d
def fitsAll : List (Nat × Str) → List D → Bool
  | [], [] => true
  | e :: es, d :: ds => fitC e.1 d && fitsAll es ds
  | _, _ => false
def lineD (d : D) : Bool := match d with
  | .tup (.str w :: ds) => (match lineTab.lookup w with
    | some es => fitsAll es ds
    | none => false)
  | _ => false
theorem look_map {α β γ : Type} [BEq α] (f : β → γ) (z : α) : ∀ l : List (α × β), (l.map fun e => (e.1, f e.2)).lookup z = (l.lookup z).map f
  | [] => rfl
  | (k, b) :: l => by
    simp only [List.map_cons, List.lookup_cons, look_map f z l]
    cases z == k <;> rfl
theorem look_mem {β : Type} {z : Str} {b : β} : ∀ {l : List (Str × β)}, l.lookup z = some b → (z, b) ∈ l
  | (k, c) :: l, h => by
    simp only [List.lookup_cons] at h
    cases e : z == k with
    | true => rw [e] at h; cases h; rw [eq_of_beq e]; exact List.mem_cons_self
    | false => rw [e] at h; exact List.mem_cons_of_mem _ (look_mem h)
/-- the signs and the names of parts say the same -/
def pairs : List (Nat × Str) := [(104, "written"), (103, "read"), (110, "number"), (97, "few"), (107, "field"), (116, "goal"), (116, "called")]
def okPair (e : Nat × Str) : Bool := decide (e ∈ pairs)
theorem pair_fit {e : Nat × Str} (h : okPair e = true) (d : D) : partB e.2 d = fitC e.1 d := by
  have h' : e ∈ pairs := of_decide_eq_true h
  simp only [pairs, List.mem_cons, List.not_mem_nil, or_false] at h'
  rcases h' with rfl | rfl | rfl | rfl | rfl | rfl | rfl <;> rfl
theorem table_ok : ∀ e ∈ lineTab, e.2.all okPair = true ∧ e.2.length ≤ 3 := by decide +kernel
def AllSm (n m : Nat) (ds : List D) : Prop := ∀ d ∈ ds, Sm n m d
theorem AllSm.row {n m : Nat} : ∀ {ds : List D}, AllSm n m ds → smlL ds = true ∧ cntL ds ≤ (n + 2) * ds.length ∧ depL ds ≤ m
  | [], _ => ⟨rfl, Nat.zero_le _, Nat.zero_le _⟩
  | d :: ds, h => by
    obtain ⟨a, b, c⟩ := AllSm.row (fun e he => h e (List.mem_cons_of_mem _ he) : AllSm n m ds)
    obtain ⟨x, y, z⟩ := h d List.mem_cons_self
    refine ⟨by simp only [smlL, x, a, Bool.and_self], ?_, ?_⟩
    · simp only [cntL, List.length_cons, Nat.mul_succ]; omega
    · simp only [depL]; omega
theorem AllSm.tup {n m k : Nat} {ds : List D} (h : AllSm n m ds) (hk : ds.length ≤ k) : Sm ((n + 2) * k + 3) (m + 1) (.tup ds) := by
  obtain ⟨a, b, c⟩ := h.row
  have := Nat.mul_le_mul_left (n + 2) hk
  exact ⟨by simpa only [sml] using a, by simp only [VL.cnt]; omega, by simp only [dep]; omega⟩
theorem AllSm.app {n m : Nat} {ds es : List D} (h : AllSm n m ds) (k : AllSm n m es) : AllSm n m (ds ++ es) := fun d hd => (List.mem_append.mp hd).elim (h d) (k d)
theorem AllSm.cut {n m : Nat} {ds : List D} (h : AllSm n m ds) (lo hi : Option Int) : AllSm n m (cutD ds lo hi) := fun d hd => h d (List.mem_of_mem_drop (List.mem_of_mem_take hd))
theorem AllSm.set {n m : Nat} {ds : List D} (h : AllSm n m ds) {i : Nat} {d : D} (hd : Sm n m d) : AllSm n m (ds.set i d) := fun e he => (List.mem_or_eq_of_mem_set he).elim (h e) fun z => by rw [z]; exact hd
theorem cut_one {d : D} {ds : List D} : cutD (d :: ds) (some 1) none = ds := by
  unfold cutD HT.sIx
  simp
theorem rdW_tup {ds : List D} {S : Store} : rdW (.tup ds) S = some ds := rfl
theorem rdW_lst {ds : List D} {S : Store} : rdW (.lst ds) S = some ds := rfl
theorem rdW_str {x : Str} {S : Store} : rdW (.str x) S = some (sgnD x) := rfl
def strsOf (es : List (Nat × Str)) : List D := es.map fun p => D.str p.2
def fP (d : D) : List D := match d with
  | .tup [.str p, x] => [.bl (partB p x)]
  | _ => []
theorem parts_bls : ∀ {es : List (Nat × Str)} {r : List D}, es.length = r.length → es.all okPair = true → ∃ bs, bls ((zipD (strsOf es) r).flatMap fP) = some bs ∧ bs.all id = fitsAll es r
  | [], [], _, _ => ⟨[], rfl, rfl⟩
  | e :: es, d :: r, h, ok => by
    have ok' : okPair e = true ∧ es.all okPair = true := by simpa using ok
    obtain ⟨bs, h1, h2⟩ := parts_bls (es := es) (r := r) (by simpa using h) ok'.2
    refine ⟨fitC e.1 d :: bs, ?_, ?_⟩
    · have : (zipD (strsOf (e :: es)) (d :: r)).flatMap fP = D.bl (partB e.2 d) :: (zipD (strsOf es) r).flatMap fP := by
        simp [zipD, strsOf, fP]
      rw [this, pair_fit ok'.1]
      simp only [bls, h1, Option.map_some]
    · simp only [List.all_cons, id_eq, h2, fitsAll]
theorem fits_len : ∀ {es : List (Nat × Str)} {r : List D}, es.length ≠ r.length → fitsAll es r = false
  | [], [], h => absurd rfl h
  | [], _ :: _, _ => rfl
  | _ :: _, [], _ => rfl
  | e :: es, d :: r, h => by simp only [fitsAll, fits_len (es := es) (r := r) (by simpa using h), Bool.and_false]
theorem zip_mem {es : List (Nat × Str)} {r : List D} {d : D} (h : d ∈ zipD (strsOf es) r) : ∃ p x, d = .tup [.str p, x] ∧ x ∈ r := by
  simp only [zipD, List.mem_map] at h
  obtain ⟨⟨a, b⟩, h1, rfl⟩ := h
  have h2 := List.of_mem_zip h1
  simp only [strsOf, List.mem_map] at h2
  obtain ⟨⟨e, _, rfl⟩, h3⟩ := h2
  exact ⟨e.2, b, rfl, h3⟩
theorem sgn_n {c : Nat} : ((⟨#[c]⟩ : Str) = Str.ofString "n") = (c = 110) := by
  have : Str.ofString "n" = ⟨#[110]⟩ := by decide +kernel
  rw [this]; simp
def signs6 : List Nat := [104, 103, 110, 97, 107, 116]
theorem look_none {β : Type} {z : Str} : ∀ {l : List (Str × β)}, l.lookup z = none → z ∉ l.map (·.1)
  | [], _ => by simp
  | (k, c) :: l, h => by
    simp only [List.lookup_cons] at h
    cases e : z == k with
    | true => rw [e] at h; cases h
    | false =>
      rw [e] at h
      simp only [List.map_cons, List.mem_cons, not_or]
      exact ⟨fun q => by subst q; simp at e, look_none h⟩
theorem look_some {β : Type} {z : Str} {l : List (Str × β)} (h : z ∈ l.map (·.1)) : ∃ b, l.lookup z = some b := by
  cases e : l.lookup z with
  | none => exact absurd h (look_none e)
  | some b => exact ⟨b, rfl⟩
theorem table_signs : ∀ e ∈ lineTab, (e.2.map (·.1)).all (fun c => decide (c ∈ signs6)) = true ∧ PyData.strOk e.1 = true ∧ e.1.length ≤ 10 ∧ PyData.strOk (Txt.upper e.1) = true ∧ (Txt.upper e.1).length ≤ 10 := by decide +kernel
def signD (cs : List Nat) : List D := cs.map fun c => .str ⟨#[c]⟩
theorem sign_mem {cs : List Nat} {r : List D} {d : D} (h : d ∈ zipD (signD cs) r) : ∃ c x, d = .tup [.str ⟨#[c]⟩, x] ∧ c ∈ cs ∧ x ∈ r := by
  simp only [zipD, List.mem_map] at h
  obtain ⟨⟨a, b⟩, h1, rfl⟩ := h
  have h2 := List.of_mem_zip h1
  simp only [signD, List.mem_map] at h2
  obtain ⟨⟨c, hc, rfl⟩, h3⟩ := h2
  exact ⟨c, b, rfl, hc, h3⟩
end VL
set_option maxHeartbeats 2000000
namespace VL
open PySem PySem.Spec L2
open PyProof.Rows hiding St
section
variable {X : Cx}
def strsD : List D → Option (List Str)
  | [] => some []
  | .str x :: ds => (strsD ds).map (x :: ·)
  | _ :: _ => none
theorem strsD_ok {K : PySem.W.Frag} {G : Hp} : ∀ {xs : List V} {ds : List D} {ys : List Str}, RpL K G xs ds → strsD ds = some ys → xs = ys.map V.str
  | _, _, _, .nil, h => by simp [strsD] at h; subst h; rfl
  | _, _, _, .cons r t, h => by
    cases r <;> try (simp [strsD] at h; done)
    rename_i b ds' _
    cases e : strsD ds' with
    | none => simp [strsD, e] at h
    | some bs' => simp [strsD, e] at h; subst h; rw [strsD_ok t e]; rfl
def mJoin (m n : VE) : VE := fun ρ S Q => m ρ S fun x S1 => match x with
  | .str a => n ρ S1 fun y S2 => (match rdS y S2 with
    | some ds => (match strsD ds with
      | some ys => (ys.map (·.length)).sum + ys.length * a.length ≤ 16777216 ∧ Q (.str (Txt.join a ys)) S2
      | none => False)
    | none => False)
  | _ => False
theorem mJoin_e {m n : VE} {ρ : Sl} {S : Store} {Q : D → Store → Prop} : mJoin m n ρ S Q = m ρ S fun x S1 => match x with
  | .str a => n ρ S1 fun y S2 => (match rdS y S2 with
    | some ds => (match strsD ds with
      | some ys => (ys.map (·.length)).sum + ys.length * a.length ≤ 16777216 ∧ Q (.str (Txt.join a ys)) S2
      | none => False)
    | none => False)
  | _ => False := rfl
theorem v_join {o e : Expr} {m n : VE} {apos pos : Pos} (w : PE X (.Call (.Attribute o "join" apos) [e] [] pos) (tM1 (fun x xs H Q => ∃ a p, ∃ ys : List Str, x = .str a ∧ xs = [.ref p] ∧ (SqL X.K H p (ys.map V.str) ∨ SqT X.K H p (ys.map V.str)) ∧
      (ys.map (·.length)).sum + ys.length * a.length ≤ 16777216 ∧ Q (.str (Txt.join a ys)) H) (LE X.K m) (LE X.K n))) : PE X (.Call (.Attribute o "join" apos) [e] [] pos) (LE X.K (mJoin m n)) := by
  refine PE.imp w fun σ H Q' ⟨ρ, S, G, Q, vw, re, hm, k⟩ => ?_
  refine ⟨ρ, S, G, _, vw, re, hm, fun d S1 v1 H1 G1 a1 r1 h1 => ?_⟩
  cases r1 <;> try exact h1.elim
  rename_i a
  refine ⟨⟨a, rfl⟩, ρ, S1, G1, _, a1.vw, re.mono a1.gg, h1, fun y S2 v2 H2 G2 a2 r2 h2 => ?_⟩
  split at h2
  · rename_i ds e1
    split at h2
    · rename_i ys e2
      obtain ⟨p, xs, rfl, q, l⟩ := rdS_ok a2.vw r2 e1
      have := strsD_ok l e2
      subst this
      exact ⟨a, p, ys, rfl, rfl, q, h2.1, k _ S2 _ H2 G2 (a1.trans a2) (.str _) h2.2⟩
    · exact h2.elim
  · exact h2.elim
end
end VL
namespace VL
open PySem PySem.Spec L2
open PyProof.Rows hiding St
end VL
set_option maxHeartbeats 2000000
namespace VL
open PySem PySem.Spec L2
open PyProof.Rows hiding St
def ItE (K : PySem.W.Frag) (k : Kd) (v : V) : It :=
  ⟨fun i H => ∃ (xs : List V) (x : V), rowK k K H v xs ∧ xs[i]? = some x,
    fun i H u H' => ∃ T x, u = .ref T ∧ H T = none ∧ H' = upd H T (.tup [.int (i : Nat), x]) ∧ ∀ xs, rowK k K H v xs → xs[i]? = some x,
    fun i H => ∃ xs : List V, rowK k K H v xs ∧ i = xs.length⟩
theorem turn_e {P : Program} {w : World} {K : PySem.W.Frag} {elts : List Expr} {kk : Nat} {tpos : Pos} {e it : Addr} {k : Kd} {v : V} {u : Value} (ne : e ≠ it) (far : ∀ a, u = .ref a → a ≠ e ∧ a ≠ it) (r : RelV v u) :
    Turn P w K (.Tuple elts kk tpos) (ItE K k v) [e, it] e (fun i h => (∃ old, IsEnum h e it ((i : Nat) : Int) old) ∧ itK k u it i h) where
  mem := by simp
  obj := fun i h st c hc => by
    obtain ⟨⟨old, q1⟩, q2⟩ := st
    simp only [List.mem_cons, List.not_mem_nil, or_false] at hc
    rcases hc with rfl | rfl
    · exact ⟨_, q1, fun v z => nomatch z⟩
    · exact q2.obj
  keep := fun i h h' st k => by
    obtain ⟨⟨old, q1⟩, q2⟩ := st
    exact ⟨⟨old, k e (by simp) _ q1⟩, q2.at fun o z => k it (by simp) o z⟩
  item := by
    intro X hP hw hK hc i pins s σ H E I hf st hg
    subst hP hw hK
    obtain ⟨⟨old, q1⟩, q2⟩ := st
    obtain ⟨xs, x, hx, ex⟩ := hg
    obtain ⟨fp, Pp, S1, D1, s1, t1, p1, m1, c1⟩ := draws_of (A := X.A.in1) I (I.ok.hd hc) r hx q2 fun a z => (far a z).2
    have el : e < s.heap.objs.size := Heap.lt_size q1
    have ef : e ∉ fp := fun h => (c1 e h).elim ne fun z => (far e z).1 rfl
    refine PySem.wpAny_pyNext_enum_itemD D1 q1 s1 (getE ex) ne ef fun w1 h' tk y1 ho s1' hT hsz hk => ?_
    refine ⟨_, rfl, wpAny_letOwnedTupleGo_enum (s := { s with heap := h', toks := tk + 1 }) ho fun h'' he' sb => ?_⟩
    obtain ⟨x', ex', rx'⟩ := p1 _ _ y1
    rw [ex] at ex'; cases ex'
    have hT2 : h''.get? s.heap.objs.size = some { cls := .type "tuple", data := .seq #[.int i tk, w1] } := (sb.2 _ (Nat.ne_of_gt el)).trans hT
    have new : ObjOk X.prog X.w (upd H s.heap.objs.size (.tup [.int (i : Nat), x])) h'' s.heap.objs.size (.tup [.int (i : Nat), x]) := ⟨by show 2 ≤ sizeLine; decide, [.int i tk, w1], .cons ⟨_, rfl⟩ (.cons rx' .nil), ⟨_, hT2, rfl, _, rfl⟩⟩
    have I1 : L2.Inv X pins σ (upd H s.heap.objs.size (.tup [.int (i : Nat), x])) { s with heap := h'', toks := tk + 1 } :=
      I.turnedNew (t' := tk + 1) (ch := [e, it]) (fun b ob hb z => (sb.2 b (fun z' => hb (by simp [z']))).trans (hk b ob (fun z' => hb (by simp [z'])) (fun z' => hb (by simp [z'])) z)) hf (Nat.le_refl _) new
    refine ⟨.ref s.heap.objs.size, _, I1, rfl, ⟨_, x, rfl, I.hok.fresh (Nat.le_refl _), rfl, fun l hl => by rw [rowK_inj I hl hx]; exact ex⟩, ⟨⟨w1, ?_⟩, (t1 _ _ s1').at fun o z => (sb.2 it (Ne.symm ne)).trans z⟩, fun b hb => ?_⟩
    · rw [show ((i + 1 : Nat) : Int) = (i : Int) + 1 by omega]; exact he'
    · have lt : b < s.heap.objs.size := by
        obtain ⟨_, e4, _⟩ := q2.obj
        simp only [List.mem_cons, List.not_mem_nil, or_false] at hb
        rcases hb with rfl | rfl
        · exact el
        · exact Heap.lt_size e4
      rw [upd_ne (Nat.ne_of_lt lt)]
      exact (hf b hb).1
  done := by
    intro X hP hw hK hc i pins s σ H E I hf st hg
    subst hP hw hK
    obtain ⟨⟨old, q1⟩, q2⟩ := st
    obtain ⟨xs, hx, hi⟩ := hg
    obtain ⟨fp, Pp, S1, D1, s1, t1, p1, m1, c1⟩ := draws_of (A := X.A.in1) I (I.ok.hd hc) r hx q2 fun a z => (far a z).2
    subst hi
    obtain ⟨f0, f1, f2, f3, f4, f5⟩ := hf it (by simp)
    exact PySem.wpAny_pyNext_enum_endD D1 q1 s1 fun h' eb => ⟨rfl, I.turned (t' := s.toks) (fun b o hb z => eb b o hb z) f0 f1 f3 f4 f5⟩
  self := fun A i s Q E st h => let ⟨⟨_, he⟩, _⟩ := st; wpAny_pyIter_enum he h
end VL
namespace VL
open PySem PySem.Spec L2
open PyProof.Rows hiding St
abbrev freshEnum (h : Heap) : Obj := { cls := .type "enumerate", data := .fields #[.none, .bool false, .ref h.objs.size, rawInt 0, .none, .none] }
theorem enum_made {v : Value} {o : Obj} {Hb : Heap → Prop} (B : PySem.Begins v o Hb) :
    Meets (Builtin.«enumerate.__new__» ⟨[.type "enumerate", v], []⟩) (fun _ R s => Hb s.heap ∧ R (.ok (.ret (.ref (s.heap.push o).objs.size))) { s with heap := (s.heap.push o).push (freshEnum s.heap) }) :=
  .of_wp fun prog w A R s h => by
    obtain ⟨hp, gs, dr, tk, os⟩ := s; obtain ⟨hb, h⟩ := h
    have sub := PySem.sub_enumerate
    have go : ∀ {A' : Around} {E : Value → Shared → Prop} {Qs : Value → Shared → Prop}, Qs (.ref hp.objs.size) ⟨hp.push o, gs, dr, tk, os⟩ → wpAny (model prog w) A' (pyIter v) Qs E ⟨hp, gs, dr, tk, os⟩ := fun q => B.iter prog w _ _ ⟨hp, gs, dr, tk, os⟩ _ hb q
    wp_walk using go
    refine wpAny_stack_any fun st => wpAny_pure ?_
    split
    · rename_i c _ _ _ _ _
      cases (c == Value.type "enumerate") <;> (wp_walk using go) <;> exact ⟨_, rfl, h⟩
    · wp_walk using go
      exact ⟨_, rfl, h⟩
end VL
namespace VL
open PySem PySem.Spec L2
open PyProof.Rows hiding St
section
variable {P : Program} {w : World} {A : Around} {E : Value → Shared → Prop} {s : Shared}
theorem enum_called {v : Value} {o : Obj} {Hb : Heap → Prop} {Qs : Value → Shared → Prop} (B : PySem.Begins v o Hb) (hb : Hb s.heap)
    (q : ∀ h', IsEnum h' (s.heap.objs.size + 1) s.heap.objs.size 0 .none → h'.get? s.heap.objs.size = some o → (∀ b ob, s.heap.get? b = some ob → h'.get? b = some ob) → Qs (.ref (s.heap.objs.size + 1)) { s with heap := h' }) :
    wpAny (model P w) A (call (.type "enumerate") [v]) Qs E s := by
  refine callType_new F.called_enumerate (by decide) (F.typeCall_enumerate_1 _) (F.newCall_enumerate_1 _) (fun obj => F.args_object_init_2 obj _) F.entry_enumerate_new (enum_made B) ⟨hb, ?_⟩
  have sz : (s.heap.push o).objs.size = s.heap.objs.size + 1 := Heap.size_push ..
  have at_ : IsEnum ((s.heap.push o).push (freshEnum s.heap)) (s.heap.objs.size + 1) s.heap.objs.size 0 .none := by
    have := Heap.get?_push_size (s.heap.push o) (o := freshEnum s.heap) rfl
    rw [sz] at this; exact this
  show _ ∧ _
  rw [sz]
  exact ⟨⟨_, at_, rfl⟩, q _ at_ (Heap.get?_push_of_some _ (Heap.get?_push_size _ B.free)) fun b ob z => Heap.get?_push_of_some _ (Heap.get?_push_of_some _ z)⟩
end
section
variable {X : Cx}
def iE (K : PySem.W.Frag) (ta : TA) : TI := fun σ H R => ta σ H fun vs H1 => ∃ v xs k, vs = [v] ∧ rowK k K H1 v xs ∧ R (ItE K k v) H1
theorem pi_e {e : Expr} {ta : TA} {p pos tpos : Pos} {elts : List Expr} {kk : Nat} (hg : Gl X "enumerate") (hm : X.mg "enumerate" = none) (ha : PA X [e] ta) (hs : starEach [e] X.env = [(false, eval e X.env)] := by rfl) :
    PI X (.Tuple elts kk tpos) (.Call (.Name "enumerate" p) [e] [] pos) (iE X.K ta) := by
  refine ⟨fun pins s σ H R I h => ?_⟩
  refine Call_ (ld_blt I hg hm boot_enumerate (PyProof.Rows.callWith_type1 (thn (ha.run pos pins s σ H _ I h) fun us s1 ⟨vs, H1, I1, rr, q1⟩ => ?_) hs rfl))
  obtain ⟨v, xs, k, rfl, w1, q⟩ := q1
  cases rr with
  | @cons _ u1 _ us1 r1 rr =>
    cases rr
    obtain ⟨o1, B1, b1, p1, t1, l1⟩ := begins_of I1 r1 w1
    refine enum_called b1 p1 fun h' z1 z2 hk => wpAny_pyIter_enum z1 ?_
    have I2 : L2.Inv X pins σ H1 { s1 with heap := h' } := I1.kept (t' := s1.toks) hk
    refine ⟨s1.heap.objs.size + 1, [s1.heap.objs.size + 1, s1.heap.objs.size], _, _, H1, rfl, I2, turn_e (Nat.succ_ne_self _) (fun a z => ⟨Nat.ne_of_lt (Nat.lt_succ_of_lt (l1 a z)), Nat.ne_of_lt (l1 a z)⟩) r1, ⟨⟨.none, z1⟩, t1 _ _ z2⟩, fun b hb => ?_, q⟩
    have le : s1.heap.objs.size ≤ b := by
      simp only [List.mem_cons, List.not_mem_nil, or_false] at hb
      rcases hb with z | z
      · rw [z]; exact Nat.le_add_right _ _
      · rw [z]; exact Nat.le_refl _
    exact I1.fpOk le (I1.hok.fresh le)
def enumD (ds : List D) : List D := (ds.zipIdx).map fun p => .tup [.int (p.2 : Nat), p.1]
theorem enumD_get {ds : List D} {i : Nat} {d : D} (h : ds[i]? = some d) : (enumD ds)[i]? = some (.tup [.int (i : Nat), d]) := by
  simp [enumD, h]
def mEnu (m : VE) : VW := fun ρ S Q => m ρ S fun d S1 => match rdW d S1 with
  | some ds => Q (enumD ds) (fun S' => rdW d S' = some ds) S1
  | none => False
theorem mEnu_e {m : VE} {ρ : Sl} {S : Store} {Q : List D → (Store → Prop) → Store → Prop} : mEnu m ρ S Q = m ρ S fun d S1 => match rdW d S1 with
  | some ds => Q (enumD ds) (fun S' => rdW d S' = some ds) S1
  | none => False := rfl
theorem walks_enu {K : PySem.W.Frag} {G1 : Hp} {d : D} {v1 : V} {ds : List D} (r1 : Rp K G1 v1 d) : Walks K G1 (fun S' => rdW d S' = some ds) (ItE K (kindD d) v1) (enumD ds) where
  stop := fun H G S g v k => by
    obtain ⟨xs, w1, l1⟩ := row_of v (r1.mono g) k
    exact ⟨xs, w1, by simp [enumD, l1.length]⟩
  goes := fun i H G S hi g v k => by
    obtain ⟨xs, w1, l1⟩ := row_of v (r1.mono g) k
    have a := l1.length
    simp only [enumD, List.length_map, List.length_zipIdx] at hi
    exact ⟨xs, xs[i]'(by omega), w1, by simp⟩
  yld := fun i q H x H' G S hd g v k y => by
    obtain ⟨T, x', rfl, hT, rfl, f1⟩ := y
    obtain ⟨xs, w1, l1⟩ := row_of v (r1.mono g) k
    obtain ⟨d', e1, rd⟩ := l1.getV (f1 xs w1)
    rw [enumD_get e1] at hd
    cases hd
    have a3 := v.froze (o := .tup [.int (i : Nat), x']) hT
    exact ⟨_, a3, .tup (SqT.of upd_same) (.cons (.int _) (.cons (rd.mono a3.gg) .nil))⟩
theorem i_enu {e : Expr} {m : VE} {p pos tpos : Pos} {elts : List Expr} {kk : Nat} (hg : Gl X "enumerate") (hm : X.mg "enumerate" = none) (h1 : PE X e (LE X.K m)) (hs : starEach [e] X.env = [(false, eval e X.env)] := by rfl) (hs2 : starEach [e] X.env = (false, eval e X.env) :: starEach [] X.env := by rfl) :
    PI X (.Tuple elts kk tpos) (.Call (.Name "enumerate" p) [e] [] pos) (LI X.K (mEnu m)) := by
  refine PI.imp (pi_e hg hm (pa_cons h1 pa_nil hs2) hs) fun σ H R ⟨ρ, S, G, Q, vw, re, hm, k⟩ => ?_
  refine ⟨ρ, S, G, _, vw, re, hm, fun d S1 v1 H1 G1 a1 r1 h1 => ?_⟩
  split at h1
  · rename_i ds e1
    obtain ⟨xs, w1, l1⟩ := row_of a1.vw r1 e1
    exact ⟨v1, xs, _, rfl, w1, k _ _ S1 H1 G1 _ a1 (walks_enu r1) h1⟩
  · exact h1.elim
end
end VL
set_option maxHeartbeats 2000000
namespace VL
open PySem PySem.Spec L2
open PyProof.Rows hiding St
/-- what a comprehension does with an item -/
def emitOf (e : Expr) (acc : Value) (env : Env) : Sem Unit := match e with
  | .ListComp elt _ _ _ => eval elt env >>= fun v => call (.builtin "list.append") [acc, v] >>= fun _ => pure ()
  | .SetComp elt _ _ _ => eval elt env >>= fun v => standAt elt.pos >>= fun _ => call (.builtin "set.add") [acc, v] >>= fun _ => pure ()
  | .DictComp k v _ _ _ => match acc with
    | .ref d => eval k env >>= fun kv => holding [kv] (eval v env) >>= fun vv => standAt { k.pos with endLine := v.pos.endLine, endCol := v.pos.endCol } >>= fun _ => holding [kv, vv] (dictSet d kv vv)
    | _ => unsupported "-"
  | _ => pure ()
def isComp : Expr → Bool
  | .ListComp .. | .SetComp .. | .DictComp .. => true
  | _ => false
def nestOf (e : Expr) (k : Nat) (i : Expr) (acc : Value) (env : Env) (more : Sem PySem.Fin) : Sem PySem.Fin :=
  eval i env >>= fun x => standAt i.pos >>= fun _ => foldedSetIterable i env x >>= fun x => holding [x] (pyIter x) >>= fun it => runOwn (.compStart e (k + 1) it acc env) env >>= fun _ => more
def oneTurn (t i : Expr) (ifs : List Expr) (it : Value) (env : Env) (inner : Sem PySem.Fin → Sem PySem.Fin) (more : Sem PySem.Fin) : Sem PySem.Fin := do
  standAt i.pos
  match ← pyNext it with
    | none => pure (.done .next)
    | some v =>
      letOwnedTupleGo t it v
      assign t env v
      let mut ok := true
      for c in ifs do
        if ok then ok ← isTrue c env (eval c env)
      if ok then inner more else more
theorem turn_leaf {e : Expr} {k : Nat} {t i : Expr} {ifs : List Expr} {it : Value} {d : Addr} {env : Env} (he : isComp e = true) (hk : (clausesOf e)[k]? = some ⟨t, i, ifs, 0⟩) (hk1 : (clausesOf e)[k + 1]? = none) :
    compTurn e k it (.ref d) env = oneTurn t i ifs it env (fun m => emitOf e (.ref d) env >>= fun _ => m) (again (.compLoop e k it (.ref d) env)) := by
  cases e <;> try (exact absurd he Bool.false_ne_true)
  all_goals
    simp only [clausesOf] at hk hk1
    unfold compTurn oneTurn emitOf
    simp only [hk, hk1]
    rfl
theorem turn_nest {e : Expr} {k : Nat} {t i t1 i1 : Expr} {ifs ifs1 : List Expr} {it acc : Value} {env : Env} (he : isComp e = true) (hk : (clausesOf e)[k]? = some ⟨t, i, ifs, 0⟩) (hk1 : (clausesOf e)[k + 1]? = some ⟨t1, i1, ifs1, 0⟩) :
    compTurn e k it acc env = oneTurn t i ifs it env (nestOf e k i1 acc env) (again (.compLoop e k it acc env)) := by
  cases e <;> try (exact absurd he Bool.false_ne_true)
  all_goals
    simp only [clausesOf] at hk hk1
    unfold compTurn oneTurn nestOf
    simp only [hk, hk1]
    rfl
section
variable {prog : Program} {w : World} {A : Around} {R : Result → Shared → Prop} {s : Shared} {e t i : Expr} {ifs : List Expr} {k : Nat} {it acc : Value} {env : Env} {inner : Sem PySem.Fin → Sem PySem.Fin}
/-- a clause's loop by an invariant that falls -/
theorem loop_by (he : isComp e = true) (ht : compTurn e k it acc env = oneTurn t i ifs it env inner (again (.compLoop e k it acc env))) (I : Nat → Shared → Prop)
    (turn : ∀ n s, I n s → wpAny (model prog w) A (pyNext it) (fun r s1 => match r with
      | none => R (.ok .next) s1
      | some v => wpAny (model prog w) A (letOwnedTupleGo t it v) (fun _ s2 => wpAny (model prog w) A (assign t env v) (fun _ s3 =>
        wpAny (model prog w) A (forIn ifs true fun c r => if r = true then isTrue c env (eval c env) >>= fun ok => pure (ForInStep.yield ok) else pure (ForInStep.yield r)) (fun ok s4 =>
          if ok = true then ∀ (more : Sem PySem.Fin) (Q : PySem.Fin → Shared → Prop) (E : Value → Shared → Prop), (∀ s5 m, m < n → I m s5 → wpAny (model prog w) A more Q E s5) → wpAny (model prog w) A (inner more) Q E s4
          else ∃ m, m < n ∧ I m s4) (fun _ _ => False) s3) (fun _ _ => False) s2) (fun _ _ => False) s1) (fun _ _ => False) s)
    (n : Nat) (h : I n s) : codeAny (model prog w) A (.compLoop e k it acc env) R s := by
  refine codeAny_loop rfl I (fun n s hI => ?_) n h
  have hu : A.under (.compLoop e k it acc env) = A := by cases e <;> first | rfl | exact absurd he Bool.false_ne_true
  have hd : (model prog w).den (.compLoop e k it acc env) = (compTurn e k it acc env).onRaise (fun x => do noteFrame x env; theTreesLotGoes x) := by cases e <;> first | rfl | exact absurd he Bool.false_ne_true
  rw [hu, hd]
  refine wpAny_noted ?_
  rw [ht]
  unfold oneTurn
  refine wpAny_bind (wpAny_standAt (wpAny_bind (thnF (turn n s hI) fun r s1 h1 => ?_)))
  cases r with
  | none => exact wpAny_pure h1
  | some v =>
    refine wpAny_bind (thnF h1 fun _ s2 h2 => wpAny_bind (thnF h2 fun _ s3 h3 => wpAny_bind (thnF h3 fun ok s4 h4 => ?_)))
    cases ok with
    | false => exact wpAny_pure ⟨rfl, h4⟩
    | true => exact h4 _ _ _ fun s5 m hm h5 => wpAny_pure ⟨rfl, m, hm, h5⟩
/-- a clause's start -/
theorem start_by {t i : Expr} {ifs : List Expr} (he : isComp e = true) (hk : (clausesOf e)[k]? = some ⟨t, i, ifs, 0⟩) (h0 : codeAny (model prog w) A (.compLoop e k it acc env) R s)
    (h : wpAny (model prog w) A (pyIter it) (fun it' s' => codeAny (model prog w) A (.compLoop e k it' acc env) R s') (notedBy (model prog w) A env fun x s' => R (.error x) s') s) :
    codeAny (model prog w) A (.compStart e k it acc env) R s := by
  refine codeAny_of_tree ?_
  have hu : A.under (.compStart e k it acc env) = A := by cases e <;> first | rfl | exact absurd he Bool.false_ne_true
  have hd : (model prog w).den (.compStart e k it acc env) = (compStart e k it acc env).onRaise (fun x => do noteFrame x env; standAt theWindowsPlace) := by cases e <;> first | rfl | exact absurd he Bool.false_ne_true
  rw [hu, hd]
  refine wpAny_notedAt ?_
  unfold compStart
  simp only [hk, Option.elim, show ((0 : Nat) != 0) = false from rfl, Bool.false_eq_true, if_false]
  show wpAny _ _ (ask >>= _) _ _ s
  refine wpAny_bind (wpAny_askSetting (wpAny_ite ?_))
  split
  · first
      | exact wpAny_bind (wpAny_pure (wpAny_pure (And.intro rfl h0)))
      | exact wpAny_pure (And.intro rfl h0)
  · exact wpAny_bind (wpAny_rule (wpAny_bind (wpAny_standAt (wpAny_bind (wpAny_mono h (fun it' s' h' => wpAny_pure (And.intro rfl h')) fun _ _ x => x)))))
end
/-- what an item leads to, in the block's context -/
abbrev TB := L2.St → Hp → (Hp → Prop) → Prop
structure PIn (X : Cx) (inner : Sem PySem.Fin → Sem PySem.Fin) (vs : List Nat) (t : TB) : Prop where
  run : ∀ (pins : List (Addr × Obj)) (s : Shared) (σ : L2.St) (H : Hp) (Q : Hp → Prop), Inv X pins σ H s → t σ H Q → ∀ (more : Sem PySem.Fin) (Qf : PySem.Fin → Shared → Prop) (Ef : Value → Shared → Prop),
    (∀ s' H', Inv X pins (L2.wipe σ vs) H' s' → Q H' → wpAny (model X.prog X.w) X.A more Qf Ef s') → wpAny (model X.prog X.w) X.A (inner more) Qf Ef s
def turnsAsk (J : It) (g : TG) (tt : TT) (tb : TB) (vs : List Nat) (σ : L2.St) (Q : Hp → Prop) (W : Nat → Nat → Hp → Prop) : Prop := ∀ i m H, W i m H →
  (J.stop i H ∧ Q H) ∨ (J.go i H ∧ ∃ Nx : Hp → Prop, (∀ H', Nx H' → ∃ m', m' < m ∧ W (i + 1) m' H') ∧ ∀ x H', J.yld i H x H' → g x (L2.wipe σ vs) H' fun σ2 H2 => L2.wipe σ2 vs = L2.wipe σ vs ∧ tt σ2 H2 fun b H3 =>
    if b = true then tb σ2 H3 Nx else Nx H3)
def tNest (wi : TI) (g : TG) (tt : TT) (tb : TB) (vs : List Nat) : TB := fun σ H Q => wi σ H fun J H1 => ∃ W : Nat → Nat → Hp → Prop, (∃ m, W 0 m H1) ∧ turnsAsk J g tt tb vs σ Q W
section
variable {X : Cx} {e tg iter : Expr} {ifs : List Expr} {k : Nat} {d : Addr} {inner : Sem PySem.Fin → Sem PySem.Fin} {wi : TI} {g : TG} {tt : TT} {tb : TB} {vs vs1 : List Nat}
theorem thnX {α : Type} {t : Sem α} {Q Q' : α → Shared → Prop} {M : Model} {A : Around} {E E' : Value → Shared → Prop} {s : Shared} (hx : ∀ u s, ¬ E u s) (h : wpAny M A t Q E s) (hQ : ∀ a s, Q a s → Q' a s) : wpAny M A t Q' E' s := wpAny_mono h hQ fun u s x => (hx u s x).elim
theorem wipe_in {σ σ2 : L2.St} (h : L2.wipe σ2 vs = L2.wipe σ vs) (hv : ∀ i ∈ vs1, i ∈ vs) {j : Nat} {v : V} (e : (L2.wipe σ vs)[j]? = some (some v)) : (L2.wipe σ2 vs1)[j]? = some (some v) := by
  rw [← h] at e
  obtain ⟨e1, e2⟩ := wipe_some e
  rw [wipe_get, if_neg fun z => e2 (hv j z.1)]
  exact e1
/-- the loop over an iterator whose objects are fp -/
theorem loop_run {R : Result → Shared → Prop} {J : It} {fp : List Addr} {it : Addr} {tn : Nat → Heap → Prop} {pins : List (Addr × Obj)} {σ : L2.St} {H : Hp} {s : Shared} {Q : Hp → Prop} {W : Nat → Nat → Hp → Prop} {m : Nat} (he : isComp e = true) (hc : X.calm = true) (hx : ∀ u s, ¬ X.xe u s)
    (hturn : compTurn e k (.ref it) (.ref d) X.env = oneTurn tg iter ifs (.ref it) X.env inner (again (.compLoop e k (.ref it) (.ref d) X.env)))
    (hg : PG X tg g) (ht : PTs X ifs tt) (hb : PIn X inner vs1 tb) (hv : ∀ i ∈ vs1, i ∈ vs) (T : Turn X.prog X.w X.K tg J fp it tn) (hfp : ∀ H', (∀ b ∈ fp, H' b = none) → ∀ b ∈ fp, FpOk X pins H' b)
    (I : Inv X pins (L2.wipe σ vs) H s) (st : tn 0 s.heap) (nf : ∀ b ∈ fp, H b = none) (w0 : W 0 m H) (asks : turnsAsk J g tt tb vs σ Q W)
    (hR : ∀ s' H', Inv X pins (L2.wipe σ vs) H' s' → (∀ b ∈ fp, H' b = none) → Q H' → R (.ok .next) s') : codeAny (model X.prog X.w) X.A (.compLoop e k (.ref it) (.ref d) X.env) R s := by
  refine loop_by he hturn (fun n s' => ∃ i H', Inv X pins (L2.wipe σ vs) H' s' ∧ tn i s'.heap ∧ (∀ b ∈ fp, H' b = none) ∧ W i n H') ?_ m ⟨0, H, I, st, nf, w0⟩
  rintro n s1 ⟨i, H1, I1, st1, n1, w1⟩
  rcases asks i n H1 w1 with ⟨stop, q⟩ | ⟨go, Nx, hNx, step⟩
  · refine thnF (T.done X rfl rfl rfl hc i pins s1 _ H1 (fun _ _ => False) I1 (hfp H1 n1) st1 stop) fun r s2 ⟨hr, I2⟩ => ?_
    subst hr
    exact hR s2 H1 I2 n1 q
  · refine thnF (T.item X rfl rfl rfl hc i pins s1 _ H1 (fun _ _ => False) I1 (hfp H1 n1) st1 go) fun r s2 ⟨u, hr, h2⟩ => ?_
    subst hr
    refine thnF h2 fun _ s3 ⟨x, H3, I3, r3, y3, st3, n3⟩ => ?_
    have J3 := I3.pinned (hfp H3 n3) (T.obj _ _ st3)
    refine thnX hx (hg.run _ s3 _ H3 x u _ J3 r3 (step x H3 y3)) fun _ s4 ⟨σ4, H4, I4, e4, q4⟩ => ?_
    refine thnX hx (ht.run _ s4 σ4 H4 _ I4 q4) fun b s5 ⟨H5, I5, q5⟩ => ?_
    have lens : (L2.wipe σ vs).length = σ4.length := by rw [← e4, wipe_length]
    -- the turn's end
    have fin : ∀ {σ9 : L2.St} {s' : Shared} {H' : Hp}, Inv X (pins ++ pinsAt fp s3.heap) σ9 H' s' → (L2.wipe σ vs).length = σ9.length → (∀ (j : Nat) v, (L2.wipe σ vs)[j]? = some (some v) → σ9[j]? = some (some v)) → Nx H' →
        ∃ m', m' < n ∧ ∃ i H', Inv X pins (L2.wipe σ vs) H' s' ∧ tn i s'.heap ∧ (∀ b ∈ fp, H' b = none) ∧ W i m' H' := fun {σ9 s' H'} I' hl hk nx => by
      obtain ⟨m', hm, w'⟩ := hNx H' nx
      have pin' : ∀ b ∈ fp, ∀ o, s3.heap.get? b = some o → s'.heap.get? b = some o ∧ H' b = none := fun b hb o e =>
        let z := I'.pin (b, o) (List.mem_append_right _ (List.mem_append_right _ (mem_pinsAt hb e)))
        ⟨z.1, z.2.1⟩
      refine ⟨m', hm, i + 1, H', (I'.unpinned (pins := pins)).weak hl hk, T.keep _ _ _ st3 fun b hb o e => (pin' b hb o e).1, fun b hb => ?_, w'⟩
      obtain ⟨o, e, _⟩ := T.obj _ _ st3 b hb
      exact (pin' b hb o e).2
    cases b with
    | false =>
      simp only [Bool.false_eq_true, if_false] at q5 ⊢
      exact fin I5 lens (fun j v e => by rw [← e4] at e; exact (wipe_some e).1) q5
    | true =>
      simp only [if_true] at q5 ⊢
      intro more Q' E' hmore
      refine hb.run _ s5 σ4 H5 _ I5 q5 more Q' E' fun s' H' I' nx => ?_
      obtain ⟨m', hm, i', H'', z⟩ := fin I' (lens.trans (wipe_length σ4 vs1).symm) (fun j v e => wipe_in e4 hv e) nx
      exact hmore s' m' hm ⟨i', H'', z⟩
/-- a clause within another -/
theorem in_nest (he : isComp e = true) (hx : ∀ u s, ¬ X.xe u s) (hc : X.calm = true) (hi : PI X tg iter wi) (hg : PG X tg g) (ht : PTs X ifs tt) (hb : PIn X inner vs1 tb) (hv : ∀ i ∈ vs1, i ∈ vs) (hk : (clausesOf e)[k + 1]? = some ⟨tg, iter, ifs, 0⟩)
    (hturn : ∀ it, compTurn e (k + 1) it (.ref d) X.env = oneTurn tg iter ifs it X.env inner (again (.compLoop e (k + 1) it (.ref d) X.env))) (hs : ∀ x, foldedSetIterable iter X.env x = pure x) :
    PIn X (nestOf e k iter (.ref d) X.env) vs (tNest wi g tt tb vs) := by
  refine ⟨fun pins s σ H Q I h more Qf Ef hmore => ?_⟩
  unfold nestOf
  refine wpAny_bind (thnX hx (hi.run pins s σ H _ I h) fun x s1 h1 => wpAny_bind (wpAny_standAt (wpAny_bind (wpAny_of_eq (hs x) (wpAny_bind (wpAny_holding (thnX hx h1 fun itv s2 h2 => ?_)))))))
  obtain ⟨it, fp, tn, J, H2, e2, I2, T, st2, f2, W, ⟨m, w0⟩, asks⟩ := h2
  subst e2
  refine wpAny_bind (wpAny_runOwn ?_)
  rw [Around.mark_none]
  have loop : codeAny (model X.prog X.w) X.A (.compLoop e (k + 1) (.ref it) (.ref d) X.env) (fun r s' => match r with
      | .ok _ => wpAny (model X.prog X.w) X.A more Qf Ef s'
      | .error _ => False) s2 := by
    refine loop_run (J := J) (fp := fp) (tn := tn) (W := W) (m := m) he hc hx (hturn (.ref it)) hg ht hb hv T (fun H' hn b hb => ⟨hn b hb, (f2 b hb).2⟩) (I2.weak (wipe_length _ _) fun j v e => (wipe_some e).1) st2 (fun b hb => (f2 b hb).1) w0 asks fun s' H' I' _ q => hmore s' H' I' q
  refine codeAny_mono (start_by he hk loop (T.self X.A 0 _ _ _ st2 loop)) fun r s' hr => ?_
  cases r with
  | ok f => exact hr
  | error u => exact hr.elim
end
/-- a new thing that a comprehension fills -/
structure PAcc (X : Cx) (new : Sem Value) (o : Addr → HO) : Prop where
  run : ∀ (pins : List (Addr × Obj)) (s : Shared) (σ : L2.St) (H : Hp) (Q : Value → Shared → Prop), Inv X pins σ H s →
    (∀ D s', H D = none → s.heap.objs.size ≤ D → s.heap.objs.size ≤ s'.heap.objs.size → (∀ b u, s.heap.get? b = some u → s'.heap.get? b = some u) → Inv X pins σ (upd H D (o D)) s' → Q (.ref D) s') → wpAny (model X.prog X.w) X.A new Q X.xe s
section
variable {X : Cx}
theorem acc_list : PAcc X (newList []) (fun _ => .lst []) := ⟨fun pins s σ H Q I h => by
  refine wpAny_newObj_type (h s.heap.objs.size _ (I.hok.fresh (Nat.le_refl _)) (Nat.le_refl _) (by rw [Heap.size_push]; exact Nat.le_succ _) (fun b u e => Heap.get?_push_of_some _ e) (I.laid (t' := s.toks) (fun b o e => Heap.get?_push_of_some _ e) (Nat.le_refl _) ⟨Nat.zero_le _, [], 0, .nil, Heap.get?_push_size _ rfl⟩)) (by show 0 ≤ sizeLine; decide)⟩
def tComp (wi : TI) (g : TG) (tt : TT) (tb : Addr → TB) (o : Addr → HO) (vs : List Nat) : TE := fun σ H Q => wi σ H fun J H1 => ∀ D, H1 D = none → ∃ W : Nat → Nat → Hp → Prop, (∃ m, W 0 m (upd H1 D (o D))) ∧ turnsAsk J g tt (tb D) vs σ (Q (.ref D)) W
/-- a comprehension, whatever it makes, however many clauses -/
theorem comp_core {pins : List (Addr × Obj)} {s : Shared} {σ : L2.St} {H : Hp} {Q : VK} {e tg iter : Expr} {ifs : List Expr} {gs : List Comprehension} {scope : Scope} {own : List (Str × Nat)} {vs1 : List Nat} {pos' : Pos} {wi : TI} {g : TG} {tt : TT} {tb : Addr → TB} {use : Option (Value → Sem Unit)} {Qf : Value → Shared → Prop} {new : Sem Value} {o : Addr → HO} {inner : Addr → Env → Sem PySem.Fin → Sem PySem.Fin}
    (he : isComp e = true) (hcl : clausesOf e = ⟨tg, iter, ifs, 0⟩ :: gs) (hnew : PAcc X new o) (hturn : ∀ it d env, compTurn e 0 it (.ref d) env = oneTurn tg iter ifs it env (inner d env) (again (.compLoop e 0 it (.ref d) env)))
    (hc : X.calm = true) (hN : X.N.Nodup) (I : Inv X pins σ H s) (hi : PI X tg iter wi) (ok : BlkOk X.N X.env.scope scope own) (hv : ∀ i ∈ vs1, i ∈ own.map (·.2))
    (hg : ∀ (s : Shared) (H : Hp) (C : Addr) (cl : List (Str × Addr)) (fp : List Addr), PG (X.blk s H scope (compEnvC scope cl C X.env) fp) tg g) (ht : ∀ (s : Shared) (H : Hp) (C : Addr) (cl : List (Str × Addr)) (fp : List Addr), PTs (X.blk s H scope (compEnvC scope cl C X.env) fp) ifs tt)
    (hb : ∀ (d : Addr) (s : Shared) (H : Hp) (C : Addr) (cl : List (Str × Addr)) (fp : List Addr), PIn (X.blk s H scope (compEnvC scope cl C X.env) fp) (inner d (compEnvC scope cl C X.env)) vs1 (tb d)) (hs : ∀ x, foldedSetIterable iter X.env x = pure x)
    (h : tComp wi g tt tb o (own.map (·.2)) σ H Q)
    (hRR : ∀ D C s' m H', Inv X pins σ H' s' → Q (.ref D) H' → s'.heap.Ns C m → FpOk X pins H' C → compPost (model X.prog X.w) X.A X.xe use Qf (.ref D) C (.ok .next) s') :
    wpAny (model X.prog X.w) X.A (comprehension e scope X.env pos' new false (eval iter X.env) use) Qf X.xe s := by
  have hfree : ∀ y ∈ scope.names, y.2 = .free → ∃ c, X.env.cells.lookup y.1 = some c := fun y hy e => by
    rcases ok.free y hy e with k | k
    · exact I.ok.has _ (.inl k)
    · exact I.ok.has _ (.inr k)
  refine wpAny_comprehension_free (use := use) hcl hs (closure_ok hfree) ok.kind (fun y hy e => by rw [ok.uniq y hy, e]) (thn (hi.run pins s σ H _ I h) fun xv s1 hx => thn hx fun itv s2 h2 => ?_)
  obtain ⟨it, fp, tn, J, H2, e2, I2, T, st2, f2, q⟩ := h2
  subst e2
  refine hnew.run pins s2 σ H2 _ I2 fun D s3 hDn hD1 hD2 kp3 I3 => newEnv_comp ?_
  obtain ⟨W, ⟨m0, w0⟩, asks⟩ := q D hDn
  have sz : ∀ b ∈ fp, b < s2.heap.objs.size := fun b hb => let ⟨_, e, _⟩ := T.obj _ _ st2 b hb; Heap.lt_size e
  have f3 : ∀ b ∈ fp, FpOk X pins (upd H2 D (o D)) b ∧ b < s3.heap.objs.size := fun b hb =>
    ⟨⟨by rw [upd_ne (Nat.ne_of_lt (Nat.lt_of_lt_of_le (sz b hb) hD1))]; exact (f2 b hb).1, (f2 b hb).2⟩, Nat.lt_of_lt_of_le (sz b hb) hD2⟩
  have st3 : tn 0 s3.heap := T.keep _ _ _ st2 fun b _ u e => kp3 b u e
  have I4 := block_start I3 ok hN f3
  have pg := hg s3 (upd H2 D (o D)) s3.heap.objs.size (cellsFrom (s3.heap.objs.size + 1) scope.names (cloFrom X.env.cells scope.names [])) fp
  have pt := ht s3 (upd H2 D (o D)) s3.heap.objs.size (cellsFrom (s3.heap.objs.size + 1) scope.names (cloFrom X.env.cells scope.names [])) fp
  have pb := hb D s3 (upd H2 D (o D)) s3.heap.objs.size (cellsFrom (s3.heap.objs.size + 1) scope.names (cloFrom X.env.cells scope.names [])) fp
  show codeAny _ _ (.compStart e 0 (.ref it) (.ref D) (compEnvC scope (cellsFrom (s3.heap.objs.size + 1) scope.names (cloFrom X.env.cells scope.names [])) s3.heap.objs.size X.env)) (compPost (model X.prog X.w) X.A X.xe use Qf (.ref D) s3.heap.objs.size) { s3 with heap := pushCells (s3.heap.push { cls := .type "dict", data := .dict #[] }) scope.names }
  have nfp : ∀ b ∈ fp, (upd H2 D (o D)) b = none := fun b hb => (f3 b hb).1.1
  generalize hce : compEnvC scope (cellsFrom (s3.heap.objs.size + 1) scope.names (cloFrom X.env.cells scope.names [])) s3.heap.objs.size X.env = ce at I4 pg pt pb ⊢
  have cL : ce.locals = s3.heap.objs.size := by subst hce; rfl
  generalize hH3 : upd H2 D (o D) = H3 at I3 I4 pg pt pb w0 nfp f3
  have st4 : tn 0 (pushCells (s3.heap.push { cls := .type "dict", data := .dict #[] }) scope.names) := T.keep _ _ _ st3 fun b _ u e => pushCells_keeps _ _ _ _ (Heap.get?_push_of_some _ e)
  have loop : codeAny (model X.prog X.w) X.A (.compLoop e 0 (.ref it) (.ref D) ce) (compPost (model X.prog X.w) X.A X.xe use Qf (.ref D) s3.heap.objs.size) { s3 with heap := pushCells (s3.heap.push { cls := .type "dict", data := .dict #[] }) scope.names } := by
    refine loop_run (X := X.blk s3 H3 scope ce fp) (J := J) (fp := fp) (tn := tn) (W := W) (m := m0) (pins := []) he hc (fun _ _ z => z) (hturn (.ref it) D ce) pg pt pb hv T (fun H' hn b hb => ?_) I4 st4 nfp w0 asks fun s' H' I' n' qq => ?_
    · exact ⟨hn b hb, (I4.ok.exf b hb).1, I4.ok.exfs b hb, .inl hb, fun x c e => (I4.ok.exf b hb).2 x c e, fun p hp => absurd (show p ∈ ([] : List (Addr × Obj)) ++ [] from hp) (by simp)⟩
    · -- back in the def's context
      have I7 : Inv X pins σ H' s' := I3.call' (ch := fp) I'.os I'.base I'.hok I'.bare fun b hb => ⟨(f3 b hb).1.2.2.2.1, (f3 b hb).1.2.1, (f3 b hb).1.2.2.2.2.1, (f3 b hb).1.2.2.2.2.2⟩
      have nC : H' s3.heap.objs.size = none := by
        have z : H' ce.locals = none := I'.free
        rwa [cL] at z
      obtain ⟨m, hn, _⟩ := I'.loc
      have hn : s'.heap.Ns ce.locals m := hn
      rw [cL] at hn
      exact hRR D s3.heap.objs.size s' m H' I7 qq hn (I3.fpOk (Nat.le_refl _) nC)
  exact start_by he (by rw [hcl]; rfl) loop (T.self X.A 0 _ _ _ st4 loop)
end
end VL
set_option maxHeartbeats 2000000
namespace VL
open PySem PySem.Spec L2
open PyProof.Rows hiding St
abbrev VB (A : Type) := Sl → Store → A → (A → Store → Prop) → Prop
section
variable {A : Type} {K : PySem.W.Frag} {rel : Hp → A → HO → Prop}
def LB (K : PySem.W.Frag) (rel : Hp → A → HO → Prop) (d : Addr) (m : VB A) : TB := fun σ H Q' => ∃ (G0 : Hp) (S0 : Store) (H0 : Hp) (ρ : Sl) (S : Store) (G : Hp) (acc : A) (o : HO) (Q : A → Store → Prop), H0 d = none ∧ Aft K G0 S0 H0 S H G ∧ REnv K G σ ρ ∧ H d = some o ∧ rel G acc o ∧ S d = none ∧ G d = none ∧ m ρ S acc Q ∧
  ∀ acc' S' H' G' o', Same G G' → Aft K G0 S0 H0 S' H' G' → H' d = some o' → rel G' acc' o' → S' d = none → G' d = none → Q acc' S' → Q' H'
def turnsV (c : CT) (mt : VT) (mb : VB A) (vs : List Nat) (ds : List D) (kp : Store → Prop) (ρ : Sl) (a0 : A) (S1 : Store) (Qe : A → Store → Prop) : Prop := ∃ I : Nat → A → Store → Prop, I 0 a0 S1 ∧ ∀ i acc S2, I i acc S2 → kp S2 ∧ match ds[i]? with
  | none => Qe acc S2
  | some d => match mCT c d (wipeD ρ vs) with
    | some ρ3 => mt ρ3 S2 fun b S3 => if b = true then mb ρ3 S3 acc (I (i + 1)) else I (i + 1) acc S3
    | none => False
def bNest (c : CT) (mi : VW) (mt : VT) (mb : VB A) (vs : List Nat) : VB A := fun ρ S acc Q => mi ρ S fun ds kp S1 => turnsV c mt mb vs ds kp ρ acc S1 Q
theorem turns_ask {G0 H0 : Hp} {S0 : Store} {σ : L2.St} {ρ : Sl} {S1 : Store} {H1 G1 : Hp} {J : It} {kp : Store → Prop} {ds : List D} {c : CT} {mt : VT} {mb : VB A} {vs : List Nat} {a0 : A} {o : HO} {d : Addr} {Qe : A → Store → Prop} {Q' : Hp → Prop} (hm : ∀ {G G' : Hp} {a : A} {o : HO}, Same G G' → rel G a o → rel G' a o)
    (hw : c.within vs) (hd0 : H0 d = none) (a1 : Aft K G0 S0 H0 S1 H1 G1) (wk : Walks K G1 kp J ds) (re : REnv K G1 σ ρ) (hH : H1 d = some o) (hr : rel G1 a0 o) (hS : S1 d = none) (hG : G1 d = none) (t : turnsV c mt mb vs ds kp ρ a0 S1 Qe)
    (k : ∀ acc' S' H' G' o', Same G1 G' → Aft K G0 S0 H0 S' H' G' → H' d = some o' → rel G' acc' o' → S' d = none → G' d = none → Qe acc' S' → Q' H') :
    ∃ W : Nat → Nat → Hp → Prop, (∃ m, W 0 m H1) ∧ turnsAsk J (gCT K c) (LT K mt) (LB K rel d mb) vs σ Q' W := by
  obtain ⟨I, I0, step⟩ := t
  refine ⟨fun i m H2 => m = ds.length - i ∧ i ≤ ds.length ∧ ∃ acc o2 S2 G2, Same G1 G2 ∧ Aft K G0 S0 H0 S2 H2 G2 ∧ H2 d = some o2 ∧ S2 d = none ∧ G2 d = none ∧ rel G2 acc o2 ∧ I i acc S2, ⟨_, rfl, Nat.zero_le _, a0, o, S1, G1, Same.refl G1, a1, hH, hS, hG, hr, I0⟩, ?_⟩
  rintro i m H2 ⟨rfl, hi, acc, o2, S2, G2, g2, a2, hH2, hS2, hG2, r2, h2⟩
  obtain ⟨hk, st⟩ := step i acc S2 h2
  by_cases hlt : i < ds.length
  · have e : ds[i]? = some ds[i] := by simp
    rw [e] at st
    simp only at st
    split at st
    · rename_i ρ3 eb
      refine .inr ⟨wk.goes i H2 G2 S2 hlt g2 a2.vw hk, fun H' => ∃ acc o' S' G', Same G1 G' ∧ Aft K G0 S0 H0 S' H' G' ∧ H' d = some o' ∧ S' d = none ∧ G' d = none ∧ rel G' acc o' ∧ I (i + 1) acc S', ?_, fun x H3 hy => ?_⟩
      · rintro H' ⟨acc', o', S', G', z⟩
        exact ⟨ds.length - (i + 1), by omega, rfl, hlt, acc', o', S', G', z⟩
      · obtain ⟨G3, a3, rx⟩ := wk.yld i ds[i] H2 x H3 G2 S2 e g2 a2.vw hk hy
        have r0 : REnv K G3 (L2.wipe σ vs) (wipeD ρ vs) := (re.mono (g2.trans a3.gg)).wipe vs
        obtain ⟨σ3, r3, w3, k3⟩ := gCT_ok a3.vw.gh r0 rx eb
        obtain ⟨h3, s3, g3⟩ := a3.fr d _ hS2 hH2
        refine k3 _ ⟨?_, ρ3, S2, G3, _, a3.vw, r3, st, fun b S4 H4 G4 a4 q4 => ?_⟩
        · rw [w3 vs hw]
          exact wipe_eq (wipe_length σ vs) fun j hj => by rw [wipe_get, if_neg (fun z => hj z.1)]
        · obtain ⟨h4, s4, g4⟩ := a4.fr d _ hS2 h3
          have a04 := a2.trans (a3.trans a4)
          have gg4 := g2.trans (a3.gg.trans a4.gg)
          have gd : G4 d = none := by rw [g4, g3]; exact hG2
          have rr := hm (a3.gg.trans a4.gg) r2
          cases b with
          | true => exact ⟨G0, S0, H0, ρ3, S4, G4, acc, o2, _, hd0, a04, r3.mono a4.gg, h4, rr, s4, gd, q4, fun acc' S' H' G' o' g' a' x1 x2 x3 x4 q => ⟨acc', o', S', G', gg4.trans g', a', x1, x3, x4, x2, q⟩⟩
          | false => exact ⟨acc, o2, S4, G4, gg4, a04, h4, s4, gd, rr, q4⟩
    · exact st.elim
  · have ei : i = ds.length := by omega
    subst ei
    rw [List.getElem?_eq_none (Nat.le_refl _)] at st
    exact .inl ⟨wk.stop H2 G2 S2 g2 a2.vw hk, k acc S2 H2 G2 o2 g2 a2 hH2 r2 hS2 hG2 st⟩
theorem lb_nest {c : CT} {mi : VW} {mt : VT} {mb : VB A} {vs : List Nat} {d : Addr} (hm : ∀ {G G' : Hp} {a : A} {o : HO}, Same G G' → rel G a o → rel G' a o) (hw : c.within vs) {σ : L2.St} {H : Hp} {Q' : Hp → Prop}
    (q : LB K rel d (bNest c mi mt mb vs) σ H Q') : tNest (LI K mi) (gCT K c) (LT K mt) (LB K rel d mb) vs σ H Q' := by
  obtain ⟨G0, S0, H0, ρ, S, G, acc, o, Q, hd0, a0, re, hH, hr, hS, hG, hm', k⟩ := q
  refine ⟨ρ, S, G, _, a0.vw, re, hm', fun ds kp S1 H1 G1 J a1 wk t => ?_⟩
  obtain ⟨h1, s1, g1⟩ := a1.fr d _ hS hH
  exact turns_ask hm hw hd0 (a0.trans a1) wk (re.mono a1.gg) h1 (hm a1.gg hr) s1 (g1.trans hG) t fun acc' S' H' G' o' g' a' x1 x2 x3 x4 q => k acc' S' H' G' o' (a1.gg.trans g') a' x1 x2 x3 x4 q
/-- what is made of the filled thing -/
def RecA (K : PySem.W.Frag) (rel : Hp → A → HO → Prop) (R : A → Store → (D → Store → Prop) → Prop) : Prop := ∀ (G : Hp) (S : Store) (H : Hp) (a : Addr) (o : HO) (acc : A) (Q : D → Store → Prop), View K G S H → H a = some o → S a = none → G a = none → rel G acc o → R acc S Q →
  ∃ S' G' d, Q d S' ∧ View K G' S' H ∧ Same G G' ∧ Rp K G' (.ref a) d ∧ ∀ b, b ≠ a → S' b = S b ∧ G' b = G b
def mComp (c : CT) (mi : VW) (mt : VT) (mb : VB A) (vs : List Nat) (a0 : A) (R : A → Store → (D → Store → Prop) → Prop) : VE := fun ρ S Q => mi ρ S fun ds kp S1 => turnsV c mt mb vs ds kp ρ a0 S1 fun acc S2 => R acc S2 Q
theorem le_comp {c : CT} {mi : VW} {mt : VT} {mb : VB A} {vs : List Nat} {a0 : A} {R : A → Store → (D → Store → Prop) → Prop} {o : Addr → HO} (hm : ∀ {G G' : Hp} {a : A} {o : HO}, Same G G' → rel G a o → rel G' a o) (h0 : ∀ G d, rel G a0 (o d)) (hR : RecA K rel R) (hw : c.within vs) (σ : L2.St) (H : Hp) (Q' : VK)
    (q : LE K (mComp c mi mt mb vs a0 R) σ H Q') : tComp (LI K mi) (gCT K c) (LT K mt) (fun d => LB K rel d mb) o vs σ H Q' := by
  obtain ⟨ρ, S, G, Q, vw, re, hm', k⟩ := q
  refine ⟨ρ, S, G, _, vw, re, hm', fun ds kp S1 H1 G1 J a1 wk t L hL => ?_⟩
  have n0 := a1.vw.none hL
  refine turns_ask hm hw hL ((Aft.refl a1.vw).junk hL n0.2 n0.1) wk (re.mono a1.gg) upd_same (h0 _ _) n0.2 n0.1 t fun acc' S' H' G' o' g' a' x1 x2 x3 x4 q => ?_
  obtain ⟨S2, G2, d, qd, v', gg, rd, ot⟩ := hR G' S' H' L o' acc' Q a'.vw x1 x3 x4 x2 q
  refine k d S2 (.ref L) H' G2 ⟨fun b ob hb eb => ?_, (a1.gg.trans g').trans gg, v'⟩ rd qd
  obtain ⟨y1, y2, y3⟩ := a1.fr b ob hb eb
  have hbL : b ≠ L := ne_of_none y1 hL
  obtain ⟨e1, e2, e3⟩ := a'.fr b ob y2 y1
  exact ⟨e1, by rw [(ot b hbL).1]; exact e2, by rw [(ot b hbL).2]; rw [e3]; exact y3⟩
end
def relL (K : PySem.W.Frag) : Hp → List D → HO → Prop := fun G acc o => ∃ xs, o = .lst xs ∧ RpL K G xs acc
theorem relL_mono {K : PySem.W.Frag} {G G' : Hp} {a : List D} {o : HO} (g : Same G G') (h : relL K G a o) : relL K G' a o := let ⟨xs, e, r⟩ := h; ⟨xs, e, r.mono g⟩
def bList (me : VE) : VB (List D) := fun ρ S acc Q => acc.length < sizeLine ∧ me ρ S fun y S' => Q (acc ++ [y]) S'
section
variable {X : Cx}
def tLeafL (te : TE) (d : Addr) : TB := fun σ H Q => te σ H fun y H4 => ∃ acc, H4 d = some (.lst acc) ∧ acc.length < sizeLine ∧ Q (upd H4 d (.lst (acc ++ [y])))
theorem in_list {elt : Expr} {gs : List Comprehension} {sc : Scope} {p : Pos} {te : TE} {d : Addr} (hx : ∀ u s, ¬ X.xe u s) (he : PE X elt te) : PIn X (fun m => emitOf (.ListComp elt gs sc p) (.ref d) X.env >>= fun _ => m) [] (tLeafL te d) := by
  refine ⟨fun pins s σ H Q I h more Qf Ef hmore => ?_⟩
  unfold emitOf
  refine wpAny_bind (wpAny_bind (thnX hx (he.run pins s σ H _ I h) fun v s1 ⟨y, H1, I1, r1, acc, hd, hz, q⟩ => ?_))
  exact wpAny_bind (app_ok I1 hd hz r1 fun s2 I2 => wpAny_pure (hmore s2 _ I2 q))
theorem PIn.imp {inner : Sem PySem.Fin → Sem PySem.Fin} {vs : List Nat} {t t' : TB} (h : PIn X inner vs t) (i : ∀ σ H Q, t' σ H Q → t σ H Q) : PIn X inner vs t' := ⟨fun pins s σ H Q I q => h.run pins s σ H Q I (i σ H Q q)⟩
theorem b_list {elt : Expr} {gs : List Comprehension} {sc : Scope} {p : Pos} {me : VE} {d : Addr} (hx : ∀ u s, ¬ X.xe u s) (he : PE X elt (LE X.K me)) : PIn X (fun m => emitOf (.ListComp elt gs sc p) (.ref d) X.env >>= fun _ => m) [] (LB X.K (relL X.K) d (bList me)) := by
  refine PIn.imp (in_list hx he) fun σ H Q' ⟨G0, S0, H0, ρ, S, G, acc, o, Q, hd0, a0, re, hH, ⟨xs, eo, l⟩, hS, hG, hm, k⟩ => ?_
  subst eo
  refine ⟨ρ, S, G, _, a0.vw, re, hm.2, fun y S1 v H1 G1 a1 r1 q1 => ?_⟩
  obtain ⟨h1, s1, g1⟩ := a1.fr d _ hS hH
  have gd : G1 d = none := g1.trans hG
  exact ⟨xs, h1, by rw [l.length]; exact hm.1, k _ S1 _ G1 _ a1.gg ((a0.trans a1).junk hd0 s1 gd) upd_same ⟨_, rfl, (l.mono a1.gg).append (.cons r1 .nil)⟩ s1 gd q1⟩
theorem recA_frz {K : PySem.W.Frag} : RecA K (relL K) rFrz := fun G S H a o acc Q vw ha hs hg ⟨xs, eo, l⟩ q => by subst eo; exact recR_frz K G S H a xs acc Q vw ha hs hg l q
section
variable {elt tg iter tg1 iter1 tg2 iter2 : Expr} {ifs ifs1 ifs2 : List Expr} {scope : Scope} {own : List (Str × Nat)} {pos : Pos} {c c1 c2 : CT} {mi mi1 mi2 : VW} {mt mt1 mt2 : VT} {me : VE} {vs1 vs2 : List Nat} {R : List D → Store → (D → Store → Prop) → Prop}
theorem v_lc3 (hR : ∀ K, RecA K (relL K) R) (hw : c.within (own.map (·.2))) (hw1 : c1.within vs1) (hw2 : c2.within vs2) (hv : ∀ i ∈ vs1, i ∈ own.map (·.2)) (hv2 : ∀ i ∈ vs2, i ∈ vs1) (hc : X.calm = true) (hN : X.N.Nodup) (ok : BlkOk X.N X.env.scope scope own) (hi : PI X tg iter (LI X.K mi))
    (hg : ∀ (s : Shared) (H : Hp) (C : Addr) (cl : List (Str × Addr)) (fp : List Addr), PG (X.blk s H scope (compEnvC scope cl C X.env) fp) tg (gCT X.K c)) (ht : ∀ (s : Shared) (H : Hp) (C : Addr) (cl : List (Str × Addr)) (fp : List Addr), PTs (X.blk s H scope (compEnvC scope cl C X.env) fp) ifs (LT X.K mt))
    (hi1 : ∀ (s : Shared) (H : Hp) (C : Addr) (cl : List (Str × Addr)) (fp : List Addr), PI (X.blk s H scope (compEnvC scope cl C X.env) fp) tg1 iter1 (LI X.K mi1)) (hg1 : ∀ (s : Shared) (H : Hp) (C : Addr) (cl : List (Str × Addr)) (fp : List Addr), PG (X.blk s H scope (compEnvC scope cl C X.env) fp) tg1 (gCT X.K c1))
    (ht1 : ∀ (s : Shared) (H : Hp) (C : Addr) (cl : List (Str × Addr)) (fp : List Addr), PTs (X.blk s H scope (compEnvC scope cl C X.env) fp) ifs1 (LT X.K mt1))
    (hi2 : ∀ (s : Shared) (H : Hp) (C : Addr) (cl : List (Str × Addr)) (fp : List Addr), PI (X.blk s H scope (compEnvC scope cl C X.env) fp) tg2 iter2 (LI X.K mi2)) (hg2 : ∀ (s : Shared) (H : Hp) (C : Addr) (cl : List (Str × Addr)) (fp : List Addr), PG (X.blk s H scope (compEnvC scope cl C X.env) fp) tg2 (gCT X.K c2))
    (ht2 : ∀ (s : Shared) (H : Hp) (C : Addr) (cl : List (Str × Addr)) (fp : List Addr), PTs (X.blk s H scope (compEnvC scope cl C X.env) fp) ifs2 (LT X.K mt2)) (he : ∀ (s : Shared) (H : Hp) (C : Addr) (cl : List (Str × Addr)) (fp : List Addr), PE (X.blk s H scope (compEnvC scope cl C X.env) fp) elt (LE X.K me))
    (hs : ∀ x, foldedSetIterable iter X.env x = pure x := by intro _; rfl) (hs1 : ∀ env x, foldedSetIterable iter1 env x = pure x := by intro _ _; rfl) (hs2 : ∀ env x, foldedSetIterable iter2 env x = pure x := by intro _ _; rfl) :
    PE X (.ListComp elt [⟨tg, iter, ifs, 0⟩, ⟨tg1, iter1, ifs1, 0⟩, ⟨tg2, iter2, ifs2, 0⟩] scope pos) (LE X.K (mComp c mi mt (bNest c1 mi1 mt1 (bNest c2 mi2 mt2 (bList me) vs2) vs1) (own.map (·.2)) [] R)) := by
  refine PE.imp (t := tComp (LI X.K mi) (gCT X.K c) (LT X.K mt) (fun d => LB X.K (relL X.K) d (bNest c1 mi1 mt1 (bNest c2 mi2 mt2 (bList me) vs2) vs1)) (fun _ => .lst []) (own.map (·.2))) ⟨fun pins s σ H Q I h => ?_⟩ fun σ H Q' q => le_comp (rel := relL X.K) (o := fun _ => .lst []) relL_mono (fun G d => ⟨[], rfl, .nil⟩) (hR _) hw σ H Q' q
  rw [eval_ListComp]
  refine comp_core (vs1 := vs1) (inner := fun d env => nestOf (.ListComp elt [⟨tg, iter, ifs, 0⟩, ⟨tg1, iter1, ifs1, 0⟩, ⟨tg2, iter2, ifs2, 0⟩] scope pos) 0 iter1 (.ref d) env) rfl rfl acc_list (fun it d env => turn_nest rfl rfl rfl) hc hN I hi ok hv hg ht (fun d s H C cl fp => ?_) hs h fun D C s' m H' I' q hn f => ⟨m, hn, fun h'' sb => ?_⟩
  · refine PIn.imp (in_nest (vs1 := vs2) (tb := LB X.K (relL X.K) d (bNest c2 mi2 mt2 (bList me) vs2)) rfl (fun _ _ z => z) hc (hi1 s H C cl fp) (hg1 s H C cl fp) (ht1 s H C cl fp) ?_ hv2 rfl (fun it => turn_nest rfl rfl rfl) (hs1 _)) fun σ H Q' q => lb_nest (K := X.K) (rel := relL X.K) relL_mono hw1 q
    refine PIn.imp (in_nest (vs1 := []) rfl (fun _ _ z => z) hc (hi2 s H C cl fp) (hg2 s H C cl fp) (ht2 s H C cl fp) (b_list (fun _ _ z => z) (he s H C cl fp)) (by simp) rfl (fun it => turn_leaf rfl rfl rfl) (hs2 _)) fun σ H Q' q => lb_nest (K := X.K) (rel := relL X.K) relL_mono hw2 q
  · obtain ⟨f0, f1, f2, f3, f4, f5⟩ := f
    exact ⟨.ref D, H', I'.turned (t' := s'.toks) (fun b o hb e => (sb.2 b hb).trans e) f0 f1 f3 f4 f5, rfl, q⟩
end
end
theorem turns_flat {c : CT} {mt : VT} {mb : VB (List D)} {vs : List Nat} {ds : List D} {kp : Store → Prop} {ρ : Sl} {a0 : List D} {S1 : Store} {Qe : List D → Store → Prop} (f : D → List D) (N : Nat) (hb : a0.length + (ds.flatMap f).length ≤ N) (hk : kp S1)
    (hs : ∀ d ∈ ds, ∀ acc : List D, acc.length + (f d).length ≤ N → ∀ J : List D → Store → Prop, J (acc ++ f d) S1 → match mCT c d (wipeD ρ vs) with
      | some ρ3 => mt ρ3 S1 fun b S3 => if b = true then mb ρ3 S3 acc J else J acc S3
      | none => False) (he : Qe (a0 ++ ds.flatMap f) S1) : turnsV c mt mb vs ds kp ρ a0 S1 Qe := by
  refine ⟨fun i acc S2 => i ≤ ds.length ∧ S2 = S1 ∧ acc = a0 ++ (ds.take i).flatMap f, ⟨Nat.zero_le _, rfl, by simp⟩, ?_⟩
  rintro i acc S2 ⟨hi, rfl, rfl⟩
  refine ⟨hk, ?_⟩
  cases e : ds[i]? with
  | none =>
    have : i = ds.length := by have := List.getElem?_eq_none_iff.mp e; omega
    subst this
    simp only [List.take_length]; exact he
  | some d =>
    have h1 := getE e
    have ed : ds = ds.take i ++ d :: ds.drop (i + 1) := by
      have : ds[i] = d := by rw [List.getElem?_eq_getElem h1] at e; exact Option.some.inj e
      rw [← this, List.getElem_cons_drop, List.take_append_drop]
    have hl : (a0 ++ (ds.take i).flatMap f).length + (f d).length ≤ N := by
      have : (ds.flatMap f).length = ((ds.take i).flatMap f).length + ((f d).length + ((ds.drop (i + 1)).flatMap f).length) := by
        conv => lhs; rw [ed]
        rw [List.flatMap_append, List.flatMap_cons, List.length_append, List.length_append]
      rw [List.length_append]; omega
    have h := hs d (List.mem_of_getElem? e) _ hl (fun acc S' => i + 1 ≤ ds.length ∧ S' = S2 ∧ acc = a0 ++ (ds.take (i + 1)).flatMap f) ⟨h1, rfl, by rw [List.take_succ, e, List.flatMap_append]; simp⟩
    exact h
theorem mComp_e {A : Type} {c : CT} {mi : VW} {mt : VT} {mb : VB A} {vs : List Nat} {a0 : A} {R : A → Store → (D → Store → Prop) → Prop} {ρ : Sl} {S : Store} {Q : D → Store → Prop} : mComp c mi mt mb vs a0 R ρ S Q = mi ρ S fun ds kp S1 => turnsV c mt mb vs ds kp ρ a0 S1 fun acc S2 => R acc S2 Q := rfl
theorem bNest_e {A : Type} {c : CT} {mi : VW} {mt : VT} {mb : VB A} {vs : List Nat} {ρ : Sl} {S : Store} {acc : A} {Q : A → Store → Prop} : bNest c mi mt mb vs ρ S acc Q = mi ρ S fun ds kp S1 => turnsV c mt mb vs ds kp ρ acc S1 Q := rfl
theorem bList_e {me : VE} {ρ : Sl} {S : Store} {acc : List D} {Q : List D → Store → Prop} : bList me ρ S acc Q = (acc.length < sizeLine ∧ me ρ S fun y S' => Q (acc ++ [y]) S') := rfl
end VL
set_option maxHeartbeats 2000000
namespace VL
open PySem PySem.Spec L2
open PyProof.Rows hiding St
mutual
def short : D → Bool
  | .str s => decide (s.length < 1000)
  | .tup ds => decide (ds.length < 1000) && shortL ds
  | .lst ds => decide (ds.length < 1000) && shortL ds
  | _ => true
def shortL : List D → Bool
  | [] => true
  | d :: ds => short d && shortL ds
end
theorem shortL_mem {d : D} : ∀ {ds : List D}, shortL ds = true → d ∈ ds → short d = true
  | e :: ds, h, hd => by
    simp only [shortL, Bool.and_eq_true] at h
    rcases List.mem_cons.mp hd with rfl | hd
    · exact h.1
    · exact shortL_mem h.2 hd
theorem short_tup {ds : List D} (h : short (.tup ds) = true) : ds.length < 1000 ∧ ∀ d ∈ ds, short d = true := by
  simp only [short, Bool.and_eq_true, decide_eq_true_eq] at h
  exact ⟨h.1, fun d hd => shortL_mem h.2 hd⟩
theorem shortL_of : ∀ {ds : List D}, (∀ d ∈ ds, short d = true) → shortL ds = true
  | [], _ => rfl
  | d :: ds, h => by simp only [shortL, h d (by simp), shortL_of (ds := ds) (fun e he => h e (List.mem_cons_of_mem _ he)), Bool.and_self]
theorem short_of {ds : List D} (hl : ds.length < 1000) (h : ∀ d ∈ ds, short d = true) : short (.tup ds) = true := by
  simp only [short, shortL_of h, hl, decide_true, Bool.and_self]
theorem sml_tup {ds : List D} (h : sml (.tup ds) = true) : ∀ d ∈ ds, sml d = true := fun d hd => smlL_mem (by simpa only [sml] using h) hd
/-- what a line with that word has as parts of one sort -/
def pickL (p : Str) : List (Nat × Str) → List D → List D
  | e :: es, d :: ds => if e.2 = p then d :: pickL p es ds else pickL p es ds
  | _, _ => []
def partsW (w : Str) (r : List D) (p : Str) : List D := pickL p ((lineTab.lookup w).getD []) r
theorem pickL_len (p : Str) : ∀ (es : List (Nat × Str)) (ds : List D), (pickL p es ds).length ≤ es.length
  | [], _ => by simp [pickL]
  | _ :: _, [] => by simp [pickL]
  | e :: es, d :: ds => by
    have := pickL_len p es ds
    simp only [pickL]; split <;> simp only [List.length_cons] <;> omega
theorem lookD_len (w : Str) : ((lineTab.lookup w).getD []).length ≤ 3 := by
  cases e : lineTab.lookup w with
  | none => simp
  | some es => exact (table_ok _ (look_mem e)).2
theorem partsW_len (w : Str) (r : List D) (p : Str) : (partsW w r p).length ≤ 3 := Nat.le_trans (pickL_len _ _ _) (lookD_len w)
theorem pickL_mem {p : Str} {x : D} : ∀ {es : List (Nat × Str)} {ds : List D}, x ∈ pickL p es ds → fitsAll es ds = true → ∃ e ∈ es, e.2 = p ∧ fitC e.1 x = true ∧ x ∈ ds
  | e :: es, d :: ds, h, hf => by
    simp only [fitsAll, Bool.and_eq_true] at hf
    simp only [pickL] at h
    by_cases he : e.2 = p
    · rw [if_pos he] at h
      rcases List.mem_cons.mp h with rfl | h
      · exact ⟨e, by simp, he, hf.1, by simp⟩
      · obtain ⟨e', h1, h2, h3, h4⟩ := pickL_mem h hf.2
        exact ⟨e', by simp [h1], h2, h3, by simp [h4]⟩
    · rw [if_neg he] at h
      obtain ⟨e', h1, h2, h3, h4⟩ := pickL_mem h hf.2
      exact ⟨e', by simp [h1], h2, h3, by simp [h4]⟩
/-- what a line is: a word of the table and parts that fit -/
theorem lineD_ex {d : D} (h : lineD d = true) : ∃ w ds es, d = .tup (.str w :: ds) ∧ lineTab.lookup w = some es ∧ fitsAll es ds = true := by
  unfold lineD at h
  split at h
  · rename_i w ds
    split at h
    · rename_i es e
      exact ⟨w, ds, es, rfl, e, h⟩
    · cases h
  · cases h
theorem fits_length : ∀ {es : List (Nat × Str)} {ds : List D}, fitsAll es ds = true → es.length = ds.length
  | [], [], _ => rfl
  | [], _ :: _, h => by simp [fitsAll] at h
  | _ :: _, [], h => by simp [fitsAll] at h
  | e :: es, d :: ds, h => by
    simp only [fitsAll, Bool.and_eq_true] at h
    simp [fits_length h.2]
theorem parts_fit {w : Str} {ds : List D} {es : List (Nat × Str)} (he : lineTab.lookup w = some es) (hf : fitsAll es ds = true) {p : Str} {x : D} (h : x ∈ partsW w ds p) : partB p x = true ∧ x ∈ ds := by
  unfold partsW at h
  rw [he] at h
  obtain ⟨e, h1, h2, h3, h4⟩ := pickL_mem h hf
  have tok := (table_ok _ (look_mem he)).1
  rw [List.all_eq_true] at tok
  rw [← h2, pair_fit (tok e h1)]
  exact ⟨h3, h4⟩
theorem isHome_ex {d : D} (h : isHome d = true) : ∃ (b : Bool) (k : Int), d = .tup [.str (if b then "peg" else "bin"), .int k] ∧ 0 ≤ k ∧ k ≤ 3 := by
  cases d with
  | tup ds =>
    match ds, h with
    | [.str w, .int k], h =>
      simp only [isHome, Bool.and_eq_true, Bool.or_eq_true, decide_eq_true_eq] at h
      obtain ⟨hw, h0, h1⟩ := h
      rcases hw with rfl | rfl
      · exact ⟨true, k, rfl, h0, h1⟩
      · exact ⟨false, k, rfl, h0, h1⟩
  | _ => cases h
theorem isFrom_ex {d : D} (h : isFrom d = true) : ∃ k : Int, d = .int k ∧ 0 ≤ k := by
  cases d <;> simp only [isFrom, Bool.false_eq_true, decide_eq_true_eq] at h
  exact ⟨_, rfl, h⟩
def signsB (d : D) (m : Int) : Bool := match d with
  | .str s => decide ((s.length : Int) = m) && s.cps.toList.all fun c => decide (c ∈ [110, 98, 45])
  | _ => false
def riseB : List D → Bool
  | .int a :: .int b :: r => decide (a < b) && riseB (.int b :: r)
  | _ => true
def keepsB (d : D) : Bool := match d with
  | .tup ds => ds.all (fun p => isWithin p 1 3) && riseB ds
  | _ => false
def linesB (d : D) : Bool := match d with
  | .tup ds => (decide (1 ≤ ds.length) && decide (ds.length ≤ 24)) && ds.all lineD
  | _ => false
def ltI (many : Int) (d : D) : Bool := match d with
  | .int i => decide (i < many)
  | _ => false
def stayB (l : D) (at_ many : Int) : Bool := match l with
  | .tup (.str w :: r) => (match nextN w r at_ with
    | some ns => (ns.map D.int ++ partsW w r "goal").all (ltI many)
    | none => false)
  | _ => false
def writesW (w : Str) (r : List D) : List D := if w = "call" then [.tup [.str "peg", .int 0]] else partsW w r "written"
def binIn (bins : Int) (h : D) : Bool := match h with
  | .tup [.str s, .int k] => !decide (s = "bin") || decide (k < bins)
  | _ => false
def pegIn (ks : List D) (h : D) : Bool := match h with
  | .tup [.str s, .int k] => !decide (s = "peg") || (decide (k = 0) || inF (.int k) ks)
  | _ => false
def ownB (l : D) (ks : List D) (bins : Int) : Bool := match l with
  | .tup (.str w :: r) => (partsW w r "read" ++ partsW w r "written").all (binIn bins) && (writesW w r).all (pegIn ks)
  | _ => false
def rightB (ks : List D) (bins many : Int) : Nat → List D → Bool
  | _, [] => true
  | i, l :: ls => (stayB l i many && ownB l ks bins) && rightB ks bins many (i + 1) ls
def defB (d : D) : Bool := match d with
  | .tup [takes, gives, keeps, bins, lines] => (signsB takes 4 && signsB gives 1 && keepsB keeps) && (isWithin bins 0 4 && linesB lines) && (match keeps, bins, lines with
    | .tup ks, .int b, .tup ls => rightB ks b ls.length 0 ls
    | _, _, _ => false)
  | _ => false
def calledB (many : Int) (l : D) : Bool := match l with
  | .tup (.str w :: r) => (partsW w r "called").all (ltI many)
  | _ => false
def callsB (many : Int) (d : D) : Bool := match d with
  | .tup [_, _, _, _, .tup ls] => ls.all (calledB many)
  | _ => false
def progB (d : D) : Bool := match d with
  | .tup ds => (decide (1 ≤ ds.length) && decide (ds.length ≤ 6)) && ds.all defB && ds.all (callsB ds.length)
  | _ => false
theorem parts_look (z : Str) : List.lookup z [("put", (.tup [(.str "written"), (.str "number")])), ("none", (.tup [(.str "written")])), ("copy", (.tup [(.str "written"), (.str "read")])), ("add", (.tup [(.str "written"), (.str "read"), (.str "read")])), ("less", (.tup [(.str "written"), (.str "read"), (.str "read")])), ("new", (.tup [(.str "written"), (.str "few"), (.str "few")])), ("getn", (.tup [(.str "written"), (.str "read"), (.str "field")])), ("setn", (.tup [(.str "read"), (.str "field"), (.str "read")])), ("getb", (.tup [(.str "written"), (.str "read"), (.str "field")])), ("setb", (.tup [(.str "read"), (.str "field"), (.str "read")])), ("tell", (.tup [(.str "read")])), ("go", (.tup [(.str "goal")])), ("if", (.tup [(.str "read"), (.str "goal")])), ("ifnone", (.tup [(.str "read"), (.str "goal")])), ("same", (.tup [(.str "read"), (.str "read"), (.str "goal")])), ("call", (.tup [(.str "called")])), ("back", (.tup [])), ("rest", (.tup []))] = (lineTab.lookup z).map fun es => D.tup (strsOf es) := look_map (fun es => D.tup (strsOf es)) z lineTab
theorem sgn_len (s : Str) : (sgnD s).length = s.length := by simp [sgnD, Str.length]
theorem sz {n : Nat} (h : n ≤ 1000) : n ≤ sizeLine := Nat.le_trans h (by decide)
theorem zip_len (a b : List D) : (zipD a b).length = min a.length b.length := by simp [zipD]
theorem cut_from {ds : List D} {i : Nat} (h : i ≤ ds.length) : cutD ds (some (i : Int)) none = ds.drop i := by
  unfold cutD
  rw [HT.sIx_nat, HT.sIx_none, Nat.min_eq_left h, List.take_of_length_le (by rw [List.length_drop]; omega)]
theorem cut_to {ds : List D} {i : Nat} (h : i ≤ ds.length) : cutD ds none (some (i : Int)) = ds.take i := by
  unfold cutD
  rw [HT.sIx_nat, HT.sIx_none, Nat.min_eq_left h]; simp
theorem cut_tail (ds : List D) : cutD ds (some 1) none = ds.drop 1 := by
  cases ds with
  | nil => rfl
  | cons d ds => exact cut_one
theorem cut_init (ds : List D) : cutD ds none (some (-1)) = ds.dropLast := by
  unfold cutD HT.sIx
  rw [List.dropLast_eq_take]
  simp only [List.drop_zero, Nat.sub_zero, if_pos (show (-1 : Int) < 0 by decide)]
  congr 1
  omega
theorem cut_head (ds : List D) : cutD ds none (some 1) = ds.take 1 := by
  cases ds with
  | nil => rfl
  | cons d ds => exact cut_to (i := 1) (by simp)
theorem fin_frz {Q : D → Store → Prop} {S : Store} {ds : List D} (h : Q (.lst ds) S) (p : Addr) (hp : S p = none) : VL.Fin Q (.ref p) (supd S p (.lst ds)) :=
  ⟨.lst ds, S, .lst supd_same hp (fun b o e => by rw [supd_ne (by intro z; subst z; rw [hp] at e; cases e)]; exact e), h⟩
theorem flat_one (f : D → D) : ∀ ds : List D, (ds.flatMap fun d => [f d]) = ds.map f
  | [] => rfl
  | d :: ds => by rw [List.flatMap_cons, flat_one f ds]; rfl
end VL
set_option maxHeartbeats 2000000
namespace VL
open PySem PySem.Spec L2
open PyProof.Rows hiding St
theorem sort2_mem {i j n : Int} (h : n ∈ sort2 i j) : n = i ∨ n = j := by
  unfold sort2 at h
  split at h
  · exact .inl (List.mem_singleton.mp h)
  · split at h
    · simpa using h
    · simp only [List.mem_cons, List.not_mem_nil, or_false] at h; exact h.symm
theorem sort2_len (i j : Int) : (sort2 i j).length ≤ 2 := by unfold sort2; split <;> (try split) <;> simp
theorem goal_one {p : Str} {es : List (Nat × Str)} {c : Nat} {r : List D} {d : D} (h : r.length = es.length) : d ∈ pickL p (es ++ [(c, p)]) (r ++ [d]) := by
  induction es generalizing r with
  | nil =>
    cases r with
    | nil => simp [pickL]
    | cons => simp at h
  | cons e es ih =>
    cases r with
    | nil => simp at h
    | cons x r =>
      have := ih (r := r) (by simpa using h)
      simp only [List.cons_append, pickL]
      split
      · exact List.mem_cons_of_mem _ this
      · exact this
theorem next_ex {w : Str} {r : List D} {es : List (Nat × Str)} (he : lineTab.lookup w = some es) (hf : fitsAll es r = true) (at_ : Int) :
    ∃ ns, nextN w r at_ = some ns ∧ ns.length ≤ 2 ∧ ∀ n ∈ ns, (n = at_ + 1 ∧ w ≠ "go" ∧ w ≠ "back") ∨ D.int n ∈ partsW w r "goal" := by
  have hp : partsW w r "goal" = pickL "goal" es r := by unfold partsW; rw [he]; rfl
  rw [hp]
  have hm := look_mem he
  have plain : nextN w r at_ = some [at_ + 1] → w ≠ "go" → w ≠ "back" → ∃ ns, nextN w r at_ = some ns ∧ ns.length ≤ 2 ∧ ∀ n ∈ ns, (n = at_ + 1 ∧ w ≠ "go" ∧ w ≠ "back") ∨ D.int n ∈ pickL "goal" es r :=
    fun h a b => ⟨_, h, by simp, fun n hn => .inl ⟨List.mem_singleton.mp hn, a, b⟩⟩
  have choose : ∀ {k : Int}, nextN w r at_ = some (sort2 (at_ + 1) k) → w ≠ "go" → w ≠ "back" → D.int k ∈ pickL "goal" es r → ∃ ns, nextN w r at_ = some ns ∧ ns.length ≤ 2 ∧ ∀ n ∈ ns, (n = at_ + 1 ∧ w ≠ "go" ∧ w ≠ "back") ∨ D.int n ∈ pickL "goal" es r :=
    fun h a b c => ⟨_, h, sort2_len _ _, fun n hn => (sort2_mem hn).elim (fun e => .inl ⟨e, a, b⟩) fun e => .inr (by rw [e]; exact c)⟩
  simp only [lineTab, List.mem_cons, Prod.mk.injEq, List.not_mem_nil, or_false] at hm
  rcases hm with ⟨rfl, rfl⟩ | ⟨rfl, rfl⟩ | ⟨rfl, rfl⟩ | ⟨rfl, rfl⟩ | ⟨rfl, rfl⟩ | ⟨rfl, rfl⟩ | ⟨rfl, rfl⟩ | ⟨rfl, rfl⟩ | ⟨rfl, rfl⟩ | ⟨rfl, rfl⟩ | ⟨rfl, rfl⟩ | ⟨rfl, rfl⟩ | ⟨rfl, rfl⟩ | ⟨rfl, rfl⟩ | ⟨rfl, rfl⟩ | ⟨rfl, rfl⟩ | ⟨rfl, rfl⟩ | ⟨rfl, rfl⟩
  case inr.inr.inr.inr.inr.inr.inr.inr.inr.inr.inr.inl =>
    match r, hf with
    | [], hf => simp [fitsAll] at hf
    | _ :: _ :: _, hf => simp [fitsAll] at hf
    | [d], hf =>
      simp only [fitsAll, Bool.and_true] at hf
      obtain ⟨k, rfl, _⟩ := isFrom_ex hf
      exact ⟨[k], by unfold nextN; rw [if_neg (by decide +kernel), if_pos rfl], by simp, fun n hn => .inr (by rw [List.mem_singleton.mp hn]; simp [pickL])⟩
  case inr.inr.inr.inr.inr.inr.inr.inr.inr.inr.inr.inr.inl =>
    match r, hf with
    | [], hf => simp [fitsAll] at hf
    | [_], hf => simp [fitsAll] at hf
    | _ :: _ :: _ :: _, hf => simp [fitsAll] at hf
    | [x, d], hf =>
      simp only [fitsAll, Bool.and_true, Bool.and_eq_true] at hf
      obtain ⟨k, rfl, _⟩ := isFrom_ex hf.2
      exact choose (by unfold nextN; rw [if_neg (by decide +kernel), if_neg (by decide +kernel), if_pos (by decide +kernel)]; rfl) (by decide +kernel) (by decide +kernel) (goal_one (es := [(103, "read")]) (r := [x]) rfl)
  case inr.inr.inr.inr.inr.inr.inr.inr.inr.inr.inr.inr.inr.inl =>
    match r, hf with
    | [], hf => simp [fitsAll] at hf
    | [_], hf => simp [fitsAll] at hf
    | _ :: _ :: _ :: _, hf => simp [fitsAll] at hf
    | [x, d], hf =>
      simp only [fitsAll, Bool.and_true, Bool.and_eq_true] at hf
      obtain ⟨k, rfl, _⟩ := isFrom_ex hf.2
      exact choose (by unfold nextN; rw [if_neg (by decide +kernel), if_neg (by decide +kernel), if_pos (by decide +kernel)]; rfl) (by decide +kernel) (by decide +kernel) (goal_one (es := [(103, "read")]) (r := [x]) rfl)
  case inr.inr.inr.inr.inr.inr.inr.inr.inr.inr.inr.inr.inr.inr.inl =>
    match r, hf with
    | [], hf => simp [fitsAll] at hf
    | [_], hf => simp [fitsAll] at hf
    | [_, _], hf => simp [fitsAll] at hf
    | _ :: _ :: _ :: _ :: _, hf => simp [fitsAll] at hf
    | [x, y, d], hf =>
      simp only [fitsAll, Bool.and_true, Bool.and_eq_true] at hf
      obtain ⟨k, rfl, _⟩ := isFrom_ex hf.2.2
      exact choose (by unfold nextN; rw [if_neg (by decide +kernel), if_neg (by decide +kernel), if_pos (by decide +kernel)]; rfl) (by decide +kernel) (by decide +kernel) (goal_one (es := [(103, "read"), (103, "read")]) (r := [x, y]) rfl)
  case inr.inr.inr.inr.inr.inr.inr.inr.inr.inr.inr.inr.inr.inr.inr.inr.inl => exact ⟨[], by unfold nextN; rw [if_pos rfl], by simp, fun n hn => nomatch hn⟩
  all_goals exact plain (by unfold nextN; rw [if_neg (by decide +kernel), if_neg (by decide +kernel), if_neg (by decide +kernel)]) (by decide +kernel) (by decide +kernel)
theorem stay_of {w : Str} {r : List D} {es : List (Nat × Str)} {at_ many : Int} (he : lineTab.lookup w = some es) (hf : fitsAll es r = true) (hg : ∀ x ∈ partsW w r "goal", ltI many x = true) (hat : w = "go" ∨ w = "back" ∨ at_ + 1 < many) : stayB (.tup (.str w :: r)) at_ many = true := by
  obtain ⟨ns, h1, _, h2⟩ := next_ex he hf at_
  simp only [stayB, h1, List.all_append, Bool.and_eq_true, List.all_eq_true]
  refine ⟨fun d hd => ?_, hg⟩
  obtain ⟨n, hn, rfl⟩ := List.mem_map.mp hd
  rcases h2 n hn with ⟨rfl, a, b⟩ | h
  · rcases hat with z | z | z
    · exact absurd z a
    · exact absurd z b
    · simpa [ltI] using z
  · exact hg _ h
def RowP (P : Nat → D → Prop) : List Nat → List D → Prop
  | [], [] => True
  | c :: cs, d :: ds => P c d ∧ RowP P cs ds
  | _, _ => False
theorem RowP.app {P : Nat → D → Prop} {c : Nat} {d : D} (h : P c d) : ∀ {cs : List Nat} {ds : List D}, RowP P cs ds → RowP P (cs ++ [c]) (ds ++ [d])
  | [], [], _ => ⟨h, trivial⟩
  | _ :: _, _ :: _, q => ⟨q.1, RowP.app h q.2⟩
theorem RowP.len {P : Nat → D → Prop} : ∀ {cs : List Nat} {ds : List D}, RowP P cs ds → ds.length = cs.length
  | [], [], _ => rfl
  | _ :: _, _ :: _, q => by simp [RowP.len q.2]
theorem RowP.imp {P P' : Nat → D → Prop} (h : ∀ c d, P c d → P' c d) : ∀ {cs : List Nat} {ds : List D}, RowP P cs ds → RowP P' cs ds
  | [], [], _ => trivial
  | _ :: _, _ :: _, q => ⟨h _ _ q.1, RowP.imp h q.2⟩
theorem RowP.fits {P : Nat → D → Prop} (h : ∀ c d, P c d → fitC c d = true) : ∀ {es : List (Nat × Str)} {ds : List D}, RowP P (es.map (·.1)) ds → fitsAll es ds = true
  | [], [], _ => rfl
  | _ :: _, _ :: _, q => by simp only [fitsAll, h _ _ q.1, RowP.fits h q.2, Bool.and_self]
theorem RowP.each {P : Nat → D → Prop} : ∀ {cs : List Nat} {ds : List D}, RowP P cs ds → ∀ d ∈ ds, ∃ c ∈ cs, P c d
  | [], [], _ => fun d hd => nomatch hd
  | c :: cs, e :: ds, q => fun d hd => by
    rcases List.mem_cons.mp hd with rfl | hd
    · exact ⟨c, by simp, q.1⟩
    · obtain ⟨c', a, b⟩ := RowP.each q.2 d hd
      exact ⟨c', by simp [a], b⟩
theorem RowP.pick {P : Nat → D → Prop} {p : Str} {x : D} : ∀ {es : List (Nat × Str)} {ds : List D}, RowP P (es.map (·.1)) ds → x ∈ pickL p es ds → ∃ e ∈ es, e.2 = p ∧ P e.1 x
  | [], _, _, h => by simp [pickL] at h
  | _ :: _, [], q, h => by simp [pickL] at h
  | e :: es, d :: ds, q, h => by
    have q : P e.1 d ∧ RowP P (es.map (·.1)) ds := q
    simp only [pickL] at h
    by_cases he : e.2 = p
    · rw [if_pos he] at h
      rcases List.mem_cons.mp h with rfl | h
      · exact ⟨e, by simp, he, q.1⟩
      · obtain ⟨e', a, b, c⟩ := RowP.pick q.2 h
        exact ⟨e', by simp [a], b, c⟩
    · rw [if_neg he] at h
      obtain ⟨e', a, b, c⟩ := RowP.pick q.2 h
      exact ⟨e', by simp [a], b, c⟩
theorem RowP.part {P : Nat → D → Prop} {w p : Str} {es : List (Nat × Str)} {ds : List D} {x : D} (he : lineTab.lookup w = some es) (h : RowP P (es.map (·.1)) ds) (hx : x ∈ partsW w ds p) {c : Nat} (hp : (c, p) ∈ pairs) : P c x := by
  have e1 : partsW w ds p = pickL p es ds := by unfold partsW; rw [he]; rfl
  rw [e1] at hx
  obtain ⟨e, a, rfl, q⟩ := h.pick hx
  have : e ∈ pairs := of_decide_eq_true (List.all_eq_true.mp (table_ok _ (look_mem he)).1 e a)
  have uniq : ∀ e ∈ pairs, ∀ c, (c, e.2) ∈ pairs → c = e.1 := by
    intro e he c hc
    simp only [pairs, List.mem_cons, Prod.mk.injEq, List.not_mem_nil, or_false] at he hc
    rcases he with rfl | rfl | rfl | rfl | rfl | rfl | rfl <;> (rcases hc with ⟨rfl, h⟩ | ⟨rfl, h⟩ | ⟨rfl, h⟩ | ⟨rfl, h⟩ | ⟨rfl, h⟩ | ⟨rfl, h⟩ | ⟨rfl, h⟩ <;> first | rfl | exact absurd h (by decide +kernel))
  rw [uniq e this c hp]
  exact q
theorem own_of {w : Str} {r : List D} {es : List (Nat × Str)} {ks : List D} {bins : Int} (hr : ∀ x ∈ partsW w r "read", binIn bins x = true) (hw : ∀ x ∈ partsW w r "written", binIn bins x = true ∧ pegIn ks x = true) : ownB (.tup (.str w :: r)) ks bins = true := by
  simp only [ownB, Bool.and_eq_true, List.all_append, List.all_eq_true]
  refine ⟨⟨hr, fun x hx => (hw x hx).1⟩, fun x hx => ?_⟩
  unfold writesW at hx
  split at hx
  · rw [List.mem_singleton.mp hx]; rfl
  · exact (hw x hx).2
theorem inF_int {i : Int} {ks : List D} (h : D.int i ∈ ks) : inF (.int i) ks = true := List.any_eq_true.mpr ⟨_, h, by simp [eqF]⟩
theorem rng_len {lo : Int} {n : Nat} : (rngD lo n).length = n := by simp [rngD]
theorem rng_mem {lo : Int} {n : Nat} {d : D} (h : d ∈ rngD lo n) : ∃ i : Nat, i < n ∧ d = .int (lo + i) := by
  simp only [rngD, List.mem_map, List.mem_range] at h
  obtain ⟨i, a, b⟩ := h
  exact ⟨i, a, b.symm⟩
theorem nb_cps : (Str.ofString "nb-").cps.toList = [110, 98, 45] := by decide +kernel
theorem join0_cps : ∀ ys : List Str, (Txt.join (Str.ofString "") ys).cps.toList = ys.flatMap fun y => y.cps.toList := by
  have app : ∀ a b : Str, (a ++ b).cps.toList = a.cps.toList ++ b.cps.toList := fun a b => by show (a.cps ++ b.cps).toList = _; simp
  intro ys
  rw [TL.join_eq]
  induction ys with
  | nil => rfl
  | cons x r ih =>
    cases r with
    | nil => simp [Str.join]
    | cons y r =>
      show (x ++ Str.ofString "" ++ Str.join (Str.ofString "") (y :: r)).cps.toList = _
      rw [app, app, ih, show (Str.ofString "").cps.toList = [] from rfl]
      simp
def oneS (c : Nat) : Str := ⟨#[c]⟩
theorem ones_strs : ∀ cs : List Nat, strsD (cs.map fun c => D.str ⟨#[c]⟩) = some (cs.map oneS)
  | [] => rfl
  | c :: cs => by simp only [List.map_cons, strsD, ones_strs cs]; rfl
theorem ones_cps (cs : List Nat) : (Txt.join (Str.ofString "") (cs.map oneS)).cps.toList = cs := by
  rw [join0_cps]
  induction cs with
  | nil => rfl
  | cons c cs ih => rw [List.map_cons, List.flatMap_cons, ih]; rfl
theorem ones_len (cs : List Nat) : (Txt.join (Str.ofString "") (cs.map oneS)).length = cs.length := by
  have : ∀ s : Str, s.length = s.cps.toList.length := fun s => by simp [Str.length]
  rw [this, ones_cps]
theorem ones_sum (cs : List Nat) : ((cs.map oneS).map fun x => x.length).sum = cs.length := by
  induction cs with
  | nil => rfl
  | cons c cs ih => rw [List.map_cons, List.map_cons, List.sum_cons, ih, List.length_cons, show (oneS c).length = 1 from rfl]; omega
theorem rise_of : ∀ {ks : List Int}, ks.Pairwise (· < ·) → riseB (ks.map D.int) = true
  | [], _ => rfl
  | [_], _ => rfl
  | a :: b :: r, h => by
    have h1 := List.pairwise_cons.mp h
    have : riseB (D.int b :: r.map D.int) = true := rise_of (ks := b :: r) h1.2
    simp only [List.map_cons, riseB, this, Bool.and_true, decide_eq_true_eq]
    exact h1.1 b (by simp)
theorem right_of {ks : List D} {b many : Int} : ∀ {ls : List D} {i : Nat}, (∀ (j : Nat) l, ls[j]? = some l → stayB l ((i + j : Nat) : Int) many = true ∧ ownB l ks b = true) → rightB ks b many i ls = true
  | [], _, _ => rfl
  | l :: ls, i, h => by
    obtain ⟨h1, h2⟩ := h 0 l rfl
    have ih := right_of (ks := ks) (b := b) (many := many) (ls := ls) (i := i + 1) fun j l' hj => by
      have := h (j + 1) l' (by simpa using hj)
      rw [show i + 1 + j = i + (j + 1) by omega]; exact this
    simp only [rightB, ih, Bool.and_true, Bool.and_eq_true]
    exact ⟨h1, h2⟩
theorem strOk_of {s : Str} (h : ∀ c ∈ s.cps.toList, c < 128) : PyData.strOk s = true := by
  unfold PyData.strOk
  rw [← Array.all_toList, List.all_eq_true]
  exact fun c hc => decide_eq_true (by have := h c hc; omega)
end VL
set_option maxHeartbeats 4000000
namespace VL
open PySem PySem.Spec L2
open PyProof.Rows hiding St
theorem tup_mul_same (l : Addr) (items : Array Value) (n : Nat) (dd : Option Addr) (sl : Array (Option Value)) (x : Int) (u : Tok) (c0 : (decide (x < -(2 ^ 63)) || decide (x ≥ 2 ^ 63)) = false) (c1 : (items.isEmpty || x == 1) = true) :
    Meets (Builtin.«tuple.__mul__» ⟨[.ref l, .int x u], []⟩) (fun _ R s => s.heap.get? l = some { cls := .type "tuple", dict := dd, data := .seq items n, slots := sl } ∧ R (.ok (.ret (.ref l))) s) :=
  .of_wp fun prog w A R s h => by
    obtain ⟨hp, g, d, tk, os⟩ := s
    obtain ⟨hl, h⟩ := h
    have f1 := AutoSeq1.idx_int
    wp_walk using wpAny_loadPart' hl
    repeat (first
      | (refine wpAny_ite_false (decide_eq_false (by rw [c0]; exact Bool.false_ne_true)) ?_; wp_walk using wpAny_loadPart' hl)
      | (refine wpAny_ite_true (decide_eq_true c1) ?_; wp_walk using wpAny_loadPart' hl))
    exact ⟨_, rfl, h⟩
theorem tup_mul_none (l : Addr) (items : Array Value) (n : Nat) (dd : Option Addr) (sl : Array (Option Value)) (x : Int) (u : Tok) (c0 : (decide (x < -(2 ^ 63)) || decide (x ≥ 2 ^ 63)) = false) (c1 : (items.isEmpty || x == 1) = false) (c2 : (decide (x ≤ 0) || items.isEmpty) = true) :
    Meets (Builtin.«tuple.__mul__» ⟨[.ref l, .int x u], []⟩) (fun _ R s => s.heap.get? l = some { cls := .type "tuple", dict := dd, data := .seq items n, slots := sl } ∧
      R (.ok (.ret (Value.ref s.heap.objs.size))) { s with heap := s.heap.push { cls := Value.type "tuple", data := Data.seq #[] } }) :=
  .of_wp fun prog w A R s h => by
    obtain ⟨hp, g, d, tk, os⟩ := s
    obtain ⟨hl, h⟩ := h
    have f1 := AutoSeq1.idx_int
    wp_walk using wpAny_loadPart' hl
    repeat (first
      | (refine wpAny_ite_false (decide_eq_false (by rw [c0]; exact Bool.false_ne_true)) ?_; wp_walk using wpAny_loadPart' hl)
      | (refine wpAny_ite_false (decide_eq_false (by rw [c1]; exact Bool.false_ne_true)) ?_; wp_walk using wpAny_loadPart' hl)
      | (refine wpAny_ite_true (decide_eq_true c2) ?_; wp_walk using wpAny_loadPart' hl))
    exact ⟨_, rfl, h⟩
def rRepA (K : PySem.W.Frag) : R2 := fun x y H Q => ∃ l k xs, x = .ref l ∧ y = .int k ∧ SqT K H l xs ∧ -(2 ^ 62) ≤ k ∧ k ≤ 1000 ∧ xs.length ≤ 1000 ∧ (k = 1 ∨ xs = [] → Q (.ref l) H) ∧ (¬ (k = 1 ∨ xs = []) → ∀ p, H p = none → Q (.ref p) (upd H p (.tup (List.replicate k.toNat xs).flatten)))
section
variable {X : Cx}
theorem op_repA : OpR X (binaryOp .Mult) (rRepA X.K) := by
  intro pins s σ H x y v u Q I rx ry h
  obtain ⟨l, k, xs, rfl, rfl, hT, h1, h2, hz, q1, q2⟩ := h
  by_cases two : 2 ≤ k ∧ xs ≠ []
  · exact op_repT pins s σ H _ _ v u Q I rx ry ⟨l, k, xs, rfl, rfl, hT, two.2, two.1, h2, hz, q2 (by rintro (z | z); omega; exact two.2 z)⟩
  cases rx
  obtain ⟨t, rfl⟩ := ry
  obtain ⟨its, r, ⟨⟨cls, dd, data, sl⟩, ho, hc, n, hd⟩, hs⟩ := I.tuple hT
  simp only at hc hd
  subst hc hd
  have hle : its.length = xs.length := r.length.symm
  have c0 : (decide (k < -(2 ^ 63)) || decide (k ≥ 2 ^ 63)) = false := by
    rw [decide_eq_false (by omega), decide_eq_false (by omega)] <;> rfl
  have emp : its.toArray.isEmpty = decide (xs = []) := by
    cases its with
    | nil => rw [show xs = [] from List.eq_nil_of_length_eq_zero hle.symm]; rfl
    | cons a b => cases xs with
      | nil => simp at hle
      | cons c d => rfl
  by_cases same : k = 1 ∨ xs = []
  · have c1 : (its.toArray.isEmpty || k == 1) = true := by
      rw [emp]
      rcases same with z | z
      · rw [z]; simp
      · rw [z]; rfl
    exact wpAny_binaryOp_repeat_ref (T := "tuple") (U := "int") (by decide) ⟨_, ho, rfl⟩ (fun s' => typeIs_int s' k t) noFill_tuple_mul F.fills_int_mul F.slot_int_rmul repeat_tuple F.slot_int_index.lookup
      (call_meets F.slot_int_rmul (typeIs_int s k t) F.entry_int_rmul (F.args_int_rmul_2 _ _) (int_rmul_tuple k t l its.toArray n dd sl)
        ⟨ho, rfl, ⟨_, ho, rfl⟩, call_meets F.slot_tuple_mul ⟨_, ho, rfl⟩ F.entry_tuple_mul (F.args_tuple_mul_2 _ _) (tup_mul_same l its.toArray n dd sl k t c0 c1) ⟨ho, .ref l, H, I, rfl, q1 same⟩⟩)
  · have c1 : (its.toArray.isEmpty || k == 1) = false := by
      rw [emp, decide_eq_false (fun z => same (.inr z)), Bool.false_or]
      exact beq_eq_false_iff_ne.mpr fun z => same (.inl z)
    have hk : k ≤ 0 := by
      have : ¬ k = 1 := fun z => same (.inl z)
      have : ¬ 2 ≤ k := fun z => two ⟨z, fun e => same (.inr e)⟩
      omega
    have c2 : (decide (k ≤ 0) || its.toArray.isEmpty) = true := by rw [decide_eq_true hk]; rfl
    refine wpAny_binaryOp_repeat_ref (T := "tuple") (U := "int") (by decide) ⟨_, ho, rfl⟩ (fun s' => typeIs_int s' k t) noFill_tuple_mul F.fills_int_mul F.slot_int_rmul repeat_tuple F.slot_int_index.lookup
      (call_meets F.slot_int_rmul (typeIs_int s k t) F.entry_int_rmul (F.args_int_rmul_2 _ _) (int_rmul_tuple k t l its.toArray n dd sl)
        ⟨ho, rfl, ⟨_, ho, rfl⟩, call_meets F.slot_tuple_mul ⟨_, ho, rfl⟩ F.entry_tuple_mul (F.args_tuple_mul_2 _ _) (tup_mul_none l its.toArray n dd sl k t c0 c1 c2) ⟨ho, ?_⟩⟩)
    have q := q2 same
    rw [show k.toNat = 0 by omega] at q
    exact ⟨.ref s.heap.objs.size, _, I.laid (t' := s.toks) (o := .tup []) (fun b ob q => Heap.get?_push_of_some _ q) (Nat.le_refl _) ⟨Nat.zero_le _, [], .nil, IsTup.new _ _⟩, rfl, q _ (I.hok.fresh (Nat.le_refl _))⟩
/-- a * b: ints, a list or a tuple and an int -/
def mMulA : R2V := fun x y S Q => match x, y with
  | .int i, .int j => CMul i j ∧ Q (.int (i * j)) S
  | .tup ds, .int k => -(2 ^ 62) ≤ k ∧ k ≤ 1000 ∧ ds.length ≤ 1000 ∧ Q (.tup (List.replicate k.toNat ds).flatten) S
  | x, .int k => match rdL x S with
    | some ds => -(2 ^ 63) ≤ k ∧ k < 2 ^ 63 ∧ ds.length * k.toNat ≤ sizeLine ∧ Q (.lst (List.replicate k.toNat ds).flatten) S
    | none => False
  | _, _ => False
theorem mMulA_i {i j : Int} {S : Store} {Q : D → Store → Prop} : mMulA (.int i) (.int j) S Q = (CMul i j ∧ Q (.int (i * j)) S) := rfl
theorem mMulA_t {ds : List D} {k : Int} {S : Store} {Q : D → Store → Prop} : mMulA (.tup ds) (.int k) S Q = (-(2 ^ 62) ≤ k ∧ k ≤ 1000 ∧ ds.length ≤ 1000 ∧ Q (.tup (List.replicate k.toNat ds).flatten) S) := rfl
theorem mMulA_l {ds : List D} {k : Int} {S : Store} {Q : D → Store → Prop} : mMulA (.lst ds) (.int k) S Q = (-(2 ^ 63) ≤ k ∧ k < 2 ^ 63 ∧ ds.length * k.toNat ≤ sizeLine ∧ Q (.lst (List.replicate k.toNat ds).flatten) S) := rfl
theorem ov_mulA : OpV X (binaryOp .Mult) mMulA := by
  obtain ⟨r, h1, h2⟩ := ov_mulL (X := X)
  refine ⟨_, h1.or op_repA, ?_⟩
  intro x y v1 v2 G S H Q Q' vw r1 r2 h k
  cases y with
  | int j =>
    cases x with
    | tup ds =>
      rw [mMulA_t] at h
      cases r1 with
      | @tup a xs _ ht l =>
        cases r2
        refine .inr ⟨a, j, xs, rfl, rfl, same_t vw.gh ht, h.1, h.2.1, by rw [l.length]; exact h.2.2.1, fun e => ?_, fun _ p hp => ?_⟩
        · have : (List.replicate j.toNat ds).flatten = ds := by
            rcases e with rfl | e
            · simp
            · have : ds = [] := by cases l with
                | nil => rfl
                | cons => cases e
              rw [this]
              generalize j.toNat = n
              induction n with
              | zero => rfl
              | succ n ih => rw [List.replicate_succ, List.flatten_cons, ih]; rfl
          rw [this] at h
          exact k _ S _ H G (Aft.refl vw) (.tup ht l) h.2.2.2
        · have a3 := vw.froze (o := .tup (List.replicate j.toNat xs).flatten) hp
          exact k _ S _ _ _ a3 (.tup (SqT.of upd_same) ((l.flat _).mono a3.gg)) h.2.2.2
    | _ => exact .inl (h2 _ _ v1 v2 G S H Q Q' vw r1 r2 h k)
  | _ => cases x <;> exact False.elim h
theorem CallR.or {f : Value} {r r' : List V → Hp → VK → Prop} (h : CallR X f r) (h' : CallR X f r') : CallR X f (fun vs H Q => r vs H Q ∨ r' vs H Q) := by
  intro pins s σ H xs us Q I rr q
  rcases q with q | q
  · exact h pins s σ H xs us Q I rr q
  · exact h' pins s σ H xs us Q I rr q
end
end VL
set_option maxHeartbeats 4000000
namespace VL
open PySem PySem.Spec L2
open PyProof.Rows hiding St
open Sem (wp)
abbrev hN (w : World) (k : NK) : Int := k.hash w
/-- the tuple at a is the key k -/
def IsN (h : Heap) (k : NK) (a : Addr) : Prop := NestedIs h k (.ref a) ∧ k.depth ≤ 8
section
variable {P : Program} {w : World} {A : Around} {E : Value → Shared → Prop} {s : Shared}
theorem IsN.tup {h : Heap} {k : NK} {a : Addr} (x : IsN h k a) : ∃ ks o vs n, k = .tup ks ∧ h.get? a = some o ∧ o.cls = .type "tuple" ∧ o.data = .seq vs n ∧ NestedAll h ks vs.toList := by
  obtain ⟨x, _⟩ := x
  cases x with
  | tup h1 h2 h3 h4 => exact ⟨_, _, _, _, rfl, h1, h2, h3, h4⟩
theorem IsN.keep {h h' : Heap} {k : NK} {a : Addr} (x : IsN h k a) (hk : ∀ c o, h.get? c = some o → h'.get? c = some o) : IsN h' k a := ⟨NestedIs.at (fun b ob vs n e _ => hk b ob e) k _ x.1, x.2⟩
theorem IsN.same {h h' : Heap} {k : NK} {a b : Addr} {o : Obj} {es : Array (Int × Value)} {ep : Nat} {t : SetTable} (x : IsN h k b) (ho : h.get? a = some o) (hd : o.data = .set es ep t) (hs : Heap.SameBut a h h') : IsN h' k b := by
  refine ⟨NestedIs.at (fun c oc vs n e1 e2 => ?_) k _ x.1, x.2⟩
  have hne : c ≠ a := by
    intro z; subst z
    rw [ho] at e1; cases e1
    rw [hd] at e2; cases e2
  exact (hs.2 c hne).trans e1
theorem IsN.inj {h : Heap} {k k' : NK} {a : Addr} (x : IsN h k a) (y : IsN h k' a) : k = k' := NestedIs.inj _ _ _ x.1 y.1
theorem nall_mem {h : Heap} : ∀ {ks : List NK} {vs : List Value}, NestedAll h ks vs → ∀ v ∈ vs, ∃ k ∈ ks, NestedIs h k v
  | _, _, .nil, _, hv => nomatch hv
  | _, _, .cons h1 h2, v, hv => by
    rcases List.mem_cons.mp hv with e | hv
    · exact ⟨_, List.mem_cons_self, e ▸ h1⟩
    · obtain ⟨k, a, b⟩ := nall_mem h2 v hv
      exact ⟨k, List.mem_cons_of_mem _ a, b⟩
theorem depth_mem {ks : List NK} {k : NK} (h : k ∈ ks) : k.depth ≤ NestedKey.depthAll ks := by
  induction ks with
  | nil => exact nomatch h
  | cons c cs ih =>
    simp only [NestedKey.depthAll]
    rcases List.mem_cons.mp h with rfl | h
    · exact Nat.le_max_left _ _
    · exact Nat.le_trans (ih h) (Nat.le_max_right _ _)
/-- hash(v) by its value: some answer -/
theorem hashBy_some : ∀ (n : Nat) (k : NK) (v : Value) (s : Shared) (Q : Bool → Shared → Prop), NestedIs s.heap k v → (∀ b, Q b s) → wpAny (model P w) A (hashByValue n v) Q E s := by
  intro n
  induction n with
  | zero =>
    intro k v s Q x h
    cases x <;> first | exact wpAny_pure (h true) | exact wpAny_pure (h false)
  | succ n ih =>
    intro k v s Q x h
    cases x with
    | @tup a o vs m _ h1 h2 h3 h4 =>
      have hT : s.TypeIs (.ref a) "tuple" := ⟨o, h1, h2⟩
      unfold hashByValue
      refine wpAny_bind (wpAny_specialOf hT F.slot_tuple_hash.lookup ?_)
      show wpAny _ _ (seqItems? (.ref a) >>= _) _ _ s
      refine wpAny_bind (wpAny_seqItems h1 h3 ?_); refine wpAny_bind ?_
      show wpAny _ _ (forIn vs _ _) _ _ s
      rw [← Array.forIn_toList]
      have items := nall_mem h4
      refine wpAny_mono (wpAny_forIn_list _ (fun rest r s' => s' = s ∧ r.1 = none ∧ ∀ u ∈ rest, u ∈ vs.toList) (fun r s' => s' = s ∧ (r.1 = none ∨ ∃ b, r.1 = some b)) ?_ ?_ _ _ ⟨rfl, rfl, fun u hu => hu⟩) ?_ (fun _ _ q => q)
      · rintro u rest r s' ⟨rfl, hr, hall⟩
        obtain ⟨k', _, hk'⟩ := items u (hall u List.mem_cons_self)
        refine wpAny_bind (ih k' u s' _ hk' fun b => ?_)
        cases b with
        | true => simp only [Bool.not_true, Bool.false_eq_true, if_false]; exact wpAny_pure ⟨rfl, rfl, fun z hz => hall z (List.mem_cons_of_mem _ hz)⟩
        | false => simp only [Bool.not_false, if_true]; exact wpAny_pure ⟨rfl, .inr ⟨_, rfl⟩⟩
      · rintro r s' ⟨rfl, hr, _⟩; exact ⟨rfl, .inl hr⟩
      · rintro ⟨r1, r2⟩ s' ⟨rfl, hr⟩
        rcases hr with hr | ⟨b, hr⟩
        · simp only at hr; subst hr; exact wpAny_pure (h true)
        · simp only at hr; subst hr; exact wpAny_pure (h b)
    | _ => first | exact wpAny_pure (h true) | exact wpAny_pure (h false)
/-- no class statement in it -/
theorem ofAClass_no : ∀ (n : Nat) (k : NK) (v : Value) (s : Shared) (Q : Bool → Shared → Prop), NestedIs s.heap k v → k.depth ≤ n → Q false s → wpAny (model P w) A (ofAClassStatement n v) Q E s := by
  intro n
  induction n with
  | zero =>
    intro k v s Q x hd h
    cases x with
    | tup => simp [NestedKey.depth] at hd
    | _ => exact wpAny_pure h
  | succ n ih =>
    intro k v s Q x hd h
    cases x with
    | @tup a o vs m ks h1 h2 h3 h4 =>
      have hT : s.TypeIs (.ref a) "tuple" := ⟨o, h1, h2⟩
      have hd' : NestedKey.depthAll ks ≤ n := by simp only [NestedKey.depth] at hd; omega
      unfold ofAClassStatement
      refine wpAny_bind (wpAny_typeOf hT ?_); dsimp only
      have e : (("tuple" : String) == "tuple") = true := by decide
      simp only [e, if_true, Bool.not_true, Bool.false_eq_true, if_false]
      try refine wpAny_bind (wpAny_pure ?_)
      try simp only [Bool.not_true, Bool.false_eq_true, if_false]
      show wpAny _ _ (seqItems? (.ref a) >>= _) _ _ s
      refine wpAny_bind (wpAny_seqItems h1 h3 ?_); dsimp only; refine wpAny_bind ?_
      show wpAny _ _ (forIn vs _ _) _ _ s
      rw [← Array.forIn_toList]
      have items := nall_mem h4
      refine wpAny_forIn_list _ (fun rest r s' => r.1 = none ∧ s' = s ∧ ∀ u ∈ rest, u ∈ vs.toList) _ ?_ ?_ _ _ ⟨rfl, rfl, fun u hu => hu⟩
      · rintro u rest r s' ⟨hr, rfl, hall⟩
        obtain ⟨k', hm, hk'⟩ := items u (hall u List.mem_cons_self)
        refine wpAny_bind (ih k' u s' _ hk' (Nat.le_trans (depth_mem hm) hd') ?_)
        simp only [Bool.false_eq_true, if_false]
        exact wpAny_pure ⟨rfl, rfl, fun z hz => hall z (List.mem_cons_of_mem _ hz)⟩
      · rintro ⟨r1, r2⟩ s' ⟨hr, rfl, _⟩
        simp only at hr
        subst hr
        exact wpAny_pure h
    | _ => exact wpAny_pure h
/-- a search among tuples shows nothing -/
theorem seen_no {k : NK} {b : Addr} {Q : Bool → Shared → Prop} (hk : IsN s.heap k b) {ys : List Value} (hy : ∀ y ∈ ys, ∃ k' c, y = Value.ref c ∧ IsN s.heap k' c) (h : Q false s) : wpAny (model P w) A (searchCouldBeSeen (.ref b) ys) Q E s := by
  unfold searchCouldBeSeen
  refine wpAny_bind ?_
  refine wpAny_forIn_list _ (fun rest r s' => r.1 = none ∧ s' = s ∧ ∀ y ∈ rest, ∃ k' c, y = Value.ref c ∧ IsN s.heap k' c) _ ?_ ?_ _ _ ⟨rfl, rfl, hy⟩
  · rintro v rest r s' ⟨hr, rfl, hall⟩
    obtain ⟨k', c, rfl, hc⟩ := hall v List.mem_cons_self
    have more : ∀ y ∈ rest, ∃ k' c, y = Value.ref c ∧ IsN s'.heap k' c := fun u hu' => hall u (List.mem_cons_of_mem _ hu')
    dsimp only
    by_cases hv : (b == c || (carriedByValue (.ref b) && carriedByValue (.ref c))) = true
    · refine wp_if_pos hv ?_; exact wpAny_pure ⟨rfl, rfl, more⟩
    · refine wp_if_neg hv ?_
      refine wpAny_bind (quiet_key k _ 8 s' hk.1 hk.2 A E _ ?_); simp only [Bool.not_true, Bool.false_eq_true, if_false]
      refine wpAny_bind (quiet_key k' _ 8 s' hc.1 hc.2 A E _ ?_); simp only [Bool.not_true, Bool.false_eq_true, if_false]
      refine wpAny_bind (ofAClass_no 8 k _ s' _ hk.1 hk.2 ?_); simp only [Bool.false_eq_true, if_false]
      refine wpAny_bind (ofAClass_no 8 k' _ s' _ hc.1 hc.2 ?_); simp only [Bool.false_eq_true, if_false]
      exact wpAny_pure ⟨rfl, rfl, more⟩
  · rintro ⟨r1, r2⟩ s' ⟨hr, rfl, _⟩
    simp only at hr
    subst hr
    exact wpAny_pure h
theorem eqB_key {x y : NK} {a b : Addr} {Q : Bool → Shared → Prop} (hu : A.units + 8 < cLine) (hx : IsN s.heap x a) (hy : IsN s.heap y b) (h : Q (decide (x = y)) s) : wpAny (model P w) A (eqBool (.ref a) (.ref b)) Q E s :=
  eqAt_key x y A s _ _ hx.1 hy.1 (by have := hx.2; have := hy.2; omega) _ _ _ _ (by rw [← NestedKey.decide_eq]; exact h)
def rowsN (w : World) (L : List (Addr × NK)) : List (Int × Value) := L.map fun p => (hN w p.2, Value.ref p.1)
theorem rowsN_len {L : List (Addr × NK)} {es : Array (Int × Value)} (h : es.toList = rowsN w L) : es.size = L.length := by
  have := congrArg List.length h
  rwa [rowsN, Array.length_toList, List.length_map] at this
theorem rowsN_at {L : List (Addr × NK)} {es : Array (Int × Value)} (h : es.toList = rowsN w L) {i : Nat} {p : Addr × NK} (e : L[i]? = some p) : es[i]? = some (hN w p.2, Value.ref p.1) := by
  rw [← Array.getElem?_toList, h, rowsN, List.getElem?_map, e]; rfl
structure SetN (w : World) (h : Heap) (a : Addr) (L : List (Addr × NK)) (es : Array (Int × Value)) (ep : Nat) (t : SetTable) : Prop where
  ob : ∃ o, h.get? a = some o ∧ o.ExactSet ∧ o.data = .set es ep t
  rows : es.toList = rowsN w L
  tab : TabOk t (L.map fun p => hN w p.2)
  nd : (L.map (·.2)).Nodup
  is : ∀ p ∈ L, IsN h p.2 p.1
  led : w.params.followText "set-order" = true ∨ t.led = true
  room : L.length * 5 < t.mask * 3
  few : L.length < 64
variable {a : Addr} {L : List (Addr × NK)} {es : Array (Int × Value)} {ep : Nat} {t : SetTable}
theorem fits_of {hs : List Int} (T : TabOk t hs) (e : es.size = hs.length) (hl : hs.length ≤ t.mask) : t.fits es.size = true := by
  have h1 := T.sz
  unfold SetTable.fits SetTable.fill
  rw [T.dm, Bool.and_eq_true, beq_iff_eq, decide_eq_true_eq]
  show t.place.size = es.size ∧ t.place.size + 0 ≤ t.mask
  omega
theorem SetN.fits (R : SetN w s.heap a L es ep t) : t.fits es.size = true := fits_of R.tab (by rw [List.length_map]; exact rowsN_len R.rows) (by rw [List.length_map]; have := R.room; omega)
theorem gw_of {hs : List Int} (T : TabOk t hs) : ¬ t.gaveWay = true := by unfold SetTable.gaveWay; rw [mask_odd T.mok]; decide
theorem probe_calm (m : Nat) : ∀ (n : Nat) (p : SetTable.Probe), p.dummy = none → (nth m p n).dummy = none
  | 0, _, h => h
  | n + 1, p, h => probe_calm m n (adv m p) (by unfold adv; split <;> exact h)
abbrev atN (m : Nat) (h : Int) (c : Nat) : SetTable.Probe := nth m (runAt m (SetTable.bits h % (m + 1)) (SetTable.bits h)) c
/-- the search from the c-th step of the way on; K: the first free step -/
theorem searchN (R : SetN w s.heap a L es ep t) {x : Addr} {k : NK} (hx : IsN s.heap k x) (hu : A.units + 8 < cLine) {K : Nat} (hKf : K < 10 * SetTable.turns t.mask) (hK : way t.mask (hN w k) K ∉ t.place.toList) (hKb : ∀ c, c < K → way t.mask (hN w k) c ∈ t.place.toList)
    {Q : SetFound → Shared → Prop} (hin : k ∈ L.map (·.2) → Q (.there none) s) (hout : k ∉ L.map (·.2) → Q (.free (way t.mask (hN w k) K) false) s) :
    ∀ (f c : Nat) (stand : Option SetTable.Probe), stand.getD (t.probeStart (hN w k)) = atN t.mask (hN w k) c → c ≤ K → K - c < f → (∀ (i : Nat) p, L[i]? = some p → p.2 = k → ∃ c', c ≤ c' ∧ c' < K ∧ t.place.toList[i]? = some (way t.mask (hN w k) c')) →
      wpAny (model P w) A (setSearchFrom a (.ref x) (hN w k) true f stand) Q E s := by
  intro f
  induction f with
  | zero => intro c stand _ _ hf; exact absurd hf (Nat.not_lt_zero _)
  | succ f ih =>
    intro c stand hst hc hf hre
    obtain ⟨o, ho, hex, hd⟩ := R.ob
    generalize hH : hN w k = hk at *
    have shift : ∀ q, nth t.mask (atN t.mask hk c) q = atN t.mask hk (c + q) := fun q => (nth_add t.mask c _ q).symm
    have wayE : ∀ q, (nth t.mask (atN t.mask hk c) q).j = way t.mask hk (c + q) := fun q => congrArg SetTable.Probe.j (shift q)
    have look : ∀ (i : Nat) p, L[i]? = some p → (fun i => (es[i]?.map (·.1)).getD 0) i = hN w p.2 := fun i p hp => by show (es[i]?.map (·.1)).getD 0 = _; rw [rowsN_at R.rows hp]; rfl
    rw [setSearchFrom_succ]
    refine wpAny_bind (wpAny_setState_of ho hd R.fits ?_); dsimp only; refine wp_if_neg (gw_of R.tab) ?_
    try refine wpAny_bind (wpAny_pure ?_)
    rcases go_spec t R.tab.ris R.tab.dm (fun i => (es[i]?.map (·.1)).getD 0) hk (10 * SetTable.turns t.mask) (K - c) (atN t.mask hk c) (probe_calm t.mask c _ rfl) (by omega) (fun q hq => by rw [wayE]; exact hKb (c + q) (by omega)) (by rw [wayE, show c + (K - c) = K by omega]; exact hK) with ⟨q, i, hq, hi, hh, hno, hpr⟩ | ⟨hno, hpr⟩
    · have found : t.probe (fun i => (es[i]?.map (·.1)).getD 0) hk (stand.getD (t.probeStart hk)) = some (.candidate (way t.mask hk (c + q)) i (atN t.mask hk (c + (q + 1)))) := by rw [hst, ← wayE, ← shift]; exact hpr
      rw [found]; dsimp only
      rw [wayE] at hi
      have inL : i < L.length := by
        have h1 := (List.getElem?_eq_some_iff.mp hi).1
        have h2 := R.tab.sz
        rw [List.length_map] at h2; rw [Array.length_toList] at h1; omega
      obtain ⟨p, hp⟩ : ∃ p, L[i]? = some p := ⟨L[i], List.getElem?_eq_getElem inL⟩
      have hmem : p ∈ L := List.mem_of_getElem? hp
      have live : t.slot (way t.mask hk (c + q)) = .live i := slot_live R.tab.ris hi
      have rest : wpAny (model P w) A (searchRest a (.ref x) hk true f es t (way t.mask hk (c + q)) i (atN t.mask hk (c + (q + 1)))) Q E s := by
        unfold searchRest
        rw [rowsN_at R.rows hp]; dsimp only
        refine wpAny_bind (wpAny_holding (eqB_key hu (R.is p hmem) hx ?_))
        refine wpAny_bind (wpAny_setState_of ho hd R.fits ?_); dsimp only
        by_cases hkk : p.2 = k
        · refine wp_if_pos (by simp [hkk]) ?_; exact wpAny_pure (hin (List.mem_map.mpr ⟨p, hmem, hkk⟩))
        · refine wp_if_neg (by simp [hkk]) ?_
          try refine wpAny_bind (wpAny_pure ?_)
          rw [sameMem]; dsimp only
          simp only [if_true, live, rowsN_at R.rows hp]
          refine wpAny_bind (wpAny_isSame_ref_self (wpAny_bind (wpAny_pure ?_)))
          simp only [if_true]
          refine wp_if_neg (by simp [hkk]) ?_
          refine ih (c + (q + 1)) _ rfl (by omega) (by omega) fun i0 p0 h0 hk0 => ?_
          obtain ⟨c', a1, a2, a3⟩ := hre i0 p0 h0 hk0
          refine ⟨c', ?_, a2, a3⟩
          rcases Nat.lt_or_ge c' (c + q) with z | z
          · exact absurd ((look i0 p0 h0).trans (by rw [hk0]; exact hH)) (fun e => hno (c' - c) i0 (by omega) (by rw [wayE, show c + (c' - c) = c' by omega]; exact a3) e)
          · rcases Nat.lt_or_ge (c + q) c' with y | y
            · omega
            · exfalso
              rw [Nat.le_antisymm y z] at a3
              have s0 := slot_live R.tab.ris a3
              rw [live] at s0; injection s0 with s0
              rw [← s0, hp] at h0
              exact hkk ((congrArg Prod.snd (Option.some.inj h0)).trans hk0)
      by_cases hl : t.led = true
      · refine wp_if_neg (by simp [hl]) ?_
        try refine wpAny_bind (wpAny_pure ?_)
        exact rest
      · refine wp_if_pos (by simp [hl]) ?_
        refine wpAny_bind (seen_no hx (fun y hy => ?_) ?_)
        · obtain ⟨e, he, ee⟩ := List.mem_map.mp hy
          have he2 : e ∈ es.toList := by
            have : e ∈ es ∧ e.1 = hk := by simpa using he
            simpa using this.1
          rw [R.rows] at he2
          obtain ⟨p2, hp2, e2⟩ := List.mem_map.mp he2
          exact ⟨p2.2, p2.1, by rw [← ee, ← e2], R.is p2 hp2⟩
        · refine wp_if_neg (by decide) ?_
          try refine wpAny_bind (wpAny_pure ?_)
          exact rest
    · have free : t.probe (fun i => (es[i]?.map (·.1)).getD 0) hk (stand.getD (t.probeStart hk)) = some (.empty (way t.mask hk K) none) := by
        rw [hst, show way t.mask hk K = (nth t.mask (atN t.mask hk c) (K - c)).j by rw [wayE, show c + (K - c) = K by omega]]; exact hpr
      rw [free]; dsimp only
      refine wpAny_pure (hout fun hm => ?_)
      obtain ⟨p0, h0, hk0⟩ := List.mem_map.mp hm
      obtain ⟨i0, h00⟩ := List.getElem?_of_mem h0
      obtain ⟨c', a1, a2, a3⟩ := hre i0 p0 h00 hk0
      exact hno (c' - c) i0 (by omega) (by rw [wayE, show c + (c' - c) = c' by omega]; exact a3) ((look i0 p0 h00).trans (by rw [hk0]; exact hH))
theorem searchN_at (R : SetN w s.heap a L es ep t) {x : Addr} {k : NK} (hx : IsN s.heap k x) (hu : A.units + 8 < cLine) {Q : SetFound → Shared → Prop} (hin : k ∈ L.map (·.2) → Q (.there none) s)
    (hout : ∀ K, k ∉ L.map (·.2) → way t.mask (hN w k) K ∉ t.place.toList → (∀ c, c < K → way t.mask (hN w k) c ∈ t.place.toList) → Q (.free (way t.mask (hN w k) K) false) s) : wpAny (model P w) A (setSearch a (.ref x) (hN w k) true) Q E s := by
  have room := R.room
  obtain ⟨K, hKf, hK, hKb⟩ := R.tab.first (by rw [List.length_map]; omega) (hN w k)
  have big : K < 100000 := by
    have : 10 * SetTable.turns t.mask ≤ 1420 := by unfold SetTable.turns; rcases R.tab.mok with e | e | e <;> omega
    omega
  unfold setSearch
  refine searchN R hx hu hKf hK hKb hin (fun hn => hout K hn hK hKb) 100000 0 none rfl (Nat.zero_le _) (by omega) fun i p hp hk => ?_
  have hi : (L.map fun p => hN w p.2)[i]? = some (hN w k) := by rw [List.getElem?_map, hp, ← hk]; rfl
  have hil : i < t.place.toList.length := by
    have h1 := (List.getElem?_eq_some_iff.mp hp).1
    have h2 := R.tab.sz
    rw [List.length_map] at h2; rw [Array.length_toList]; omega
  have hj := List.getElem?_eq_getElem hil
  obtain ⟨c, hc, e⟩ := R.tab.before hK hi hj
  exact ⟨c, Nat.zero_le _, hc, by rw [hj, e]⟩
theorem orderN (es : Array (Int × Value)) (order : Array Nat) (hr : es.toList = rowsN w L) (hp : order.toList.Perm (List.range L.length)) :
    ∃ L2, (order.filterMap (es[·]?)).toList = rowsN w L2 ∧ L2.Perm L ∧ (L2.map fun p => hN w p.2) = order.toList.map fun i => (es.map (·.1)).getD i 0 := by
  have each : ∀ l : List Nat, (∀ i ∈ l, i < L.length) → l.filterMap (fun i => es[i]?) = rowsN w (l.filterMap fun i => L[i]?) ∧ ((l.filterMap fun i => L[i]?).map fun p => hN w p.2) = l.map fun i => (es.map (·.1)).getD i 0 := by
    intro l
    induction l with
    | nil => intro _; exact ⟨rfl, rfl⟩
    | cons i l ih =>
      intro hl
      have hi := List.getElem?_eq_getElem (hl i List.mem_cons_self)
      obtain ⟨e1, e2⟩ := ih fun j hj => hl j (List.mem_cons_of_mem _ hj)
      have he := rowsN_at hr hi
      refine ⟨by rw [List.filterMap_cons_some he, List.filterMap_cons_some hi, e1]; rfl, ?_⟩
      rw [List.filterMap_cons_some hi, List.map_cons, List.map_cons, e2]
      have e5 : (es.map (·.1))[i]? = some (hN w (L[i]'(hl i List.mem_cons_self)).2) := by rw [Array.getElem?_map, he]; rfl
      rw [show (es.map (·.1)).getD i 0 = hN w (L[i]'(hl i List.mem_cons_self)).2 by simp [Array.getD_eq_getD_getElem?, e5]]
  obtain ⟨e1, e2⟩ := each order.toList fun i hi => List.mem_range.mp (hp.mem_iff.mp hi)
  refine ⟨_, by first | (rw [Array.toList_filterMap]; exact e1) | simpa using e1, ?_, e2⟩
  have all : ∀ n, n ≤ L.length → (List.range n).filterMap (fun i => L[i]?) = L.take n := by
    intro n
    induction n with
    | zero => intro _; rfl
    | succ n ih =>
      intro hn
      rw [List.range_succ, List.filterMap_append, ih (Nat.le_of_lt hn), List.take_succ, List.filterMap_cons_some (List.getElem?_eq_getElem hn), List.getElem?_eq_getElem hn]; rfl
  have := hp.filterMap fun i => L[i]?
  rwa [all L.length (Nat.le_refl _), List.take_length] at this
theorem relayN {o : Obj} (ho : s.heap.get? a = some o) (hex : o.ExactSet) (hd : o.data = .set es ep t) (hrows : es.toList = rowsN w L) (T0 : TabOk t (L.map fun p => hN w p.2)) (hfl : L.length ≤ t.mask) (nd : (L.map (·.2)).Nodup) (is : ∀ p ∈ L, IsN s.heap p.2 p.1)
    (ld : w.params.followText "set-order" = true ∨ t.led = true) (few : L.length < 64) {wanted M : Nat} (hw : SetTable.sizeAbove wanted - 1 = M) (hM : MaskOk M) (hw2 : SetTable.sizeAbove wanted ≤ 128) (hn : L.length * 5 < M * 3) {Q : Unit → Shared → Prop}
    (hQ : ∀ h' L' es' ep' t', Heap.SameBut a s.heap h' → SetN w h' a L' es' ep' t' → L'.Perm L → Q () { s with heap := h' }) : wpAny (model P w) A (setRelay a wanted) Q E s := by
  have hsl := rowsN_len hrows
  obtain ⟨t', order, e, hp, T, em, el, ep', ed⟩ := relaid_ok t (hs := es.map (·.1)) (wanted := wanted) hw hM (by rw [Array.size_map, hsl]; omega)
  rw [Array.size_map, hsl] at hp
  obtain ⟨L2, r1, r2, r3⟩ := orderN es order hrows hp
  rw [← r3] at T
  have hs2 : (order.filterMap (es[·]?)).size = es.size := by rw [rowsN_len r1, r2.length_eq, hsl]
  rw [setRelay_eq]
  refine wpAny_bind (wpAny_setState_of ho hd (fits_of T0 (by rw [List.length_map]; exact hsl) (by rw [List.length_map]; exact hfl)) ?_); dsimp only
  refine wp_if_neg (by rw [sizeLine_eq]; omega) ?_
  try refine wpAny_bind (wpAny_pure ?_)
  rw [e]; dsimp only
  refine wpAny_bind ?_
  refine wp_if_neg (by rw [hs2]; simp) ?_
  try refine wpAny_bind (wpAny_pure ?_)
  refine wpAny_pure ?_
  dsimp only
  refine wpAny_storeSet_of ho hd ?_ (by rw [hs2, hsl, sizeLine_eq]; omega)
  have sb : Heap.SameBut a s.heap (s.heap.update a (Obj.putSet (order.filterMap (es[·]?)) t')) := Heap.SameBut.update ..
  exact hQ _ L2 (order.filterMap (es[·]?)) (ep + 1) t' sb ⟨⟨_, store_at ho hd, ⟨hex.1, hex.2.1, hex.2.2⟩, rfl⟩, r1, T, (r2.map (·.2)).nodup_iff.mpr nd, fun p hpm => (is p (r2.mem_iff.mp hpm)).same ho hd sb, by rw [el]; exact ld, by rw [r2.length_eq, em]; exact hn, by rw [r2.length_eq]; exact few⟩ r2
/-- a tuple is added -/
theorem addN (R : SetN w s.heap a L es ep t) {x : Addr} {k : NK} (hx : IsN s.heap k x) (hu : A.units + 8 < cLine) (hfew : L.length + 1 < 64) {Q : Bool → Shared → Prop}
    (hQ : ∀ b h' L' es' ep' t', Heap.SameBut a s.heap h' → SetN w h' a L' es' ep' t' → (k ∈ L.map (·.2) → L' = L) → (k ∉ L.map (·.2) → L'.Perm ((x, k) :: L)) → Q b { s with heap := h' }) : wpAny (model P w) A (setAddHashed a (.ref x) (hN w k)) Q E s := by
  obtain ⟨o, ho, hex, hd⟩ := R.ob
  have room := R.room
  unfold setAddHashed
  refine wpAny_holding ?_
  rw [show (100000 : Nat) = 99999 + 1 from rfl, setAddHashedIn_succ]
  refine wpAny_bind (wpAny_setState_of ho hd R.fits ?_); dsimp only
  refine wp_if_neg (by simp [byScan, Value.scannable]) ?_
  try refine wpAny_bind (wpAny_pure ?_)
  refine wpAny_bind (searchN_at R hx hu (fun hm => ?_) fun K hm hK hb => ?_)
  · dsimp only; exact wpAny_pure (hQ false s.heap L es ep t (Heap.SameBut.refl a s.heap) R (fun _ => rfl) fun z => absurd hm z)
  dsimp only
  refine wpAny_bind (wpAny_setState_of ho hd R.fits ?_); dsimp only
  obtain ⟨q1, q2, q3, q4, q5, q6, q7, q8, q9⟩ := R.tab.put hK hb
  generalize hpt : t.put (way t.mask (hN w k) K) = pt at q1 q3 q4 q5 q6 q7 q8 q9 ⊢
  obtain ⟨t1, p⟩ := pt
  dsimp only at q1 q3 q4 q5 q6 q7 q8 q9 ⊢
  subst q1
  have hin : (SetTable.insertAt es (SetTable.below t.place (way t.mask (hN w k) K)) (hN w k, Value.ref x)).toList = rowsN w (L.take (SetTable.below t.place (way t.mask (hN w k) K)) ++ (x, k) :: L.drop (SetTable.below t.place (way t.mask (hN w k) K))) := by
    rw [SetTable.toList_insertAt, R.rows]; unfold rowsN; rw [List.map_append, List.map_cons, List.map_take, List.map_drop]
  generalize hpp : SetTable.below t.place (way t.mask (hN w k) K) = p at q2 q3 hin ⊢
  have pm := put_perm L p (x, k)
  have hlen : (L.take p ++ (x, k) :: L.drop p).length = L.length + 1 := pm.length_eq
  have hhs : (L.take p ++ (x, k) :: L.drop p).map (fun p => hN w p.2) = (L.map fun p => hN w p.2).take p ++ hN w k :: (L.map fun p => hN w p.2).drop p := by rw [List.map_append, List.map_cons, List.map_take, List.map_drop]
  rw [← hhs] at q3
  have nd1 : ((L.take p ++ (x, k) :: L.drop p).map (·.2)).Nodup := (pm.map (·.2)).nodup_iff.mpr (by rw [List.map_cons]; exact List.nodup_cons.mpr ⟨hm, R.nd⟩)
  have hes := rowsN_len hin
  rw [hlen] at hes
  generalize SetTable.insertAt es p (hN w k, Value.ref x) = es1 at hin hes ⊢
  generalize L.take p ++ (x, k) :: L.drop p = L1 at pm hlen q3 nd1 hin
  -- whatever the table tells of its values
  have main : ∀ t2 : SetTable, TabOk t2 (L1.map fun p => hN w p.2) → t2.mask = t.mask → t2.fill = (L.map fun p => hN w p.2).length + 1 → (w.params.followText "set-order" = true ∨ t2.led = true) →
      wpAny (model P w) A (storeSet a es1 t2 >>= fun _ => if (!false && t2.tooFull) = true then setRelay a (SetTable.grown (es.size + 1)) >>= fun _ => pure true else pure true) Q E s := by
    intro t2 T2 em2 fill2 led2
    refine wpAny_bind (wpAny_storeSet_of ho hd ?_ (by rw [hes, sizeLine_eq]; omega))
    have sb : Heap.SameBut a s.heap (s.heap.update a (Obj.putSet es1 t2)) := Heap.SameBut.update ..
    have ho1 := store_at (es' := es1) (t' := t2) ho hd
    generalize s.heap.update a (Obj.putSet es1 t2) = h1 at sb ho1 ⊢
    have is1 : ∀ p ∈ L1, IsN h1 p.2 p.1 := fun p hp => by
      rcases List.mem_cons.mp (pm.mem_iff.mp hp) with e | hp
      · rw [e]; exact hx.same ho hd sb
      · exact (R.is p hp).same ho hd sb
    by_cases hf : t2.tooFull = true
    · refine wp_if_pos (by simp [hf]) ?_
      have hfull : (L.length + 1) * 5 ≥ t2.mask * 3 := by
        have h := hf
        unfold SetTable.tooFull at h
        rw [decide_eq_true_eq, fill2, List.length_map] at h
        exact h
      rw [rowsN_len R.rows]
      have two : (t.mask = 7 ∧ L.length = 4) ∨ (t.mask = 31 ∧ L.length = 18) := by
        rw [em2] at hfull
        rcases R.tab.mok with e | e | e
        · left; rw [e] at hfull room; exact ⟨e, by omega⟩
        · right; rw [e] at hfull room; exact ⟨e, by omega⟩
        · exfalso; rw [e] at hfull; omega
      have go : ∀ M, SetTable.sizeAbove (SetTable.grown (L.length + 1)) - 1 = M → MaskOk M → SetTable.sizeAbove (SetTable.grown (L.length + 1)) ≤ 128 → (L.length + 1) * 5 < M * 3 →
          wpAny (model P w) A (setRelay a (SetTable.grown (L.length + 1)) >>= fun _ => pure true) Q E { s with heap := h1 } := fun M x1 x2 x3 x4 => by
        refine wpAny_bind (relayN (s := { s with heap := h1 }) ho1 ⟨hex.1, hex.2.1, hex.2.2⟩ rfl hin T2 (by rw [hlen, em2]; rcases two with ⟨e, e2⟩ | ⟨e, e2⟩ <;> omega) nd1 is1 led2 (by rw [hlen]; exact hfew) x1 x2 x3 (by rw [hlen]; exact x4) fun h2 L2 es2 ep2 t2 sb2 R2 pm2 => ?_)
        exact wpAny_pure (hQ true h2 L2 es2 ep2 t2 (sb.trans sb2) R2 (fun z => absurd z hm) fun _ => pm2.trans pm)
      rcases two with ⟨_, e2⟩ | ⟨_, e2⟩
      · exact go 31 (by rw [e2, size_20]) (.inr (.inl rfl)) (by rw [e2, size_20]; decide) (by omega)
      · exact go 127 (by rw [e2, size_76]) (.inr (.inr rfl)) (by rw [e2, size_76]; decide) (by omega)
    · refine wp_if_neg (by simp [hf]) ?_
      refine wpAny_pure (hQ true h1 L1 es1 (ep + 1) t2 sb ⟨⟨_, ho1, ⟨hex.1, hex.2.1, hex.2.2⟩, rfl⟩, hin, T2, nd1, is1, led2, ?_, by rw [hlen]; exact hfew⟩ (fun z => absurd z hm) fun _ => pm)
      have h := hf
      unfold SetTable.tooFull at h
      rw [decide_eq_true_eq, fill2, List.length_map] at h
      rw [hlen]; omega
  have led1 : w.params.followText "set-order" = true ∨ t1.led = true := by rw [q5]; exact R.led
  have T2 : TabOk { t1 with plain := false } (L1.map fun p => hN w p.2) := ⟨q3.ris, q3.dm, q3.sz, q3.mok, q3.bd, q3.reach⟩
  by_cases hp : t1.plain = true
  · first
      | (refine wpAny_bind ?_; refine wp_if_pos hp ?_; refine hashBy_some 8 k _ s _ hx.1 fun b => ?_)
      | refine wp_if_pos hp (wpAny_bind (hashBy_some 8 k _ s _ hx.1 fun b => ?_))
    cases b with
    | true => simp only [if_true]; exact main t1 q3 q4 q9 led1
    | false => simp only [Bool.false_eq_true, if_false]; exact main { t1 with plain := false } T2 q4 q9 led1
  · first
      | (refine wpAny_bind ?_; refine wp_if_neg hp ?_; refine wpAny_pure ?_)
      | refine wp_if_neg hp (wpAny_bind (wpAny_pure ?_))
    simp only [if_true]
    exact main t1 q3 q4 q9 led1
end
end VL
set_option maxHeartbeats 4000000
namespace VL
open PySem PySem.Spec L2
open PyProof.Rows hiding St
open Sem (wp)
section
variable {X : Cx} {pins : List (Addr × Obj)} {σ : L2.St} {H : Hp} {s : Shared} {G : Hp}
mutual
theorem nested_of (I : Inv X pins σ H s) (g : Same G H) : ∀ (d : D) {k : NK} {v : V} {u : Value}, keyN d = some k → Rp X.K G v d → RelV v u → NestedIs s.heap k u
  | .non, _, _, _, e, .non, r => by cases r; cases e; exact .none
  | .bl _, _, _, _, e, _, _ => by simp [keyN] at e
  | .int i, _, _, _, e, .int _, r => by obtain ⟨t, rfl⟩ := r; cases e; exact .int i t
  | .str x, _, _, _, e, .str _, r => by obtain ⟨t, rfl⟩ := r; cases e; exact .text x t
  | .tup ds, _, _, _, e, .tup h l, r => by
    cases r
    simp only [keyN, Option.map_eq_some_iff] at e
    obtain ⟨ks, e, rfl⟩ := e
    obtain ⟨its, rv, ⟨o, h1, h2, n, h3⟩, _⟩ := I.tuple (same_t g h)
    exact .tup h1 h2 h3 (nested_ofL I g ds e l rv)
  | .lst _, _, _, _, e, _, _ => by simp [keyN] at e
  | .ro _, _, _, _, e, _, _ => by simp [keyN] at e
  | .dct _, _, _, _, e, _, _ => by simp [keyN] at e
  | .ref _, _, _, _, e, _, _ => by simp [keyN] at e
theorem nested_ofL (I : Inv X pins σ H s) (g : Same G H) : ∀ (ds : List D) {ks : List NK} {vs : List V} {us : List Value}, keysN ds = some ks → RpL X.K G vs ds → Vals vs us → NestedAll s.heap ks us
  | [], _, _, _, e, .nil, r => by cases r; cases e; exact .nil
  | d :: ds, _, _, _, e, .cons h t, r => by
    cases r with
    | cons r1 r2 =>
      simp only [keysN] at e
      split at e
      · rename_i k ks e1 e2
        cases e
        exact .cons (nested_of I g d e1 h r1) (nested_ofL I g ds e2 t r2)
      · cases e
end
end
/-- a list's items in a row -/
inductive Tri (K : PySem.W.Frag) (G : Hp) : List Value → List (V × D) → Prop
  | nil : Tri K G [] []
  | cons {u : Value} {us : List Value} {v : V} {d : D} {bs : List (V × D)} (h1 : Rp K G v d) (h2 : RelV v u) (t : Tri K G us bs) : Tri K G (u :: us) ((v, d) :: bs)
theorem Tri.each {K : PySem.W.Frag} {G : Hp} : ∀ {us : List Value} {bs : List (V × D)}, Tri K G us bs → PySem.W.EachIs (fun u b => Rp K G b.1 b.2 ∧ RelV b.1 u) us bs
  | _, _, .nil => .nil
  | _, _, .cons h1 h2 t => .cons ⟨h1, h2⟩ t.each
theorem Tri.of {K : PySem.W.Frag} {G : Hp} : ∀ {us : List Value} {bs : List (V × D)}, PySem.W.EachIs (fun u b => Rp K G b.1 b.2 ∧ RelV b.1 u) us bs → Vals (bs.map (·.1)) us ∧ RpL K G (bs.map (·.1)) (bs.map (·.2))
  | _, _, .nil => ⟨.nil, .nil⟩
  | _, _, .cons h t => ⟨.cons h.2 (Tri.of t).1, .cons h.1 (Tri.of t).2⟩
/-- a new list made into what R says -/
theorem made_of {K : PySem.W.Frag} {R : List D → Store → (D → Store → Prop) → Prop} (hR : RecR R) {G : Hp} {S : Store} {H : Hp} {p : Addr} {ys : List V} {ds : List D} {Q : D → Store → Prop} (vw : View K G S H) (hp : H p = none) (rl : RpL K G ys ds) (q : R ds S Q) :
    ∃ S' G' d, Q d S' ∧ Aft K G S H S' (upd H p (.lst ys)) G' ∧ Rp K G' (.ref p) d := by
  have n0 := vw.none hp
  have aj := (Aft.refl vw).junk (u := .lst ys) hp n0.2 n0.1
  obtain ⟨S2, G2, d, qd, v', gg, rd, ot⟩ := hR K G S _ p ys ds Q aj.vw upd_same n0.2 n0.1 rl q
  refine ⟨S2, G2, d, qd, ⟨fun b ob hb eb => ?_, gg, v'⟩, rd⟩
  have hbp : b ≠ p := ne_of_none eb hp
  exact ⟨by rw [upd_ne hbp]; exact eb, by rw [(ot b hbp).1]; exact hb, (ot b hbp).2⟩
end VL
set_option maxHeartbeats 4000000
namespace VL
open PySem PySem.Spec L2
open PyProof.Rows hiding St
open Sem (wp)
mutual
theorem keyN_inj : ∀ (x y : D) {k : NK}, keyN x = some k → keyN y = some k → x = y
  | .non, y, k, h1, h2 => by cases h1; cases y <;> simp_all [keyN]
  | .int _, y, k, h1, h2 => by cases h1; cases y <;> simp_all [keyN]
  | .str _, y, k, h1, h2 => by cases h1; cases y <;> simp_all [keyN]
  | .tup ds, y, k, h1, h2 => by
    simp only [keyN, Option.map_eq_some_iff] at h1
    obtain ⟨ks, e1, rfl⟩ := h1
    cases y with
    | tup es =>
      simp only [keyN, Option.map_eq_some_iff] at h2
      obtain ⟨ks2, e2, e3⟩ := h2
      cases e3
      rw [keysN_inj ds es e1 e2]
    | _ => simp [keyN] at h2
  | .bl _, _, _, h, _ => by simp [keyN] at h
  | .lst _, _, _, h, _ => by simp [keyN] at h
  | .ro _, _, _, h, _ => by simp [keyN] at h
  | .dct _, _, _, h, _ => by simp [keyN] at h
  | .ref _, _, _, h, _ => by simp [keyN] at h
theorem keysN_inj : ∀ (xs ys : List D) {ks : List NK}, keysN xs = some ks → keysN ys = some ks → xs = ys
  | [], ys, ks, h1, h2 => by
    cases h1
    cases ys with
    | nil => rfl
    | cons y ys => simp only [keysN] at h2; split at h2 <;> cases h2
  | x :: xs, ys, ks, h1, h2 => by
    simp only [keysN] at h1
    split at h1
    · rename_i k ks' e1 e2
      cases h1
      cases ys with
      | nil => simp [keysN] at h2
      | cons y ys =>
        simp only [keysN] at h2
        split at h2
        · rename_i k2 ks2 f1 f2
          cases h2
          rw [keyN_inj x y e1 f1, keysN_inj xs ys e2 f2]
        · cases h2
    · cases h1
end
theorem perm_map {α β : Type} (f : β → α) {vs ws : List α} (h : vs.Perm ws) : ∀ l : List β, ws = l.map f → ∃ l' : List β, l'.Perm l ∧ vs = l'.map f := by
  induction h with
  | nil => intro l e; exact ⟨[], by cases l <;> simp_all, rfl⟩
  | cons x _ ih =>
    intro l e
    cases l with
    | nil => simp at e
    | cons b l =>
      simp only [List.map_cons, List.cons.injEq] at e
      obtain ⟨l', p, q⟩ := ih l e.2
      exact ⟨b :: l', p.cons b, by rw [List.map_cons, q, e.1]⟩
  | swap x y l0 =>
    intro l e
    match l, e with
    | b :: c :: l, e =>
      simp only [List.map_cons, List.cons.injEq] at e
      exact ⟨c :: b :: l, List.Perm.swap _ _ _, by rw [List.map_cons, List.map_cons, e.1, e.2.1, e.2.2]⟩
  | trans _ _ ih1 ih2 =>
    intro l e
    obtain ⟨l2, p2, e2⟩ := ih2 l e
    obtain ⟨l1, p1, e1⟩ := ih1 l2 e2
    exact ⟨l1, p1.trans p2, e1⟩
structure SetN0 (w : World) (h : Heap) (a : Addr) (L : List (Addr × NK)) : Prop where
  ex : ∃ (es : Array (Int × Value)) (ep : Nat) (t : SetTable), (∃ o, h.get? a = some o ∧ o.ExactSet ∧ o.data = .set es ep t) ∧ es.toList = rowsN w L ∧ TabOk t (L.map fun p => hN w p.2) ∧ (L.map (·.2)).Nodup ∧
    (w.params.followText "set-order" = true ∨ t.led = true) ∧ L.length * 5 < t.mask * 3 ∧ L.length < 64
def SetNO (w : World) (a : Addr) (L : List (Addr × NK)) : HO := .ext fun h => SetN0 w h a L
theorem SetN.n0 {w : World} {h : Heap} {a : Addr} {L : List (Addr × NK)} {es : Array (Int × Value)} {ep : Nat} {t : SetTable} (R : SetN w h a L es ep t) : SetN0 w h a L := ⟨es, ep, t, R.ob, R.rows, R.tab, R.nd, R.led, R.room, R.few⟩
theorem SetN0.full {w : World} {h : Heap} {a : Addr} {L : List (Addr × NK)} (R : SetN0 w h a L) (ht : ∀ p ∈ L, IsN h p.2 p.1) : ∃ es ep t, SetN w h a L es ep t := by
  obtain ⟨es, ep, t, h1, h2, h3, h4, h5, h6, h7⟩ := R.ex
  exact ⟨es, ep, t, h1, h2, h3, h4, ht, h5, h6, h7⟩
theorem setNO_new {P : Program} {w : World} {H : Hp} {h : Heap} {a : Addr} {L : List (Addr × NK)} (R : SetN0 w h a L) : ObjOk P w H h a (SetNO w a L) := by
  have ⟨es, ep, t, ⟨o, ho, r⟩, q⟩ := R.ex
  refine ⟨R, ⟨o, ho⟩, fun h1 h2 p k => ?_⟩
  have ⟨es', ep', t', ⟨o', ho', r'⟩, q'⟩ := SetN0.ex p
  exact ⟨es', ep', t', ⟨o', k o' ho', r'⟩, q'⟩
section
variable {X : Cx}
/-- a key: a tuple of simple things -/
def KeyT (y : D) : Prop := ∃ ks, keyN y = some (.tup ks) ∧ (NestedKey.tup ks).depth ≤ 8
def kOf (y : D) : NK := (keyN y).getD .none
theorem KeyT.eq {y : D} (h : KeyT y) : keyN y = some (kOf y) ∧ (kOf y).depth ≤ 8 := by
  obtain ⟨ks, e, d⟩ := h
  unfold kOf
  rw [e]; exact ⟨rfl, d⟩
theorem KeyT.tup {y : D} (h : KeyT y) : ∃ ds, y = .tup ds := by
  obtain ⟨ks, e, _⟩ := h
  cases y <;> first | exact ⟨_, rfl⟩ | simp [keyN] at e
theorem KeyT.ref {K : PySem.W.Frag} {G : Hp} {v : V} {y : D} (h : KeyT y) (r : Rp K G v y) : ∃ a, v = .ref a := by
  obtain ⟨ds, rfl⟩ := h.tup
  cases r; exact ⟨_, rfl⟩
abbrev keyed (T : List (Addr × D)) : List (Addr × NK) := T.map fun t => (t.1, kOf t.2)
def MemT (K : PySem.W.Frag) (G : Hp) (T : List (Addr × D)) : Prop := ∀ t ∈ T, Rp K G (.ref t.1) t.2 ∧ KeyT t.2
theorem MemT.mono {K : PySem.W.Frag} {G G' : Hp} {T : List (Addr × D)} (g : Same G G') (h : MemT K G T) : MemT K G' T := fun t ht => ⟨(h t ht).1.mono g, (h t ht).2⟩
theorem MemT.is {pins : List (Addr × Obj)} {σ : L2.St} {H : Hp} {s : Shared} {G : Hp} {T : List (Addr × D)} (I : Inv X pins σ H s) (g : Same G H) (h : MemT X.K G T) : ∀ p ∈ keyed T, IsN s.heap p.2 p.1 := by
  intro p hp
  obtain ⟨t, ht, rfl⟩ := List.mem_map.mp hp
  obtain ⟨r, k⟩ := h t ht
  exact ⟨nested_of I g t.2 k.eq.1 r rfl, k.eq.2⟩
def tLeafS (K : PySem.W.Frag) (w : World) (te : TE) (d : Addr) : TB := fun σ H Q => te σ H fun v H4 => ∃ (G : Hp) (y : D) (x : Addr) (T : List (Addr × D)), v = .ref x ∧ Same G H4 ∧ Rp K G v y ∧ KeyT y ∧ H4 d = some (SetNO w d (keyed T)) ∧ MemT K G T ∧ T.length + 1 < 64 ∧
  ∀ L', (kOf y ∈ (keyed T).map (·.2) → L' = keyed T) → (kOf y ∉ (keyed T).map (·.2) → L'.Perm (keyed ((x, y) :: T))) → Q (upd H4 d (SetNO w d L'))
theorem in_set {elt : Expr} {gs : List Comprehension} {sc : Scope} {p : Pos} {te : TE} {d : Addr} (hx : ∀ u s, ¬ X.xe u s) (hu : X.A.units + 64 < cLine) (he : PE X elt te) : PIn X (fun m => emitOf (.SetComp elt gs sc p) (.ref d) X.env >>= fun _ => m) [] (tLeafS X.K X.w te d) := by
  refine ⟨fun pins s σ H Q I h more Qf Ef hmore => ?_⟩
  unfold emitOf
  refine wpAny_bind (wpAny_bind (thnX hx (he.run pins s σ H _ I h) fun v s1 ⟨y', H1, I1, r1, G, y, x, T, ev, g, ry, ky, hd, hm, few, q⟩ => ?_))
  subst ev
  cases r1
  refine wpAny_bind (wpAny_standAt (wpAny_bind ?_))
  have R0 : SetN0 X.w s1.heap d (keyed T) := (I1.hok d _ hd).1
  obtain ⟨es, ep, t, R⟩ := R0.full (hm.is I1 g)
  obtain ⟨o, ho, hex, hdd⟩ := R.ob
  have isx : IsN s1.heap (kOf y) x := ⟨nested_of I1 g y ky.eq.1 ry rfl, ky.eq.2⟩
  refine wpAny_call_entry F.slot_set_add ⟨o, ho, hex.1⟩ F.entry_set_add ?_ (F.args_set_add_2 _ _)
  unfold Builtin.«set.add» Builtin.Frozenset.oneOther
  simp only [List.isEmpty_nil, bind_assoc]
  unfold Builtin.Frozenset.addrOf setAdd
  refine wpAny_bind (wpAny_pure ?_)
  try dsimp only
  refine wpAny_bind (wpAny_pure ?_)
  try dsimp only
  refine wpAny_bind ?_
  refine wpAny_holding ?_
  have dx := isx.2
  refine wpAny_bind (pyHash_key (kOf y) _ _ s1 _ isx.1 (by simp only [Around.in1_units]; omega) ?_)
  refine addN (s := { s1 with toks := s1.toks + (kOf y).draws }) R isx (by simp only [Around.in1_units]; omega) (by rw [List.length_map]; exact few) fun b h' L' es' ep' t' sb R' e1 e2 => ?_
  refine wpAny_pure ⟨_, rfl, wpAny_pure ?_⟩
  have he : ∃ u, h'.get? d = some u := by
    obtain ⟨o, ho, _⟩ := R'.ob
    exact ⟨o, ho⟩
  refine hmore _ (upd H1 d (SetNO X.w d L')) (I1.write (e := d) (t' := s1.toks + (kOf y).draws) (by rw [hd]; trivial) (.inl rfl) (fun b u hb hu => (sb.2 b hb).trans hu) he (setNO_new R'.n0)) (q L' e1 e2)
def relS (K : PySem.W.Frag) (w : World) (d : Addr) : Hp → List D → HO → Prop := fun G acc o => ∃ T : List (Addr × D), o = SetNO w d (keyed T) ∧ (T.map (·.2)).Perm acc ∧ MemT K G T
def bSet (me : VE) : VB (List D) := fun ρ S acc Q => acc.length < 63 ∧ me ρ S fun y S' => KeyT y ∧ (y ∈ acc → Q acc S') ∧ (y ∉ acc → Q (acc ++ [y]) S')
theorem bSet_e {me : VE} {ρ : Sl} {S : Store} {acc : List D} {Q : List D → Store → Prop} : bSet me ρ S acc Q = (acc.length < 63 ∧ me ρ S fun y S' => KeyT y ∧ (y ∈ acc → Q acc S') ∧ (y ∉ acc → Q (acc ++ [y]) S')) := rfl
theorem keyed_mem {K : PySem.W.Frag} {G : Hp} {T : List (Addr × D)} {y : D} (m : MemT K G T) (ky : KeyT y) : kOf y ∈ (keyed T).map (·.2) ↔ y ∈ T.map (·.2) := by
  simp only [List.map_map, List.mem_map, Function.comp]
  constructor
  · rintro ⟨t, ht, e⟩
    have h1 := (m t ht).2.eq.1
    rw [e] at h1
    exact ⟨t, ht, keyN_inj _ _ h1 ky.eq.1⟩
  · rintro ⟨t, ht, rfl⟩
    exact ⟨t, ht, rfl⟩
theorem b_set {elt : Expr} {gs : List Comprehension} {sc : Scope} {p : Pos} {me : VE} {d : Addr} (hx : ∀ u s, ¬ X.xe u s) (hu : X.A.units + 64 < cLine) (he : PE X elt (LE X.K me)) :
    PIn X (fun m => emitOf (.SetComp elt gs sc p) (.ref d) X.env >>= fun _ => m) [] (LB X.K (relS X.K X.w d) d (bSet me)) := by
  refine PIn.imp (in_set hx hu he) fun σ H Q' ⟨G0, S0, H0, ρ, S, G, acc, o, Q, hd0, a0, re, hH, ⟨T, eo, pm, m⟩, hS, hG, hm, k⟩ => ?_
  subst eo
  refine ⟨ρ, S, G, _, a0.vw, re, hm.2, fun y S1 v H1 G1 a1 r1 ⟨ky, q1, q2⟩ => ?_⟩
  obtain ⟨h1, s1, g1⟩ := a1.fr d _ hS hH
  have gd : G1 d = none := g1.trans hG
  obtain ⟨x, rfl⟩ := ky.ref r1
  have m1 := m.mono a1.gg
  have len : T.length = acc.length := by rw [← pm.length_eq, List.length_map]
  refine ⟨G1, y, x, T, rfl, a1.vw.gh, r1, ky, h1, m1, by have := hm.1; rw [len]; omega, fun L' e1 e2 => ?_⟩
  have go : ∀ T' : List (Addr × D), L' = keyed T' → (MemT X.K G1 T') → ∀ acc', (T'.map (·.2)).Perm acc' → Q acc' S1 → Q' (upd H1 d (SetNO X.w d L')) := fun T' e mm acc' pp q => by
    subst e
    exact k _ S1 _ G1 _ a1.gg ((a0.trans a1).junk hd0 s1 gd) upd_same ⟨T', rfl, pp, mm⟩ s1 gd q
  by_cases hin : kOf y ∈ (keyed T).map (·.2)
  · exact go T (e1 hin) m1 acc pm (q1 (pm.mem_iff.mp ((keyed_mem m ky).mp hin)))
  · obtain ⟨T', p', e'⟩ := perm_map (fun t : Addr × D => (t.1, kOf t.2)) (e2 hin) ((x, y) :: T) rfl
    refine go T' e' (fun t ht => ?_) (acc ++ [y]) ((p'.map (·.2)).trans ?_) (q2 fun z => hin ((keyed_mem m ky).mpr (pm.mem_iff.mpr z)))
    · rcases List.mem_cons.mp (p'.mem_iff.mp ht) with e | ht
      · rw [e]; exact ⟨r1, ky⟩
      · exact m1 t ht
    · rw [List.map_cons]
      exact (pm.cons y).trans (List.perm_append_comm (l₁ := [y]) (l₂ := acc))
end
end VL
set_option maxHeartbeats 2000000
namespace VL
open PySem PySem.Spec L2
open PyProof.Rows hiding St
end VL
set_option maxHeartbeats 2000000
namespace VL
open PySem PySem.Spec L2
open PyProof.Rows hiding St
theorem RpL.dropLast {K : PySem.W.Frag} {G : Hp} {xs : List V} {ds : List D} (r : RpL K G xs ds) : RpL K G xs.dropLast ds.dropLast := by
  rw [List.dropLast_eq_take, List.dropLast_eq_take, r.length]; exact r.take _
end VL
set_option maxHeartbeats 2000000
namespace VL
open PySem PySem.Spec L2
open PyProof.Rows hiding St
end VL
set_option maxHeartbeats 2000000
namespace VL
open PySem PySem.Spec L2
open PyProof.Rows hiding St
/-- keys and values are these texts -/
inductive KC : List (Option Expr) → List Expr → List (Str × Str) → Prop
  | nil : KC [] [] []
  | cons {k v : Str} {j j2 : Nat} {p p2 : Pos} {ks : List (Option Expr)} {vs : List Expr} {cs : List (Str × Str)} (t : KC ks vs cs) : KC (some (.Constant (.str k) j p) :: ks) (.Constant (.str v) j2 p2 :: vs) ((k, v) :: cs)
theorem KC.cut {ks : List (Option Expr)} {vs : List Expr} {cs : List (Str × Str)} (h : KC ks vs cs) : ∀ n : Nat, KC (ks.take n) (vs.take n) (cs.take n) ∧ KC (ks.drop n) (vs.drop n) (cs.drop n) := by
  induction h with
  | nil => intro n; simp only [List.take_nil, List.drop_nil]; exact ⟨.nil, .nil⟩
  | cons t ih =>
    intro n
    cases n with
    | zero => exact ⟨.nil, .cons t⟩
    | succ n => exact ⟨.cons (ih n).1, (ih n).2⟩
end VL
set_option maxHeartbeats 2000000
namespace VL
open PySem PySem.Spec L2
open PyProof.Rows hiding St
theorem atI_ex {ds : List D} {r : Int} (h0 : 0 ≤ r) (h1 : r < (ds.length : Int)) : ∃ d, atI ds r = some d ∧ d ∈ ds := by
  obtain ⟨n, rfl⟩ : ∃ n : Nat, r = (n : Int) := ⟨r.toNat, by omega⟩
  have hn : n < ds.length := by omega
  exact ⟨ds[n], by rw [atI_lit, List.getElem?_eq_getElem hn], List.getElem_mem hn⟩
def textI (i : Int) : Str := Str.ofString (toString i)
def partT (d : D) : Str := match d with
  | .tup [.str b, .int k] => (if b = "peg" then Str.ofString "p" else Str.ofString "b") ++ textI k
  | .int i => textI i
  | _ => ""
def lineT (d : D) : Str := match d with
  | .tup (.str w :: ds) => Str.join (Str.ofString " ") (w :: ds.map partT)
  | _ => ""
theorem sapp_len (a b : Str) : (a ++ b).length = a.length + b.length := by show (a.cps ++ b.cps).size = _; simp [Str.length]
theorem join_two (sep x y : Str) (r : List Str) : Str.join sep (x :: y :: r) = x ++ sep ++ Str.join sep (y :: r) := rfl
theorem join_len (sep : Str) : ∀ (ys : List Str), (Str.join sep ys).length ≤ (ys.map (·.length)).sum + ys.length * sep.length
  | [] => by simp [Str.join]; decide
  | [x] => by simp [Str.join]
  | x :: y :: r => by
    have ih := join_len sep (y :: r)
    rw [join_two, sapp_len, sapp_len]
    simp only [List.map_cons, List.sum_cons, List.length_cons, Nat.succ_mul] at ih ⊢
    omega
theorem textI_len {i : Int} (h : smlI i = true) : (textI i).length ≤ 151 := int_len60 (of_decide_eq_true h)
theorem fit_big {c : Nat} {d : D} (h : fitC c d = true) : isHome d = true ∨ ∃ i, d = .int i := by
  unfold fitC at h
  split at h
  · exact .inl h
  · right
    split at h
    · cases d <;> first | exact ⟨_, rfl⟩ | cases h
    · split at h
      · cases d <;> first | exact ⟨_, rfl⟩ | cases h
      · split at h
        · cases d <;> first | exact ⟨_, rfl⟩ | cases h
        · cases d <;> first | exact ⟨_, rfl⟩ | cases h
/-- what stands in a line -/
def PartK (d : D) : Prop := isHome d = true ∨ ∃ i, d = .int i ∧ smlI i = true
theorem PartK.of {c : Nat} {d : D} (h : fitC c d = true) (b : sml d = true) : PartK d := (fit_big h).imp id fun ⟨i, e⟩ => by subst e; exact ⟨i, rfl, by simpa only [sml] using b⟩
theorem fits_partS : ∀ {es : List (Nat × Str)} {ds : List D}, fitsAll es ds = true → smlL ds = true → ∀ d ∈ ds, PartK d
  | [], [], _, _, d, hd => nomatch hd
  | e :: es, y :: ds, h, b, d, hd => by
    simp only [fitsAll, Bool.and_eq_true] at h
    simp only [smlL, Bool.and_eq_true] at b
    rcases List.mem_cons.mp hd with rfl | hd
    · exact .of h.1 b.1
    · exact fits_partS h.2 b.2 d hd
theorem partT_len {d : D} (h : PartK d) : (partT d).length ≤ 152 := by
  rcases h with h | ⟨i, rfl, a⟩
  · obtain ⟨b, k, e, h0, h1⟩ := isHome_ex h
    subst e
    have hk := textI_len (i := k) (smlI_of (by omega) (by omega))
    cases b
    · simp only [partT, sapp_len]; rw [if_neg (by decide +kernel)]; have : (Str.ofString "b").length = 1 := by decide +kernel
      try simp only [Bool.false_eq_true, if_false]
      omega
    · simp only [partT, sapp_len]; rw [if_pos (by decide +kernel)]; have : (Str.ofString "p").length = 1 := by decide +kernel
      omega
  · have := textI_len a; simp only [partT]; omega
theorem row_len {ds : List D} (h : ∀ d ∈ ds, PartK d) : ((ds.map partT).map (·.length)).sum ≤ 152 * ds.length := by
  induction ds with
  | nil => simp
  | cons d ds ih =>
    have h1 := partT_len (h d List.mem_cons_self)
    have := ih fun e he => h e (List.mem_cons_of_mem _ he)
    simp only [List.map_cons, List.sum_cons, List.length_cons, Nat.mul_succ]; omega
theorem one_sp : (Str.ofString " ").length = 1 := by decide +kernel
theorem lineT_len {w : Str} {ds : List D} (h : ∀ d ∈ ds, PartK d) : (lineT (.tup (.str w :: ds))).length ≤ w.length + 153 * ds.length + 1 := by
  have h1 := join_len (Str.ofString " ") (w :: ds.map partT)
  have h2 := row_len h
  rw [one_sp] at h1
  simp only [List.map_cons, List.sum_cons, List.length_cons, List.length_map] at h1
  simp only [lineT]; omega
theorem strOk_app {a b : Str} (ha : PyData.strOk a = true) (hb : PyData.strOk b = true) : PyData.strOk (a ++ b) = true := by
  show (a.cps ++ b.cps).all _ = true
  unfold PyData.strOk at ha hb
  rw [Array.all_append, ha, hb]; rfl
end VL
set_option maxHeartbeats 4000000
namespace VL
open PySem PySem.Spec L2
open PyProof.Rows hiding St
/-- a part of a line of such a def -/
def PartP (ks : List D) (bins many : Int) (c : Nat) (d : D) : Prop := fitC c d = true ∧ Sm 200 1 d ∧ (c = 104 → binIn bins d = true ∧ pegIn ks d = true) ∧ (c = 103 → binIn bins d = true) ∧ (c = 116 → ltI many d = true)
def keepsOk (ks : List D) : Prop := ks.length ≤ 3 ∧ ∀ k ∈ ks, isWithin k 1 3 = true
theorem akt_a {m : Int} : valD [(Sum.inr (Str.ofString "a"), D.int 4), (Sum.inr (Str.ofString "k"), D.int 3), (Sum.inr (Str.ofString "t"), D.int m)] (Sum.inr ⟨#[97]⟩) = some (.int 4) := rfl
theorem akt_k {m : Int} : valD [(Sum.inr (Str.ofString "a"), D.int 4), (Sum.inr (Str.ofString "k"), D.int 3), (Sum.inr (Str.ofString "t"), D.int m)] (Sum.inr ⟨#[107]⟩) = some (.int 3) := rfl
theorem akt_t {m : Int} : valD [(Sum.inr (Str.ofString "a"), D.int 4), (Sum.inr (Str.ofString "k"), D.int 3), (Sum.inr (Str.ofString "t"), D.int m)] (Sum.inr ⟨#[116]⟩) = some (.int m) := rfl
theorem sgn_h {c : Nat} : ((⟨#[c]⟩ : Str) = Str.ofString "h") = (c = 104) := by
  rw [show Str.ofString "h" = (⟨#[104]⟩ : Str) by decide +kernel]; simp
theorem sgn_g {c : Nat} : ((⟨#[c]⟩ : Str) = Str.ofString "g") = (c = 103) := by
  rw [show Str.ofString "g" = (⟨#[103]⟩ : Str) by decide +kernel]; simp
theorem log_small {m : Int} (h0 : 0 ≤ m) (h1 : m ≤ 1000) : m.natAbs.log2 < 9000 := log2_small (k := 10) (by omega) (by decide) (by decide)
theorem pegIn_kept {ks : List D} {d : D} (h : pegIn (.int 0 :: ks) d = true) : pegIn ks d = true := by
  unfold pegIn at h
  split at h
  · rename_i s k
    show (!decide (s = "peg") || (decide (k = 0) || inF (.int k) ks)) = true
    simp only [inF, List.any_cons, eqF, Bool.or_eq_true] at h ⊢
    rcases h with h | h | h | h
    · exact .inl h
    · exact .inr (.inl h)
    · refine .inr (.inl ?_)
      have : (0 : Int) = k := by simpa using h
      simp [← this]
    · exact .inr (.inr h)
  · cases h
theorem sm_int {i : Int} (a : -(10 ^ 44) < i) (b : i < 10 ^ 44) : Sm 200 1 (.int i) := ⟨smlI_of (i := i) (by omega) (by omega), by simp [VL.cnt], by simp [dep]⟩
/-- a line of such a def -/
structure LineP (ks : List D) (bins many defs : Int) (last : Bool) (l : D) : Prop where
  line : lineD l = true
  own : ownB l ks bins = true
  stay : ∀ at_ : Int, (last = true ∨ at_ + 1 < many) → stayB l at_ many = true
  call : calledB defs l = true
  sm : Sm 1000 2 l
  sh : short l = true
theorem short_fit {c : Nat} {d : D} (h : fitC c d = true) : short d = true := by
  cases d with
  | tup ds =>
    have hh : isHome (.tup ds) = true := by
      unfold fitC at h
      split at h
      · exact h
      · split at h
        · cases h
        · split at h
          · cases h
          · split at h
            · cases h
            · cases h
    obtain ⟨b, k, e, _⟩ := isHome_ex hh
    cases e
    cases b <;> simp [short, shortL] <;> decide +kernel
  | str s =>
    unfold fitC at h
    split at h
    · cases h
    · split at h
      · cases h
      · split at h
        · cases h
        · split at h
          · cases h
          · cases h
  | lst ds =>
    unfold fitC at h
    split at h
    · cases h
    · split at h
      · cases h
      · split at h
        · cases h
        · split at h
          · cases h
          · cases h
  | _ => rfl
theorem line_made {ks : List D} {bins many defs : Int} {last : Bool} {w : Str} {es : List (Nat × Str)} {ds : List D} (he : lineTab.lookup w = some es) (hr : RowP (PartP ks bins many) (es.map (·.1)) ds) (hw : last = true → w = "go" ∨ w = "back")
    (hc : ∀ x ∈ partsW w ds "called", ltI defs x = true) : LineP ks bins many defs last (.tup (.str w :: ds)) := by
  have hf : fitsAll es ds = true := hr.fits fun c d h => h.1
  have mem := look_mem he
  obtain ⟨-, s1, s2, -, -⟩ := table_signs _ mem
  have s2' : w.length ≤ 10 := s2
  have l3 : es.length ≤ 3 := (table_ok _ mem).2
  have len := hr.len
  rw [List.length_map] at len
  have smw : Sm 200 1 (.str w) := ⟨by simpa only [sml] using s1, by simp only [VL.cnt]; omega, by simp [dep]⟩
  have all : AllSm 200 1 (.str w :: ds) := fun e he => by
    rcases List.mem_cons.mp he with rfl | h
    · exact smw
    · obtain ⟨c, _, q⟩ := hr.each e h; exact q.2.1
  refine ⟨by simp only [lineD, he, hf], own_of (es := es) (fun x hx => (hr.part he hx (c := 103) (by decide +kernel)).2.2.2.1 rfl) (fun x hx => (hr.part he hx (c := 104) (by decide +kernel)).2.2.1 rfl), fun at_ h => stay_of he hf (fun x hx => (hr.part he hx (c := 116) (by decide +kernel)).2.2.2.2 rfl) ?_, by simpa only [calledB, List.all_eq_true] using hc, (AllSm.tup all (k := 4) (by simp only [List.length_cons]; omega)).mono (by decide) (by decide), short_of (by simp only [List.length_cons]; omega) fun d hd => ?_⟩
  · rcases h with h | h
    · rcases hw h with h | h
      · exact .inl h
      · exact .inr (.inl h)
    · exact .inr (.inr h)
  · rcases List.mem_cons.mp hd with rfl | h
    · simp only [short, decide_eq_true_eq]; omega
    · obtain ⟨c, _, q⟩ := hr.each d h; exact short_fit q.1
theorem no_called : ∀ e ∈ lineTab, e.1 ≠ "call" → ∀ p ∈ e.2, p.2 ≠ "called" := by decide +kernel
theorem called_nil {w : Str} {es : List (Nat × Str)} {ds : List D} (he : lineTab.lookup w = some es) (hw : w ≠ "call") {P : D → Prop} : ∀ x ∈ partsW w ds "called", P x := fun x hx => by
  have e1 : partsW w ds "called" = pickL "called" es ds := by unfold partsW; rw [he]; rfl
  rw [e1] at hx
  have : ∀ {es : List (Nat × Str)} {ds : List D}, (∀ p ∈ es, p.2 ≠ "called") → pickL "called" es ds = [] := by
    intro es
    induction es with
    | nil => intro ds _; rfl
    | cons e es ih =>
      intro ds h
      cases ds with
      | nil => rfl
      | cons d ds => simp only [pickL, if_neg (h e (by simp))]; exact ih fun p hp => h p (by simp [hp])
  rw [this (no_called _ (look_mem he) hw)] at hx
  exact nomatch hx
theorem call_made {ks : List D} {bins many defs : Int} {last : Bool} {r : Int} (h0 : 0 ≤ r) (h1 : r < defs) (h6 : defs ≤ 6) (hl : last = true → ("call" : Str) = "go" ∨ ("call" : Str) = "back") : LineP ks bins many defs last (.tup [.str "call", .int r]) := by
  have he : lineTab.lookup ("call" : Str) = some [((116 : Nat), ("called" : Str))] := rfl
  have hf : fitsAll [(116, "called")] [.int r] = true := by simp [fitsAll, fitC, isFrom, h0]
  have hl : last = false := by
    cases last with
    | false => rfl
    | true => exact absurd (hl rfl) (by decide +kernel)
  have all : AllSm 200 1 [.str "call", .int r] := fun e he => by
    simp only [List.mem_cons, List.not_mem_nil, or_false] at he
    rcases he with rfl | rfl
    · exact smb_iff.mp (by decide +kernel)
    · exact sm_int (by omega) (by omega)
  refine ⟨by simp only [lineD, he, hf], own_of (es := [(116, "called")]) (fun x hx => ?_) (fun x hx => ?_), fun at_ h => stay_of he hf (fun x hx => ?_) (.inr (.inr ?_)), ?_, (AllSm.tup all (k := 4) (by simp)).mono (by decide) (by decide), ?_⟩
  · rw [show partsW "call" [.int r] "read" = [] from rfl] at hx; exact nomatch hx
  · rw [show partsW "call" [.int r] "written" = [] from rfl] at hx; exact nomatch hx
  · rw [show partsW "call" [.int r] "goal" = [] from rfl] at hx; exact nomatch hx
  · rcases h with h | h
    · rw [hl] at h; cases h
    · exact h
  · simp only [calledB, show partsW "call" [.int r] "called" = [.int r] from rfl, List.all_cons, List.all_nil, ltI, Bool.and_true, decide_eq_true_eq]; exact h1
  · refine short_of (by simp) fun d hd => ?_
    simp only [List.mem_cons, List.not_mem_nil, or_false] at hd
    rcases hd with rfl | rfl
    · decide +kernel
    · rfl
/-- a def of such a program -/
structure DefP (defs : Int) (d : D) : Prop where
  ex : ∃ t g ks b ls, d = .tup [.str t, .str g, .tup ks, .int b, .tup ls] ∧ Sm 100 1 (.str t) ∧ Sm 100 1 (.str g) ∧ keepsOk ks ∧ (∀ l ∈ ls, Sm 1000 2 l ∧ short l = true)
  ok : defB d = true
  call : callsB defs d = true
  sm : Sm 60000 4 d
  sh : short d = true
theorem sm_nb {s : Str} (h : ∀ c ∈ s.cps.toList, c ∈ [110, 98, 45]) (hl : s.length ≤ 4) : Sm 100 1 (.str s) := by
  refine ⟨?_, by simp only [VL.cnt]; omega, by simp [dep]⟩
  simp only [sml]
  exact strOk_of fun c hc => by have := h c hc; simp only [List.mem_cons, List.not_mem_nil, or_false] at this; omega
theorem def_made {defs b : Int} {t g : Str} {ks : List Int} {ls : List D} (ht : ∀ c ∈ t.cps.toList, c ∈ [110, 98, 45]) (tl : t.length = 4) (hg : ∀ c ∈ g.cps.toList, c ∈ [110, 98, 45]) (gl : g.length = 1) (hks : ks.Pairwise (· < ·)) (hk : ∀ k ∈ ks, 1 ≤ k ∧ k ≤ 3) (kl : ks.length ≤ 3) (b0 : 0 ≤ b) (b1 : b ≤ 4)
    (l0 : 1 ≤ ls.length) (l1 : ls.length ≤ 24) (hl : ∀ (j : Nat) l, ls[j]? = some l → LineP (ks.map D.int) b ls.length defs (decide ((j : Int) = ls.length - 1)) l) : DefP defs (.tup [.str t, .str g, .tup (ks.map D.int), .int b, .tup ls]) := by
  have st := sm_nb ht (by omega)
  have sg := sm_nb hg (by omega)
  have kok : keepsOk (ks.map D.int) := ⟨by simpa using kl, fun k hk' => by obtain ⟨i, hi, rfl⟩ := List.mem_map.mp hk'; have := hk i hi; simp [isWithin]; omega⟩
  have each : ∀ l ∈ ls, ∃ last, LineP (ks.map D.int) b ls.length defs last l := fun l hm => by
    obtain ⟨j, hj⟩ := List.getElem?_of_mem hm
    exact ⟨_, hl j l hj⟩
  have smk : Sm 700 2 (.tup (ks.map D.int)) := by
    have a : AllSm 200 1 (ks.map D.int) := fun e he => by obtain ⟨i, hi, rfl⟩ := List.mem_map.mp he; have := hk i hi; exact sm_int (by omega) (by omega)
    exact (a.tup (k := 3) (by simpa using kl)).mono (by decide) (by decide)
  have sml' : Sm 25000 3 (.tup ls) := by
    have a : AllSm 1000 2 ls := fun e he => let ⟨_, q⟩ := each e he; q.sm
    exact (a.tup l1).mono (by decide) (by decide)
  have kb : keepsB (.tup (ks.map D.int)) = true := by
    simp only [keepsB, Bool.and_eq_true, List.all_eq_true]
    exact ⟨kok.2, rise_of hks⟩
  have lb : linesB (.tup ls) = true := by
    simp only [linesB, Bool.and_eq_true, List.all_eq_true, decide_eq_true_eq]
    exact ⟨⟨l0, l1⟩, fun l hm => let ⟨_, q⟩ := each l hm; q.line⟩
  have sb : ∀ {s : Str} {m : Int}, (∀ c ∈ s.cps.toList, c ∈ [110, 98, 45]) → (s.length : Int) = m → signsB (.str s) m = true := fun {s m} h e => by
    simp only [signsB, e, decide_true, Bool.true_and, List.all_eq_true, decide_eq_true_eq]
    exact h
  refine ⟨⟨t, g, _, b, ls, rfl, st, sg, kok, fun l hm => let ⟨_, q⟩ := each l hm; ⟨q.sm, q.sh⟩⟩, ?_, ?_, ?_, ?_⟩
  · simp only [defB, sb ht (show (t.length : Int) = 4 by omega), sb hg (show (g.length : Int) = 1 by omega), kb, lb, Bool.true_and, Bool.and_eq_true]
    refine ⟨by simp [isWithin]; omega, right_of fun j l hj => ?_⟩
    have q := hl j l hj
    refine ⟨?_, q.own⟩
    rw [Nat.zero_add]
    refine q.stay _ ?_
    by_cases e : (j : Int) = ls.length - 1
    · exact .inl (decide_eq_true e)
    · have := getE hj
      exact .inr (by omega)
  · simp only [callsB, List.all_eq_true]
    exact fun l hm => let ⟨_, q⟩ := each l hm; q.call
  · have a : AllSm 25000 3 [.str t, .str g, .tup (ks.map D.int), .int b, .tup ls] := fun e he => by
      simp only [List.mem_cons, List.not_mem_nil, or_false] at he
      rcases he with rfl | rfl | rfl | rfl | rfl
      · exact st.mono (by decide) (by decide)
      · exact sg.mono (by decide) (by decide)
      · exact smk.mono (by decide) (by decide)
      · exact (sm_int (by omega) (by omega)).mono (by decide) (by decide)
      · exact sml'
    have q := a.tup (k := 5) (by simp)
    have c1 : VL.cnt (.str t) ≤ 100 := st.2.1
    have c2 : VL.cnt (.str g) ≤ 100 := sg.2.1
    have c3 := smk.2.1
    have c4 : VL.cnt (.int b) ≤ 200 := (sm_int (i := b) (by omega) (by omega)).2.1
    have c5 := sml'.2.1
    refine ⟨q.1, ?_, q.2.2⟩
    rw [show VL.cnt (.tup [.str t, .str g, .tup (ks.map D.int), .int b, .tup ls]) = cntL [.str t, .str g, .tup (ks.map D.int), .int b, .tup ls] + 3 by rw [VL.cnt]]
    simp only [cntL]
    omega
  · refine short_of (by simp) fun d hd => ?_
    simp only [List.mem_cons, List.not_mem_nil, or_false] at hd
    rcases hd with rfl | rfl | rfl | rfl | rfl
    · simp only [short, decide_eq_true_eq]; omega
    · simp only [short, decide_eq_true_eq]; omega
    · exact short_of (by rw [List.length_map]; omega) fun e he => by obtain ⟨i, _, rfl⟩ := List.mem_map.mp he; rfl
    · rfl
    · exact short_of (by omega) fun e he => let ⟨_, q⟩ := each e he; q.sh
/-- such a program -/
structure ProgP (d : D) : Prop where
  ex : ∃ ds, d = .tup ds ∧ 1 ≤ ds.length ∧ ds.length ≤ 6 ∧ ∀ e ∈ ds, DefP ds.length e
  ok : progB d = true
  sm : Sm 400000 5 d
  sh : short d = true
theorem prog_made {ds : List D} (h0 : 1 ≤ ds.length) (h1 : ds.length ≤ 6) (h : ∀ e ∈ ds, DefP ds.length e) : ProgP (.tup ds) := by
  refine ⟨⟨ds, rfl, h0, h1, h⟩, ?_, ?_, short_of (by omega) fun e he => (h e he).sh⟩
  · simp only [progB, Bool.and_eq_true, List.all_eq_true, decide_eq_true_eq]
    exact ⟨⟨⟨h0, h1⟩, fun e he => (h e he).ok⟩, fun e he => (h e he).call⟩
  · exact (AllSm.tup (n := 60000) (m := 4) (fun e he => (h e he).sm) h1).mono (by decide) (by decide)
end VL
set_option maxHeartbeats 4000000
namespace VL
open PySem PySem.Spec L2
open PyProof.Rows hiding St
def intT (d : D) : Str := match d with
  | .int i => textI i
  | _ => ""
def keepsT (ks : List D) : Str := if ks.isEmpty then "-" else Str.join (Str.ofString "") (ks.map intT)
def headT (t g : Str) (ks : List D) (b : Int) : Str := Str.join (Str.ofString " ") [Str.ofString "def", t, g, keepsT ks, textI b]
def rowsT (d : D) : List Str := match d with
  | .tup [.str t, .str g, .tup ks, .int b, .tup ls] => headT t g ks b :: ls.map lineT
  | _ => []
/-- a program, small enough to be held by the model's sizes -/
structure Prog (d : D) : Prop where
  ok : progB d = true
  sm : sml d = true
  sh : short d = true
theorem ProgP.prog {d : D} (h : ProgP d) : Prog d := ⟨h.ok, h.sm.1, h.sh⟩
/-- what a program's line is -/
structure LineL (l : D) : Prop where
  ex : ∃ w es r, l = .tup (.str w :: r) ∧ lineTab.lookup w = some es ∧ fitsAll es r = true ∧ (∀ d ∈ r, PartK d) ∧ r.length ≤ 3 ∧ w.length ≤ 10 ∧ PyData.strOk w = true
theorem fits_len' : ∀ {es : List (Nat × Str)} {ds : List D}, fitsAll es ds = true → ds.length = es.length
  | [], [], _ => rfl
  | _ :: _, _ :: _, h => by
    simp only [fitsAll, Bool.and_eq_true] at h
    simp [fits_len' h.2]
theorem lineL_of {l : D} (h : lineD l = true) (s : sml l = true) : LineL l := by
  obtain ⟨w, r, es, rfl, he, hf⟩ := lineD_ex h
  have mem := look_mem he
  have st := table_signs _ mem
  have l3 : es.length ≤ 3 := (table_ok _ mem).2
  have s' : smlL (D.str w :: r) = true := by simpa only [sml] using s
  simp only [smlL, Bool.and_eq_true] at s'
  exact ⟨w, es, r, rfl, he, hf, fits_partS hf s'.2, by have := fits_len' hf; omega, st.2.2.1, st.2.1⟩
structure DefL (d : D) : Prop where
  ex : ∃ t g ks b ls, d = .tup [.str t, .str g, .tup ks, .int b, .tup ls] ∧ t.length = 4 ∧ (∀ c ∈ t.cps.toList, c ∈ [110, 98, 45]) ∧ g.length = 1 ∧ (∀ c ∈ g.cps.toList, c ∈ [110, 98, 45]) ∧ (∀ k ∈ ks, ∃ i, k = .int i ∧ 1 ≤ i ∧ i ≤ 3) ∧ riseB ks = true ∧ 0 ≤ b ∧ b ≤ 4 ∧
    1 ≤ ls.length ∧ ls.length ≤ 24 ∧ (∀ l ∈ ls, LineL l) ∧ rightB ks b ls.length 0 ls = true
theorem signs_ex {s : D} {m : Int} (h : signsB s m = true) : ∃ t, s = .str t ∧ (t.length : Int) = m ∧ ∀ c ∈ t.cps.toList, c ∈ [110, 98, 45] := by
  cases s with
  | str t =>
    simp only [signsB, Bool.and_eq_true, decide_eq_true_eq, List.all_eq_true] at h
    exact ⟨t, rfl, h.1, h.2⟩
  | _ => cases h
theorem within_ex {d : D} {a b : Int} (h : isWithin d a b = true) : ∃ i, d = .int i ∧ a ≤ i ∧ i ≤ b := by
  cases d with
  | int i =>
    simp only [isWithin, Bool.and_eq_true, decide_eq_true_eq] at h
    exact ⟨i, rfl, h⟩
  | _ => simp [isWithin] at h
theorem defL_of {d : D} (h : defB d = true) (s : sml d = true) : DefL d := by
  cases d with
  | tup ds =>
    match ds, h, s with
    | [t, g, k, b, l], h, s =>
      simp only [defB, Bool.and_eq_true] at h
      obtain ⟨⟨⟨⟨h1, h2⟩, h3⟩, h4, h5⟩, h6⟩ := h
      obtain ⟨t, rfl, t1, t2⟩ := signs_ex h1
      obtain ⟨g, rfl, g1, g2⟩ := signs_ex h2
      obtain ⟨b, rfl, b0, b1⟩ := within_ex h4
      cases k <;> try (cases h3; done)
      rename_i ks
      cases l <;> try (cases h5; done)
      rename_i ls
      simp only [keepsB, Bool.and_eq_true, List.all_eq_true] at h3
      simp only [linesB, Bool.and_eq_true, decide_eq_true_eq, List.all_eq_true] at h5
      have s' : smlL [D.str t, .str g, .tup ks, .int b, .tup ls] = true := by simpa only [sml] using s
      have sl := smlL_mem (d := D.tup ls) s' (by simp)
      have sl' : smlL ls = true := by simpa only [sml] using sl
      exact ⟨t, g, ks, b, ls, rfl, by omega, t2, by omega, g2, fun k hk => within_ex (h3.1 k hk), h3.2, b0, b1, h5.1.1, h5.1.2, fun l hl => lineL_of (h5.2 l hl) (smlL_mem sl' hl), h6⟩
  | _ => cases h
structure ProgL (d : D) : Prop where
  ex : ∃ ds, d = .tup ds ∧ 1 ≤ ds.length ∧ ds.length ≤ 6 ∧ (∀ e ∈ ds, DefL e) ∧ ∀ e ∈ ds, callsB ds.length e = true
theorem Prog.l {d : D} (h : Prog d) : ProgL d := by
  obtain ⟨ok, sm, sh⟩ := h
  cases d with
  | tup ds =>
    simp only [progB, Bool.and_eq_true, decide_eq_true_eq, List.all_eq_true] at ok
    have s' : smlL ds = true := by simpa only [sml] using sm
    exact ⟨ds, rfl, ok.1.1.1, ok.1.1.2, fun e he => defL_of (ok.1.2 e he) (smlL_mem s' he), fun e he => ok.2 e he⟩
  | _ => cases ok
theorem ints_of {ks : List D} {lo hi : Int} (h : ∀ k ∈ ks, ∃ i, k = D.int i ∧ lo ≤ i ∧ i ≤ hi) : ∃ ns : List Int, ks = ns.map D.int ∧ ∀ i ∈ ns, lo ≤ i ∧ i ≤ hi := by
  induction ks with
  | nil => exact ⟨[], rfl, fun i hi => nomatch hi⟩
  | cons k ks ih =>
    obtain ⟨ns, rfl, h2⟩ := ih fun k hk => h k (List.mem_cons_of_mem _ hk)
    obtain ⟨i, rfl, i0, i1⟩ := h k List.mem_cons_self
    refine ⟨i :: ns, rfl, fun j hj => ?_⟩
    rcases List.mem_cons.mp hj with rfl | hj
    · exact ⟨i0, i1⟩
    · exact h2 j hj
theorem rise_pw : ∀ {ns : List Int}, riseB (ns.map D.int) = true → ns.Pairwise (· < ·)
  | [], _ => .nil
  | [_], _ => List.pairwise_singleton _ _
  | a :: b :: r, h => by
    simp only [List.map_cons, riseB, Bool.and_eq_true, decide_eq_true_eq] at h
    have ih := rise_pw (ns := b :: r) h.2
    refine List.pairwise_cons.mpr ⟨fun x hx => ?_, ih⟩
    rcases List.mem_cons.mp hx with rfl | hx
    · exact h.1
    · have := (List.pairwise_cons.mp ih).1 x hx
      omega
theorem rise_few {ns : List Int} (h : ∀ i ∈ ns, 1 ≤ i ∧ i ≤ 3) (p : ns.Pairwise (· < ·)) : ns.length ≤ 3 := by
  match ns, p with
  | [], _ => simp
  | [_], _ => simp
  | [_, _], _ => simp
  | [_, _, _], _ => simp
  | a :: b :: c :: d :: r, p =>
    exfalso
    have h1 := h a (by simp)
    have h2 := h d (by simp)
    simp only [List.pairwise_cons, List.mem_cons] at p
    have p1 := p.1 b (.inl rfl)
    have p2 := p.2.1 c (.inl rfl)
    have p3 := p.2.2.1 d (.inl rfl)
    omega
theorem sum_le {n : Nat} {ys : List Str} (h : ∀ y ∈ ys, y.length ≤ n) : (ys.map (·.length)).sum ≤ n * ys.length := by
  induction ys with
  | nil => simp
  | cons y ys ih =>
    have h1 := h y List.mem_cons_self
    have := ih fun z hz => h z (List.mem_cons_of_mem _ hz)
    simp only [List.map_cons, List.sum_cons, List.length_cons, Nat.mul_succ]; omega
theorem join_le {n : Nat} (sep : Str) {ys : List Str} (h : ∀ y ∈ ys, y.length ≤ n) : (Str.join sep ys).length ≤ (n + sep.length) * ys.length := by
  have h1 := join_len sep ys
  have h2 := sum_le h
  rw [Nat.add_mul, Nat.mul_comm sep.length]; omega
theorem len_0 : (Str.ofString "").length = 0 := by decide +kernel
theorem len_def : (Str.ofString "def").length = 3 := by decide +kernel
theorem intT_len {ns : List Int} (h : ∀ i ∈ ns, 1 ≤ i ∧ i ≤ 3) : ∀ y ∈ (ns.map D.int).map intT, y.length ≤ 151 := fun y hy => by
  obtain ⟨d, hd, rfl⟩ := List.mem_map.mp hy
  obtain ⟨i, hi, rfl⟩ := List.mem_map.mp hd
  have := h i hi
  exact textI_len (smlI_of (by omega) (by omega))
theorem keepsT_len {ns : List Int} (h : ∀ i ∈ ns, 1 ≤ i ∧ i ≤ 3) (l : ns.length ≤ 3) : (keepsT (ns.map D.int)).length ≤ 453 := by
  unfold keepsT
  split
  · decide +kernel
  · have h1 := join_le (Str.ofString "") (intT_len h)
    rw [len_0, List.length_map, List.length_map] at h1
    omega
theorem headT_len {t g : Str} {ns : List Int} {b : Int} (ht : t.length = 4) (hg : g.length = 1) (h : ∀ i ∈ ns, 1 ≤ i ∧ i ≤ 3) (l : ns.length ≤ 3) (b0 : 0 ≤ b) (b1 : b ≤ 4) : (headT t g (ns.map D.int) b).length ≤ 800 := by
  have h1 := join_len (Str.ofString " ") [Str.ofString "def", t, g, keepsT (ns.map D.int), textI b]
  have h2 := keepsT_len h l
  have h3 := textI_len (i := b) (smlI_of (by omega) (by omega))
  simp only [List.map_cons, List.map_nil, List.sum_cons, List.sum_nil, List.length_cons, List.length_nil, one_sp, len_def, ht, hg] at h1
  unfold headT; omega
theorem LineL.len {l : D} (h : LineL l) : (lineT l).length ≤ 560 := by
  obtain ⟨w, es, r, rfl, _, _, pk, l3, lw, _⟩ := h.ex
  have h1 := lineT_len (w := w) pk
  have : 153 * r.length ≤ 153 * 3 := Nat.mul_le_mul_left _ l3
  omega
theorem DefL.keeps {d : D} (h : DefL d) : ∃ (t g : Str) (ns : List Int) (b : Int) (ls : List D), d = .tup [.str t, .str g, .tup (ns.map D.int), .int b, .tup ls] ∧ t.length = 4 ∧ (∀ c ∈ t.cps.toList, c ∈ [110, 98, 45]) ∧ g.length = 1 ∧ (∀ c ∈ g.cps.toList, c ∈ [110, 98, 45]) ∧ (∀ i ∈ ns, (1 : Int) ≤ i ∧ i ≤ 3) ∧ ns.Pairwise (· < ·) ∧ ns.length ≤ 3 ∧ 0 ≤ b ∧ b ≤ 4 ∧
    1 ≤ ls.length ∧ ls.length ≤ 24 ∧ (∀ l ∈ ls, LineL l) ∧ rightB (ns.map D.int) b ls.length 0 ls = true := by
  obtain ⟨t, g, ks, b, ls, rfl, h1, h2, h3, h4, h5, h6, h7⟩ := h.ex
  obtain ⟨ns, rfl, hns⟩ := ints_of h5
  have pw := rise_pw h6
  exact ⟨t, g, ns, b, ls, rfl, h1, h2, h3, h4, hns, pw, rise_few hns pw, h7⟩
theorem DefL.rows {d : D} (h : DefL d) : (rowsT d).length ≤ 25 ∧ ∀ r ∈ rowsT d, r.length ≤ 800 := by
  obtain ⟨t, g, ns, b, ls, rfl, h1, h2, h3, h4, h5, h6, h7, h8, h9, h10, h11, h12, h13⟩ := h.keeps
  refine ⟨by simp only [rowsT, List.length_cons, List.length_map]; omega, fun r hr => ?_⟩
  simp only [rowsT] at hr
  rcases List.mem_cons.mp hr with rfl | hr
  · exact headT_len h1 h3 h5 h7 h8 h9
  · obtain ⟨l, hl, rfl⟩ := List.mem_map.mp hr
    have := (h12 l hl).len
    omega
end VL
set_option maxHeartbeats 2000000
namespace VL
open PySem PySem.Spec L2
open PyProof.Rows hiding St
end VL
set_option maxHeartbeats 2000000
namespace VL
open PySem PySem.Spec L2
open PyProof.Rows hiding St
section
variable {prog : Program} {w : World} {A : Around} {E : Value → Shared → Prop} {s : Shared}
theorem adjust_rev (n : Nat) : Builtin.Slice.sliceAdjust none none (-1) (n : Int) = ((n : Int) - 1, -1) := by
  unfold Builtin.Slice.sliceAdjust
  simp
theorem places_rev (n : Nat) : Builtin.Slice.slicePlaces ((n : Int) - 1) (-1) (-1) = n := by
  unfold Builtin.Slice.slicePlaces
  simp
  split <;> omega
theorem fm_congr {α β : Type} {f g : α → Option β} : ∀ {l : List α}, (∀ x ∈ l, f x = g x) → l.filterMap f = l.filterMap g
  | [], _ => rfl
  | x :: l, h => by
    have ih := fm_congr (l := l) fun y hy => h y (List.mem_cons_of_mem _ hy)
    have h1 := h x List.mem_cons_self
    cases e : g x with
    | none => rw [List.filterMap_cons_none (h1.trans e), List.filterMap_cons_none e, ih]
    | some y => rw [List.filterMap_cons_some (h1.trans e), List.filterMap_cons_some e, ih]
theorem pick_rev (xs : Array Value) : ((List.range xs.size).filterMap fun (m : Nat) => xs[((xs.size : Int) - 1 + (m : Int) * (-1)).toNat]?) = xs.toList.reverse := by
  have e : (List.range xs.size).filterMap (fun (m : Nat) => xs[((xs.size : Int) - 1 + (m : Int) * (-1)).toNat]?) = ((List.range xs.size).map fun k => xs.size - 1 - k).filterMap (xs[·]?) := by
    rw [List.filterMap_map]
    refine fm_congr fun m hm => ?_
    have : m < xs.size := List.mem_range.mp hm
    have : ((xs.size : Int) - 1 + (m : Int) * (-1)).toNat = xs.size - 1 - m := by omega
    rw [this]; rfl
  rw [e, PySem.W.krv_range, List.filterMap_reverse, PySem.W.krv_all]
theorem sliceApplied_rev {sl : Addr} {n : Nat} {vs : Value} {Q : Int × Int × Nat → Shared → Prop} (hs : s.heap.IsSliceOf sl .none .none vs) (pv : IsPart vs (some (-1))) (h : Q ((n : Int) - 1, -1, n) s) : wpAny (model prog w) A (Builtin.Slice.sliceApplied (.ref sl) (pure (n : Int))) Q E s := by
  obtain ⟨os, hos, hcs, hds⟩ := id hs
  unfold Builtin.Slice.sliceApplied Builtin.Slice.sliceFields
  refine wpAny_bind (wpAny_bind (wpAny_field hos hds (x := .none) rfl (wpAny_bind (wpAny_field hos hds (x := .none) rfl (wpAny_bind (wpAny_field hos hds (x := vs) rfl (wpAny_pure ?_)))))))
  refine wpAny_bind (HT.slicePart_ pv ?_)
  show wpAny _ _ (if ((-1 : Int) == 0) = true then _ else _) _ _ s
  rw [if_neg (by decide)]
  refine wpAny_bind (slicePart_none (wpAny_bind (slicePart_none (wpAny_bind (wpAny_pure ?_)))))
  show wpAny _ _ (match Builtin.Slice.sliceAdjust none none (-1) (n : Int) with | (lo, hi) => pure (lo, (-1 : Int), Builtin.Slice.slicePlaces lo hi (-1))) _ _ s
  rw [adjust_rev n]
  show wpAny _ _ (pure ((n : Int) - 1, (-1 : Int), Builtin.Slice.slicePlaces ((n : Int) - 1) (-1) (-1))) _ _ s
  rw [places_rev]
  exact wpAny_pure h
theorem getItem_tuple_rev {t sl : Addr} {items : Array Value} {vs : Value} {Q : Value → Shared → Prop} (ht : IsTup s.heap t items) (hs : s.heap.IsSliceOf sl .none .none vs) (pv : IsPart vs (some (-1)))
    (h : Q (.ref s.heap.objs.size) { s with heap := s.heap.push { cls := .type "tuple", data := .seq items.toList.reverse.toArray } }) (hsz : items.size ≤ sizeLine) : wpAny (model prog w) A (getItem (.ref t) (.ref sl)) Q E s := by
  have htake : sizeOk (.seq items.toList.reverse.toArray) := by
    show items.toList.reverse.toArray.size ≤ sizeLine
    simpa using hsz
  obtain ⟨os, hos, hcs, hds⟩ := id hs
  have hTs : s.TypeIs (.ref sl) "slice" := ⟨os, hos, hcs⟩
  unfold getItem
  try with_reducible refine wpAny_holding ?_
  first | refine wpAny_bind (wpAny_pure ?_) | skip
  refine wpAny_bind (wpAny_sequenceKey ht.typeIs (by decide) ?_)
  refine wpAny_bind (wpAny_callSpecial?_slot (name := Str.ofString "__getitem__") ht.typeIs PyProof.Rows.slot_tuple_getitem
    (wpAny_call_entry PyProof.Rows.slot_tuple_getitem ht.typeIs entry_tuple_getitem ?_ (args_tuple_getitem _ _)))
  show wpAny _ _ (Builtin.Tuple.tupleItemsOf (.ref t) >>= _) _ _ s
  refine wpAny_bind (tupleItemsOf_ ht ?_)
  refine wpAny_bind (wpAny_typeOf hTs ?_)
  rw [if_pos (by decide)]
  refine wpAny_bind (sliceApplied_rev hs pv ?_)
  show wpAny _ _ (if (((items.size : Int) - 1 == 0) && ((-1 : Int) == 1) && (items.size == items.size)) = true then _ else _) _ _ s
  rw [if_neg (by simp), pick_rev]
  first
    | exact wpAny_bind (m := Builtin.Tuple.tupleExact _) (wpAny_newObj_type (wpAny_pure ⟨_, rfl, wpAny_pure h⟩) htake)
    | exact wpAny_bind (m := Builtin.Tuple.tupleExact _) (wpAny_newObj_type (wpAny_bind (wpAny_pure (wpAny_pure ⟨_, rfl, wpAny_pure h⟩))) htake)
    | exact wpAny_bind (wpAny_bind (m := Builtin.Tuple.tupleExact _) (wpAny_newObj_type (wpAny_pure (wpAny_pure ⟨_, rfl, wpAny_pure h⟩)) htake))
    | exact wpAny_bind (wpAny_bind (m := Builtin.Tuple.tupleExact _) (wpAny_newObj_type (wpAny_pure ⟨_, rfl, wpAny_pure h⟩) htake))
end
section
variable {X : Cx}
theorem RpL.rev {K : PySem.W.Frag} {G : Hp} : ∀ {xs : List V} {ds : List D}, RpL K G xs ds → RpL K G xs.reverse ds.reverse
  | _, _, .nil => .nil
  | _, _, .cons h t => by
    rw [List.reverse_cons, List.reverse_cons]
    exact (RpL.rev t).append (.cons h .nil)
theorem vals_rev : ∀ {xs : List V} {us : List Value}, Vals xs us → Vals xs.reverse us.reverse
  | _, _, .nil => .nil
  | _, _, .cons h t => by
    rw [List.reverse_cons, List.reverse_cons]
    exact (vals_rev t).append (.cons h .nil)
/-- x[::-1], x a tuple or a list -/
def tRev (K : PySem.W.Frag) (te : TE) (ts : TO) : TE := fun σ H Q => te σ H fun x H1 => ts σ H1 fun st H2 => st = some (-1) ∧ ((∃ a xs, x = .ref a ∧ SqT K H2 a xs ∧ ∀ p, H2 p = none → Q (.ref p) (upd H2 p (.tup xs.reverse))) ∨ ∃ a xs, x = .ref a ∧ SqL K H2 a xs ∧ ∀ p, H2 p = none → Q (.ref p) (upd H2 p (.lst xs.reverse)))
theorem pe_rev {e st : Expr} {te : TE} {ts : TO} {p2 pos : Pos} (he : PE X e te) (hst : PO X (some st) ts) : PE X (.Subscript e (.Slice none none (some st) p2) pos) (tRev X.K te ts) := by
  refine ⟨fun pins s σ H Q I h => ?_⟩
  refine Subscript_ (thn (he.run pins s σ H _ I h) fun v s1 ⟨x, H1, I1, r1, q1⟩ => ?_)
  refine wpAny_Slice ?_
  rw [evalPart_none]
  refine wpAny_pure ?_
  refine wpAny_pure ?_
  refine thn (hst.run pins s1 σ H1 _ I1 q1) fun vs s3 ⟨o, H3, I3, ps, e1, q3⟩ => ?_
  subst e1
  have I4 : Inv X pins σ H3 { s3 with heap := s3.heap.push { cls := .type "slice", data := .fields #[.none, .none, vs] } } := I3.kept (t' := s3.toks) fun b ob q => Heap.get?_push_of_some _ q
  rcases q3 with ⟨a, xs, rfl, hx, q⟩ | ⟨a, xs, rfl, hx, q⟩
  · cases r1
    obtain ⟨its, r, ht, hz⟩ := I4.tuple hx
    refine tail_any (T := "tuple") (ops := [.ref a, .ref s3.heap.objs.size]) ht.typeIs PyProof.Rows.slot_tuple_getitem.lookup ?_ (by with_unfolding_all rfl)
    refine getItem_tuple_rev ht (Heap.IsSliceOf.new ..) ps ?_ (by rw [List.size_toArray, ← r.length]; exact hz)
    exact ⟨.ref _, _, I4.laid (t' := s3.toks) (o := .tup xs.reverse) (fun b ob q => Heap.get?_push_of_some _ q) (Nat.le_refl _) ⟨by rw [List.length_reverse]; exact hz, its.toArray.toList.reverse, by simpa using vals_rev r, IsTup.new _ _⟩, rfl, q _ (I4.hok.fresh (Nat.le_refl _))⟩
  · cases r1
    obtain ⟨its, r, ht, hz⟩ := I4.list hx
    refine tail_any (T := "list") (ops := [.ref a, .ref s3.heap.objs.size]) ht.isList.typeIs slot_list_getitem.lookup ?_ (by with_unfolding_all rfl)
    refine wpAny_getItem_list_slice ht.isList (Heap.IsSliceOf.new ..) .none .none ps (by decide) ?_ (by rw [List.size_toArray, ← r.length]; exact hz)
    rw [PySem.W.krv_pick]
    exact ⟨.ref _, _, I4.laid (t' := s3.toks) (o := .lst xs.reverse) (fun b ob q => Heap.get?_push_of_some _ q) (Nat.le_refl _) ⟨by rw [List.length_reverse]; exact hz, its.toArray.toList.reverse, 0, by simpa using vals_rev r, Heap.get?_push_size _ rfl⟩, rfl, q _ (I4.hok.fresh (Nat.le_refl _))⟩
def mRev (m : VE) (ms : VO) : VE := fun ρ S Q => m ρ S fun d S1 => ms ρ S1 fun st S2 => st = some (-1) ∧ match d with
  | .tup ds => Q (.tup ds.reverse) S2
  | d => match rdR d S2 with
    | some ds => Q (.lst ds.reverse) S2
    | none => False
theorem mRev_e {m : VE} {ms : VO} {ρ : Sl} {S : Store} {Q : D → Store → Prop} : mRev m ms ρ S Q = m ρ S fun d S1 => ms ρ S1 fun st S2 => st = some (-1) ∧ match d with
  | .tup ds => Q (.tup ds.reverse) S2
  | d => match rdR d S2 with
    | some ds => Q (.lst ds.reverse) S2
    | none => False := rfl
theorem v_rev {e st : Expr} {m : VE} {ms : VO} {p2 pos : Pos} (he : PE X e (LE X.K m)) (hst : PO X (some st) (LO X.K ms)) : PE X (.Subscript e (.Slice none none (some st) p2) pos) (LE X.K (mRev m ms)) := by
  refine PE.imp (pe_rev he hst) fun σ H Q' ⟨ρ, S, G, Q, vw, re, hm, k⟩ => ?_
  refine ⟨ρ, S, G, _, vw, re, hm, fun d S1 v1 H1 G1 a1 r1 h1 => ?_⟩
  refine ⟨ρ, S1, G1, _, a1.vw, re.mono a1.gg, h1, fun l S2 H2 G2 a2 ⟨h2, h3⟩ => ⟨h2, ?_⟩⟩
  have rr := r1.mono a2.gg
  have a12 := a1.trans a2
  split at h3
  · cases rr with
    | @tup a xs ds ht rl =>
      refine .inl ⟨a, xs, rfl, same_t a2.vw.gh ht, fun p hp => ?_⟩
      have a4 := a2.vw.froze (o := .tup xs.reverse) hp
      exact k _ S2 _ _ _ (a12.trans a4) (.tup (SqT.of upd_same) (rl.rev.mono a4.gg)) h3
  · split at h3
    · rename_i ds e
      obtain ⟨a, xs, rfl, q, rl⟩ := rdR_ok a2.vw rr e
      refine .inr ⟨a, xs, rfl, q, fun p hp => ?_⟩
      have a4 := a2.vw.froze (o := .lst xs.reverse) hp
      exact k _ S2 _ _ _ (a12.trans a4) (.lst upd_same (rl.rev.mono a4.gg)) h3
    · exact h3.elim
end
end VL
set_option maxHeartbeats 2000000
namespace VL
open PySem PySem.Spec L2
open PyProof.Rows hiding St
end VL
set_option maxHeartbeats 2000000
namespace VL
open PySem PySem.Spec L2
open PyProof.Rows hiding St
end VL
set_option maxHeartbeats 2000000
namespace VL
open PySem PySem.Spec L2
open PyProof.Rows hiding St
end VL
set_option maxHeartbeats 2000000
namespace VL
open PySem PySem.Spec L2
/-- what is found: a line, the one ahead of it -/
abbrev Fnd := List (Int × Option Int)
def hasF (F : Fnd) (i : Int) : Bool := F.any fun q => decide (q.1 = i)
/-- the lines next of one -/
def nxOf (ls : List D) (i : Int) : List Int := match atI ls i with
  | some (.tup (.str w :: ps)) => (nextN w ps i).getD []
  | _ => []
/-- each line leads on within -/
def Flows (ls : List D) : Prop := ∀ i : Int, 0 ≤ i → i < ls.length → ∃ w ps ns, atI ls i = some (.tup (.str w :: ps)) ∧ nextN w ps i = some ns ∧ ∀ j ∈ ns, 0 ≤ j ∧ j < (ls.length : Int)
/-- from a line back to the first -/
def aheadF (F : Fnd) (i : Int) : Option Int := (F.find? fun q => decide (q.1 = i)).bind (·.2)
theorem pigeon : ∀ (n : Nat) (l : List Int), l.Nodup → (∀ x ∈ l, 0 ≤ x ∧ x < (n : Int)) → l.length ≤ n
  | 0, l, _, h => by
    cases l with
    | nil => exact Nat.le_refl _
    | cons x l => have := h x List.mem_cons_self; omega
  | n + 1, l, nd, h => by
    have r := pigeon n (l.erase n) (nd.erase _) fun x hx => by
      rw [nd.mem_erase_iff] at hx
      have := h x hx.2; have := hx.1
      omega
    rw [List.length_erase] at r
    split at r <;> omega
/-- what is found stays within -/
structure Good (n : Nat) (F : Fnd) (W : List Int) : Prop where
  nd : (F.map (·.1)).Nodup
  within : ∀ x ∈ F.map (·.1), 0 ≤ x ∧ x < (n : Int)
  wait : ∀ x ∈ W, 0 ≤ x ∧ x < (n : Int)
  short : W.length ≤ F.length
end VL
set_option maxHeartbeats 2000000
namespace VL
open PySem PySem.Spec L2
inductive Rooted : Fnd → Prop
  | nil : Rooted []
  | snoc {F : Fnd} {t : Int} {o : Option Int} (r : Rooted F) (n : hasF F t = false) (h : ∀ i, o = some i → hasF F i = true) : Rooted (F ++ [(t, o)])
theorem hasF_snoc {F : Fnd} {t i : Int} {o : Option Int} : hasF (F ++ [(t, o)]) i = (hasF F i || decide (t = i)) := by
  unfold hasF; rw [List.any_append]; simp
theorem aheadF_old {F : Fnd} {t i : Int} {o : Option Int} (h : hasF F i = true) : aheadF (F ++ [(t, o)]) i = aheadF F i := by
  unfold aheadF hasF at *
  rw [List.find?_append]
  cases e : F.find? (fun q => decide (q.1 = i)) with
  | some q => rfl
  | none =>
    rw [List.find?_eq_none] at e
    rw [List.any_eq_true] at h
    obtain ⟨q, m, hq⟩ := h
    exact absurd hq (e q m)
def WayEnds (F : Fnd) : Nat → Int → Prop
  | 0, _ => False
  | m + 1, i => hasF F i = true ∧ ∀ h, aheadF F i = some h → WayEnds F m h
theorem WayEnds.mono {F : Fnd} : ∀ {m n : Nat} {i : Int}, WayEnds F m i → m ≤ n → WayEnds F n i
  | 0, _, _, h, _ => h.elim
  | m + 1, 0, _, _, l => by omega
  | m + 1, n + 1, i, h, l => ⟨h.1, fun j e => (h.2 j e).mono (by omega)⟩
theorem WayEnds.snoc {F : Fnd} {t : Int} {o : Option Int} : ∀ {m : Nat} {i : Int}, WayEnds F m i → WayEnds (F ++ [(t, o)]) m i
  | 0, _, h => h.elim
  | m + 1, i, h => ⟨by rw [hasF_snoc, h.1]; rfl, fun j e => (h.2 j (by rw [aheadF_old h.1] at e; exact e)).snoc⟩
/-- found, and waiting, as they stand between two rounds -/
structure Found (ls : List D) (F : Fnd) (W : List Int) : Prop where
  good : Good ls.length F W
  root : Rooted F
  sub : ∀ x ∈ W, hasF F x = true
theorem nxOf_in {ls : List D} (fl : Flows ls) {i : Int} (h : 0 ≤ i ∧ i < (ls.length : Int)) : ∀ t ∈ nxOf ls i, 0 ≤ t ∧ t < (ls.length : Int) := by
  obtain ⟨w, ps, ns, e, hn, hb⟩ := fl i h.1 h.2
  unfold nxOf; rw [e]; simp only [hn]; exact hb
theorem Found.first {ls : List D} {b : Int} (h : 0 ≤ b ∧ b < (ls.length : Int)) : Found ls [(b, none)] [b] :=
  ⟨⟨by simp, by simp [h.1, h.2], by simp [h.1, h.2], by simp⟩, .snoc (F := []) .nil rfl (fun _ e => by cases e), fun x m => by rw [List.mem_singleton.mp m]; simp [hasF]⟩
end VL
set_option maxHeartbeats 2000000
namespace VL
open PySem PySem.Spec L2
open PyProof.Rows hiding St
end VL
set_option maxHeartbeats 2000000
namespace VL
open PySem PySem.Spec L2
open PyProof.Rows hiding St
theorem right_stays {ks : List D} {b many : Int} : ∀ {ls : List D} {i : Nat}, rightB ks b many i ls = true → ∀ (j : Nat) l, ls[j]? = some l → stayB l ((i + j : Nat) : Int) many = true
  | [], _, _, j, l, e => by simp at e
  | l0 :: ls, i, h, j, l, e => by
    unfold rightB at h
    simp only [Bool.and_eq_true] at h
    cases j with
    | zero => simp at e; subst e; exact h.1.1
    | succ j =>
      have := right_stays h.2 j l (by simpa using e)
      rw [show i + (j + 1) = i + 1 + j by omega]; exact this
theorem flows_of {ks : List D} {b : Int} {ls : List D} (hl : ∀ l ∈ ls, LineL l) (h : rightB ks b ls.length 0 ls = true) : Flows ls := by
  intro i h0 h1
  obtain ⟨l, e, m⟩ := atI_ex h0 h1
  obtain ⟨w, es, r, rfl, he, hf, _⟩ := (hl l m).ex
  obtain ⟨ns, hn, _, hin⟩ := next_ex he hf i
  refine ⟨w, r, ns, e, hn, fun j hj => ?_⟩
  have st : stayB (.tup (.str w :: r)) i ls.length = true := by
    have e2 : ls[i.toNat]? = some (.tup (.str w :: r)) := by
      rw [← e]; have := atI_lit i.toNat ls; rw [Int.toNat_of_nonneg h0] at this; exact this.symm
    have := right_stays h i.toNat _ e2
    rw [Nat.zero_add, Int.toNat_of_nonneg h0] at this; exact this
  simp only [stayB, hn, List.all_append, Bool.and_eq_true, List.all_eq_true] at st
  have lt := st.1 (.int j) (List.mem_map.mpr ⟨j, hj, rfl⟩)
  refine ⟨?_, of_decide_eq_true lt⟩
  rcases hin j hj with ⟨e, _⟩ | g
  · omega
  · have q := (parts_fit he hf g).1
    obtain ⟨k, e, k0⟩ := isFrom_ex (show isFrom (.int j) = true from q)
    cases e; exact k0
/-- a program's def -/
theorem Prog.at {ps : List D} (h : Prog (.tup ps)) {d : Int} (h0 : 0 ≤ d) (h1 : d < (ps.length : Int)) : ∃ t g ks b ls, atI ps d = some (.tup [.str t, .str g, .tup ks, .int b, .tup ls]) ∧ 1 ≤ ls.length ∧ ls.length ≤ 24 ∧ (∀ l ∈ ls, LineL l) ∧ Flows ls := by
  obtain ⟨ds, e, _, _, hd, _⟩ := h.l.ex
  cases e
  obtain ⟨x, e, m⟩ := atI_ex h0 h1
  obtain ⟨t, g, ks, b, ls, rfl, _, _, _, _, _, _, _, _, l1, l24, hl, hr⟩ := (hd x m).ex
  exact ⟨t, g, ks, b, ls, e, l1, l24, hl, flows_of hl hr⟩
end VL
set_option maxHeartbeats 4000000
namespace VL
open PySem PySem.Spec L2
open PyProof.Rows hiding St
end VL
set_option maxHeartbeats 4000000
namespace VL
open PySem PySem.Spec L2
open PyProof.Rows hiding St
section
variable {X : Cx}
theorem ints_back {K : PySem.W.Frag} {G : Hp} : ∀ {xs : List V} {ns : List Int}, RpL K G xs (ns.map D.int) → xs = ns.map V.int
  | _, [], .nil => rfl
  | _, n :: ns, .cons (.int _) t => by rw [List.map_cons, ints_back t]
end
end VL
set_option maxHeartbeats 4000000
namespace VL
open PySem PySem.Spec L2
open PyProof.Rows hiding St
end VL
set_option maxHeartbeats 4000000
namespace VL
open PySem PySem.Spec L2
/-- a way of just so many lines leads there -/
def reachN (ls : List D) (b : Int) : Nat → Int → Prop
  | 0, i => i = b
  | k + 1, i => ∃ h, reachN ls b k h ∧ i ∈ nxOf ls h
/-- found and waiting, with how far each lies -/
structure Lev (ls : List D) (b : Int) (F : Fnd) (W : List Int) (δ : Int → Nat) : Prop where
  base : hasF F b = true ∧ aheadF F b = none ∧ δ b = 0
  up : ∀ i h, hasF F i = true → aheadF F i = some h → hasF F h = true ∧ δ i = δ h + 1 ∧ i ∈ nxOf ls h
  root : ∀ i, hasF F i = true → aheadF F i = none → i = b
  done : ∀ i, hasF F i = true → i ∉ W → ∀ j ∈ nxOf ls i, hasF F j = true ∧ δ j ≤ δ i + 1
  wsub : ∀ x ∈ W, hasF F x = true
  rise : W.Pairwise fun x y => δ x ≤ δ y
  span : ∀ h ∈ W.head?, ∀ x ∈ W, δ x ≤ δ h + 1
  low : ∀ i, hasF F i = true → i ∉ W → ∀ x ∈ W, δ i ≤ δ x
end VL
set_option maxHeartbeats 4000000
namespace VL
open PySem PySem.Spec L2
theorem Lev.first {ls : List D} {b : Int} : Lev ls b [(b, none)] [b] (fun _ => 0) where
  base := ⟨by simp [hasF], by simp [aheadF], rfl⟩
  up := fun i h a e => by
    have : b = i := by simpa [hasF] using a
    subst this
    simp [aheadF] at e
  root := fun i a _ => by
    have : b = i := by simpa [hasF] using a
    exact this.symm
  done := fun i a n => by
    have : b = i := by simpa [hasF] using a
    exact absurd (by simp [this]) n
  wsub := fun x m => by rw [List.mem_singleton.mp m]; simp [hasF]
  rise := by simp
  span := fun _ _ _ _ => Nat.zero_le _
  low := fun _ _ _ _ _ => Nat.zero_le _
section
variable {ls : List D} {b : Int} {F : Fnd} {δ : Int → Nat}
/-- what is reached is found, no farther -/
theorem Lev.reach (v : Lev ls b F [] δ) : ∀ {k : Nat} {i : Int}, reachN ls b k i → hasF F i = true ∧ δ i ≤ k
  | 0, i, h => by
    have h : i = b := h
    subst h
    exact ⟨v.base.1, by rw [v.base.2.2]; exact Nat.le_refl _⟩
  | k + 1, i, ⟨j, hj, m⟩ => by
    obtain ⟨f, l⟩ := v.reach hj
    obtain ⟨d1, d2⟩ := v.done j f (by simp) i m
    exact ⟨d1, by omega⟩
end
end VL
set_option maxHeartbeats 4000000
namespace VL
open PySem PySem.Spec L2
/-- lies at just k -/
def Dist (ls : List D) (b : Int) (k : Nat) (i : Int) : Prop := reachN ls b k i ∧ ∀ j, j < k → ¬ reachN ls b j i
/-- the table up to k, the newest those at k -/
structure Tab (ls : List D) (b : Int) (k : Nat) (T : List (Int × Nat)) (N : List Int) : Prop where
  nd : (T.map (·.1)).Nodup
  is : ∀ q ∈ T, Dist ls b q.2 q.1 ∧ q.2 ≤ k
  all : ∀ j i, j ≤ k → reachN ls b j i → ∃ q ∈ T, q.1 = i
  new : ∀ i, i ∈ N ↔ Dist ls b k i
  rise : N.Pairwise (· < ·)
theorem Tab.first {ls : List D} {b : Int} : Tab ls b 0 [(b, 0)] [b] where
  nd := by simp
  is := fun q m => by rw [List.mem_singleton.mp m]; exact ⟨⟨rfl, fun j h => absurd h (Nat.not_lt_zero _)⟩, Nat.le_refl _⟩
  all := fun j i h r => by
    obtain rfl : j = 0 := by omega
    exact ⟨(b, 0), by simp, (show i = b from r).symm⟩
  new := fun i => by
    rw [List.mem_singleton]
    exact ⟨fun e => ⟨e, fun j h => absurd h (Nat.not_lt_zero _)⟩, fun d => d.1⟩
  rise := by simp
/-- none at k: none beyond -/
theorem Tab.done {ls : List D} {b : Int} {k : Nat} {T : List (Int × Nat)} (t : Tab ls b k T []) : ∀ j i, reachN ls b j i → ∃ q ∈ T, q.1 = i := by
  have far : ∀ j i, reachN ls b j i → ∃ l, l ≤ k ∧ reachN ls b l i := by
    intro j
    induction j with
    | zero => exact fun i r => ⟨0, Nat.zero_le _, r⟩
    | succ j ih =>
      rintro i ⟨h, r, m⟩
      obtain ⟨l, lk, rl⟩ := ih h r
      rcases Nat.lt_or_ge l k with c | c
      · exact ⟨l + 1, c, h, rl, m⟩
      · obtain rfl : l = k := by omega
        by_cases least : ∀ j', j' < l → ¬ reachN ls b j' h
        · exact absurd ((t.new h).mpr ⟨rl, least⟩) (by simp)
        · obtain ⟨j', h'⟩ := Classical.not_forall.mp least
          obtain ⟨lt, h2⟩ := Classical.not_imp.mp h'
          exact ⟨j' + 1, lt, h, Classical.not_not.mp h2, m⟩
  intro j i r
  obtain ⟨l, lk, rl⟩ := far j i r
  exact t.all l i lk rl
end VL
set_option maxHeartbeats 4000000
namespace VL
open PySem PySem.Spec L2
end VL
set_option maxHeartbeats 2000000
namespace VL
open PySem PySem.Spec L2
open PyProof.Rows hiding St
end VL
set_option maxHeartbeats 2000000
namespace PySem
open Sem (wp)
end PySem
namespace VL
open PySem PySem.Spec L2
open PyProof.Rows hiding St
end VL
set_option maxHeartbeats 2000000
namespace VL
open PySem PySem.Spec L2
open PyProof.Rows hiding St
theorem RpL.reverse {K : PySem.W.Frag} {G : Hp} : ∀ {xs : List V} {ds : List D}, RpL K G xs ds → RpL K G xs.reverse ds.reverse
  | _, _, .nil => .nil
  | _, _, .cons r t => by rw [List.reverse_cons, List.reverse_cons]; exact t.reverse.append (.cons r .nil)
end VL
set_option maxHeartbeats 4000000
namespace VL
open PySem PySem.Spec L2
open PyProof.Rows hiding St
/-- at which sign a home stands -/
def signN (h : D) : Nat := match h with
  | .tup [.str w, .int k] => if w = "peg" then k.toNat else 4 + k.toNat
  | _ => 0
def kindW (w : Str) : Nat := if w = "none" ∨ w = "new" ∨ w = "getb" then 98 else 110
def givesN (ps : List D) (d : D) : Nat := match d with
  | .int i => (match atI ps i with
    | some (.tup (_ :: .str g :: _)) => g.cps.toList.headD 0
    | _ => 0)
  | _ => 0
/-- what a home holds behind a line: what another one held, or a kind -/
def srcL (ps : List D) (l : D) (t : Nat) : Nat ⊕ Nat := match l with
  | .tup (.str w :: r) => (match writesW w r with
    | h :: _ => if t = signN h then (if w = "copy" then .inl (signN (r.getD 1 .non)) else if w = "call" then .inr (givesN ps (r.getD 0 .non)) else .inr (kindW w)) else .inl t
    | [] => .inl t)
  | _ => .inl t
def valN (st : List Nat) : Nat ⊕ Nat → Nat
  | .inl s => st.getD s 0
  | .inr c => c
def behindN (ps : List D) (l : D) (st : List Nat) : List Nat := (List.range 8).map fun t => valN st (srcL ps l t)
theorem behindN_get {ps : List D} {l : D} {st : List Nat} {t : Nat} (h : t < 8) : (behindN ps l st).getD t 0 = valN st (srcL ps l t) := by
  unfold behindN
  rw [List.getD_eq_getElem?_getD, List.getElem?_map, List.getElem?_range h]; rfl
theorem ext8 {a b : List Nat} (ha : a.length = 8) (hb : b.length = 8) (h : ∀ t, t < 8 → a.getD t 0 = b.getD t 0) : a = b := by
  apply List.ext_getElem (by omega)
  intro t h1 h2
  have := h t (by omega)
  rw [List.getD_eq_getElem?_getD, List.getD_eq_getElem?_getD, List.getElem?_eq_getElem h1, List.getElem?_eq_getElem h2] at this
  exact this
/-- a stand may be whatever where another one is not -/
def Low (a b : List Nat) : Prop := ∀ t, t < 8 → a.getD t 0 = b.getD t 0 ∨ a.getD t 0 = 45
theorem Low.refl (a : List Nat) : Low a a := fun _ _ => .inl rfl
theorem Low.trans {a b c : List Nat} (h : Low a b) (g : Low b c) : Low a c := fun t ht => by
  rcases h t ht with e | e
  · rw [e]; exact g t ht
  · exact .inr e
inductive Fact (ps ls : List D) (fs : List Nat) : Int → Nat → Nat → Prop
  | first {t : Nat} (h : t < 8) : Fact ps ls fs 0 t (fs.getD t 0)
  | copy {i j : Int} {s t k : Nat} (f : Fact ps ls fs i s k) (n : j ∈ nxOf ls i) (e : srcL ps ((atI ls i).getD .non) t = .inl s) (h : t < 8) : Fact ps ls fs j t k
  | made {i j : Int} {s t k c : Nat} (f : Fact ps ls fs i s k) (n : j ∈ nxOf ls i) (e : srcL ps ((atI ls i).getD .non) t = .inr c) (h : t < 8) : Fact ps ls fs j t c
/-- told truly, as far as told -/
def Just (P : Nat → Prop) (k : Nat) : Prop := (k ≠ 45 → P k) ∧ (k = 45 → P 45 ∨ ∃ a b, a ≠ b ∧ P a ∧ P b)
/-- a stand's kind of a home, told just by what the home holds -/
def Meets (P : Nat → Prop) (k : Nat) : Prop := Just P k ∧ ∀ k', P k' → k = k' ∨ k = 45
theorem Meets.one {P : Nat → Prop} {a b : Nat} (h : Meets P a) (g : Meets P b) : a = b := by
  by_cases ea : a = 45
  · rcases h.1.2 ea with q | ⟨x, y, ne, q1, q2⟩
    · rcases g.2 45 q with e | e <;> omega
    · rcases g.2 x q1 with e | e
      · rcases g.2 y q2 with e2 | e2
        · omega
        · omega
      · omega
  · have := g.2 a (h.1.1 ea)
    by_cases eb : b = 45
    · subst eb
      rcases g.1.2 rfl with q | ⟨x, y, ne, q1, q2⟩
      · rcases h.2 45 q with e | e <;> omega
      · rcases h.2 x q1 with e | e
        · rcases h.2 y q2 with e2 | e2 <;> omega
        · omega
    · omega
def StandAt (ps ls : List D) (fs : List Nat) (i : Int) : Option (List Nat) → Prop
  | none => ∀ t k, ¬ Fact ps ls fs i t k
  | some st => st.length = 8 ∧ ∀ t, t < 8 → Meets (Fact ps ls fs i t) (st.getD t 0)
theorem StandAt.one {ps ls : List D} {fs : List Nat} {i : Int} {a b : Option (List Nat)} (h : StandAt ps ls fs i a) (g : StandAt ps ls fs i b) : a = b := by
  have fact : ∀ {st : List Nat}, (∀ t, t < 8 → Meets (Fact ps ls fs i t) (st.getD t 0)) → ∃ t k, Fact ps ls fs i t k := fun {st} h => by
    obtain ⟨⟨a, b⟩, _⟩ := h 0 (by decide)
    by_cases k : st.getD 0 0 = 45
    · rcases b k with q | ⟨x, y, ne, q1, q2⟩
      · exact ⟨_, _, q⟩
      · exact ⟨_, _, q1⟩
    · exact ⟨_, _, a k⟩
  cases a with
  | none => cases b with
    | none => rfl
    | some st => obtain ⟨t, k, f⟩ := fact g.2; exact (h t k f).elim
  | some st => cases b with
    | none => obtain ⟨t, k, f⟩ := fact h.2; exact (g t k f).elim
    | some st' => rw [ext8 h.1 g.1 fun t ht => (h.2 t ht).one (g.2 t ht)]
end VL
set_option maxHeartbeats 4000000
namespace VL
open PySem PySem.Spec L2
open PyProof.Rows hiding St
theorem app_len (a b : Str) : (a ++ b).length = a.length + b.length := by
  show (a.cps ++ b.cps).size = a.cps.size + b.cps.size; simp
def Src (ps ls : List D) : Prop := ∀ (i : Int) (t : Nat), t < 8 → (∀ s, srcL ps ((atI ls i).getD .non) t = .inl s → s < 8) ∧ ∀ c, srcL ps ((atI ls i).getD .non) t = .inr c → c ∈ [110, 98, 45]
theorem Fact.sign {ps ls : List D} {fs : List Nat} (s : Src ps ls) (l8 : fs.length = 8) (hf : ∀ c ∈ fs, c ∈ [110, 98, 45]) {i : Int} {t k : Nat} (f : Fact ps ls fs i t k) : t < 8 ∧ k ∈ [110, 98, 45] := by
  induction f with
  | @first t h =>
    refine ⟨h, hf _ ?_⟩
    rw [List.getD_eq_getElem?_getD, List.getElem?_eq_getElem (by omega)]
    exact List.getElem_mem _
  | copy f n e h ih => exact ⟨h, ih.2⟩
  | made f n e h ih => exact ⟨h, (s _ _ h).2 _ e⟩
end VL
set_option maxHeartbeats 4000000
namespace VL
open PySem PySem.Spec L2
open PyProof.Rows hiding St
def jumpsW : List Str := ["go", "if", "ifnone", "same", "back"]
/-- no jumps, a back at last -/
structure Straight (ls : List D) : Prop where
  pos : 1 ≤ ls.length
  on : ∀ (i : Nat) l, ls[i]? = some l → i + 1 < ls.length → ∃ w r, l = .tup (.str w :: r) ∧ w ∉ jumpsW
  end_ : ls[ls.length - 1]? = some (.tup [.str (Str.ofString "back")])
theorem next_on {w : Str} {r : List D} {i : Int} (h : w ∉ jumpsW) : nextN w r i = some [i + 1] := by
  simp only [jumpsW, List.mem_cons, List.not_mem_nil, or_false, not_or] at h
  obtain ⟨a, b, c, d, e⟩ := h
  unfold nextN
  rw [if_neg e, if_neg a, if_neg (by simp only [not_or]; exact ⟨b, c, d⟩)]
theorem Straight.nx {ls : List D} (s : Straight ls) {i : Nat} (h : i < ls.length) : nxOf ls (i : Int) = if i + 1 < ls.length then [(i : Int) + 1] else [] := by
  unfold nxOf
  rw [atI_lit]
  by_cases e : i + 1 < ls.length
  · rw [if_pos e]
    obtain ⟨w, r, q, hw⟩ := s.on i _ (List.getElem?_eq_getElem h) e
    rw [List.getElem?_eq_getElem h, q]
    simp only [next_on hw, Option.getD_some]
  · rw [if_neg e]
    have : i = ls.length - 1 := by omega
    rw [this, s.end_]
    rfl
/-- the stands one by one -/
def dueN (ps ls : List D) (fs : List Nat) : Nat → List Nat
  | 0 => fs
  | i + 1 => behindN ps (ls.getD i .non) (dueN ps ls fs i)
theorem Straight.has {ps ls : List D} {fs : List Nat} (s : Straight ls) (f8 : fs.length = 8) (src : Src ps ls) : ∀ (i t : Nat), i < ls.length → t < 8 → Fact ps ls fs (i : Int) t ((dueN ps ls fs i).getD t 0)
  | 0, t, _, ht => .first ht
  | i + 1, t, hi, ht => by
    have at_ : (atI ls (i : Int)).getD .non = ls.getD i .non := by rw [atI_lit, List.getD_eq_getElem?_getD]
    have nx : ((i + 1 : Nat) : Int) ∈ nxOf ls (i : Int) := by rw [s.nx (by omega), if_pos hi]; simp
    have q := src (i : Int) t ht
    rw [at_] at q
    unfold dueN
    rw [behindN_get ht]
    cases e : srcL ps (ls.getD i .non) t with
    | inl a => exact .copy (Straight.has s f8 src i a (by omega) (q.1 a e)) nx (by rw [at_]; exact e) ht
    | inr c => exact .made (Straight.has s f8 src i t (by omega) ht) nx (by rw [at_]; exact e) ht
end VL
set_option maxHeartbeats 4000000
namespace VL
open PySem PySem.Spec L2
open PyProof.Rows hiding St
def valT (kvs : List (NK × D)) (k : NK) : Option D := (kvs.find? fun p => decide (p.1 = k)).map (·.2)
def putT (kvs : List (NK × D)) (k : NK) (d : D) : List (NK × D) := if (valT kvs k).isSome then kvs.map (fun p => if p.1 = k then (p.1, d) else p) else kvs ++ [(k, d)]
section
variable {K : PySem.W.Frag} {G : Hp}
theorem EntR.len : ∀ {xs : List (NK × Addr × Value)} {kvs : List (NK × D)}, EntR K G xs kvs → xs.length = kvs.length
  | _, _, .nil => rfl
  | _, _, .cons _ _ _ t => by simp [t.len]
theorem EntR.val {k : NK} : ∀ {xs : List (NK × Addr × Value)} {kvs : List (NK × D)}, EntR K G xs kvs → (atKey xs k = none ∧ valT kvs k = none) ∨ ∃ q u v d, atKey xs k = some (q, u) ∧ valT kvs k = some d ∧ RelV v u ∧ Rp K G v d
  | _, _, .nil => .inl ⟨rfl, rfl⟩
  | _, _, .cons (k := k') (q := q) (u := u) (d := d) _ _ ⟨v, r1, r2⟩ t => by
    unfold atKey valT
    rw [List.find?_cons, List.find?_cons]
    by_cases e : k' = k
    · simp only [e, decide_true]
      exact .inr ⟨q, u, v, d, rfl, rfl, r1, r2⟩
    · simp only [e, decide_false]
      exact t.val
theorem EntR.append : ∀ {xs ys : List (NK × Addr × Value)} {kvs kws : List (NK × D)}, EntR K G xs kvs → EntR K G ys kws → EntR K G (xs ++ ys) (kvs ++ kws)
  | _, _, _, _, .nil, s => s
  | _, _, _, _, .cons a b c t, s => .cons a b c (t.append s)
theorem EntR.putAll {k : NK} {u : Value} {d : D} (rv : ∃ v, RelV v u ∧ Rp K G v d) : ∀ {xs : List (NK × Addr × Value)} {kvs : List (NK × D)}, EntR K G xs kvs → EntR K G (xs.map (putAt k u)) (kvs.map fun p => if p.1 = k then (p.1, d) else p)
  | _, _, .nil => .nil
  | _, _, .cons (k := k') a b c t => by
    rw [List.map_cons, List.map_cons]
    unfold putAt
    by_cases e : k' = k
    · rw [if_pos e, if_pos e]; exact .cons a b rv (t.putAll rv)
    · rw [if_neg e, if_neg e]; exact .cons a b c (t.putAll rv)
theorem EntR.put {k : NK} {q : Addr} {u : Value} {d : D} {xs : List (NK × Addr × Value)} {kvs : List (NK × D)} (r : EntR K G xs kvs) (hk : k.depth ≤ 8 ∧ keyN (dOfN k) = some k) (rk : Rp K G (.ref q) (dOfN k)) (rv : ∃ v, RelV v u ∧ Rp K G v d) : EntR K G (storedH xs k q u) (putT kvs k d) := by
  unfold putT
  rcases r.val (k := k) with ⟨a, b⟩ | ⟨_, _, _, _, a, b, _⟩
  · rw [storedH_new a, b]; exact r.append (.cons hk rk rv .nil)
  · rw [storedH_old a, b]; exact r.putAll rv
end
section
variable {X : Cx} {pins : List (Addr × Obj)} {σ : L2.St} {H G : Hp} {s : Shared} {p : Addr} {xs : List (NK × Addr × Value)} {kvs : List (NK × D)}
theorem EntR.is (I : L2.Inv X pins σ H s) (g : Same G H) : ∀ {xs : List (NK × Addr × Value)} {kvs : List (NK × D)}, EntR X.K G xs kvs → ∀ x ∈ xs, (PySem.nestedKind X.prog X.w).is s.heap x.1 x.2.1
  | _, _, .nil, x, m => nomatch m
  | _, _, .cons hk rk _ t, x, m => by
    rcases List.mem_cons.mp m with e | m
    · subst e; exact ⟨nested_of I g _ hk.2 rk rfl, hk.1⟩
    · exact t.is I g x m
/-- at p: a dict of the store whose keys are tuples, to be read -/
def TD (H : Hp) (w : World) (p : Addr) (xs : List (NK × Addr × Value)) : Prop := H p = some (.ext (dtPhi w p xs)) ∨ ∃ ob, H p = some (.frz ob (.ext (dtPhi w p xs)))
theorem TD.phi (I : L2.Inv X pins σ H s) (t : TD H X.w p xs) : dtPhi X.w p xs s.heap := by
  rcases t with e | ⟨ob, e⟩
  · exact (I.hok p _ e).1
  · exact (I.hok p _ e).2.1
theorem TD.of (I : L2.Inv X pins σ H s) (g : Same G H) (t : TD H X.w p xs) (r : EntR X.K G xs kvs) : (p == sysModules) = false ∧ xs.length ≤ sizeLine ∧ s.heap.DictOfH (PySem.nestedKind X.prog X.w) p xs := by
  obtain ⟨a, b, c, o, es, ep, h1, h2, h3, h4⟩ := t.phi I
  exact ⟨a, b, o, es, ep, h1, h2, h3, h4, r.is I g, c⟩
end
theorem cx_w {CX : CXT} {P : Program} {w : World} {K : PySem.W.Frag} {mg : Str → Option Value} {base : Heap} {N : List Str} {x : Str} {sc : Scope} {f : Addr} {cdv : Value} {A : Around} {outer : List Env} {s : Shared} {H : Hp} {E : XK} : (cxOf CX P w K mg base N x sc f cdv A outer s H E).w = w := rfl
end VL
set_option maxHeartbeats 4000000
namespace VL
open PySem PySem.Spec L2
open PyProof.Rows hiding St
/-- what a home's kind becomes behind a line: pairs of a sign and a kind -/
def bhN (ps : List D) (l : D) (s c : Nat) : List (Nat × Nat) := match l with
  | .tup (.str w :: r) => (match writesW w r with
    | h :: _ => (if s ≠ signN h then [(s, c)] else []) ++ (if w = "copy" then (if signN (r.getD 1 .non) = s then [(signN h, c)] else []) else (if s = signN h then [(signN h, if w = "call" then givesN ps (r.getD 0 .non) else kindW w)] else []))
    | [] => [(s, c)])
  | _ => []
theorem bhN_copy {ps : List D} {w : Str} {r : List D} {s c t : Nat} (e : srcL ps (.tup (.str w :: r)) t = .inl s) : (t, c) ∈ bhN ps (.tup (.str w :: r)) s c := by
  unfold bhN
  simp only [srcL] at e
  cases ew : writesW w r with
  | nil =>
    rw [ew] at e
    simp only [Sum.inl.injEq] at e
    subst e
    simp only [ew]; simp
  | cons h rest =>
    rw [ew] at e
    simp only [ew]
    simp only at e
    by_cases z : t = signN h
    · rw [if_pos z] at e
      by_cases cw : w = "copy"
      · rw [if_pos cw] at e
        simp only [Sum.inl.injEq] at e
        rw [if_pos cw, if_pos e, z]
        simp
      · rw [if_neg cw] at e
        split at e <;> cases e
    · rw [if_neg z] at e
      simp only [Sum.inl.injEq] at e
      subst e
      rw [if_pos z]; simp
theorem bhN_made {ps : List D} {w : Str} {r : List D} {s c t k : Nat} (e : srcL ps (.tup (.str w :: r)) t = .inr k) (hs : s = t) : (t, k) ∈ bhN ps (.tup (.str w :: r)) s c := by
  unfold bhN
  simp only [srcL] at e
  cases ew : writesW w r with
  | nil => rw [ew] at e; cases e
  | cons h rest =>
    rw [ew] at e
    simp only [ew]
    simp only at e
    by_cases z : t = signN h
    · rw [if_pos z] at e
      by_cases cw : w = "copy"
      · rw [if_pos cw] at e; cases e
      · rw [if_neg cw] at e
        subst hs
        subst z
        rw [if_neg (by simp), if_neg cw, if_pos rfl, List.nil_append]
        split at e
        · rename_i c2
          simp only [Sum.inr.injEq] at e
          subst e; rw [if_pos c2]; simp
        · rename_i c2
          simp only [Sum.inr.injEq] at e
          subst e; rw [if_neg c2]; simp
    · rw [if_neg z] at e; cases e
theorem Fact.all {ps ls : List D} {fs : List Nat} (src : Src ps ls) {i : Int} {t k : Nat} (f : Fact ps ls fs i t k) : ∀ t', t' < 8 → ∃ k', Fact ps ls fs i t' k' := by
  have step : ∀ {i j : Int}, (∀ t', t' < 8 → ∃ k', Fact ps ls fs i t' k') → j ∈ nxOf ls i → ∀ t', t' < 8 → ∃ k', Fact ps ls fs j t' k' := fun {i j} ih n t' ht => by
    cases e : srcL ps ((atI ls i).getD .non) t' with
    | inl s =>
      obtain ⟨k', f'⟩ := ih s ((src i t' ht).1 s e)
      exact ⟨k', .copy f' n e ht⟩
    | inr c =>
      obtain ⟨k', f'⟩ := ih 0 (by decide)
      exact ⟨c, .made f' n e ht⟩
  induction f with
  | first h => exact fun t' ht => ⟨_, .first ht⟩
  | copy f n e h ih => exact step ih n
  | made f n e h ih => exact step ih n
/-- a fact: a line, a sign, a kind -/
abbrev FT := Int × Nat × Nat
/-- where a fact goes on to -/
def nxF (ps ls : List D) (f : FT) : List FT := (nxOf ls f.1).flatMap fun j => (bhN ps ((atI ls f.1).getD .non) f.2.1 f.2.2).map fun p => (j, p.1, p.2)
structure FI (ps ls : List D) (fs : List Nat) (L W : List FT) : Prop where
  nd : L.Nodup
  fl : ∀ f ∈ L, Fact ps ls fs f.1 f.2.1 f.2.2
  fw : ∀ f ∈ W, Fact ps ls fs f.1 f.2.1 f.2.2
  on : ∀ f ∈ L, ∀ g ∈ nxF ps ls f, g ∈ L ∨ g ∈ W
  st : ∀ t, t < 8 → (0, t, fs.getD t 0) ∈ L ∨ (0, t, fs.getD t 0) ∈ W
/-- each fact has a number below 24 a line -/
def codeF (f : FT) : Int := 24 * f.1 + 3 * (f.2.1 : Int) + (if f.2.2 = 110 then 0 else if f.2.2 = 98 then 1 else 2)
theorem codeF_inj {f g : FT} (hf : f.2.1 < 8 ∧ f.2.2 ∈ [110, 98, 45]) (hg : g.2.1 < 8 ∧ g.2.2 ∈ [110, 98, 45]) (h : codeF f = codeF g) : f = g := by
  obtain ⟨i, t, c⟩ := f
  obtain ⟨j, u, d⟩ := g
  simp only [List.mem_cons, List.not_mem_nil, or_false] at hf hg
  unfold codeF at h
  simp only at h hf hg
  obtain ⟨t8, hc⟩ := hf
  obtain ⟨u8, hd⟩ := hg
  rcases hc with rfl | rfl | rfl <;> rcases hd with rfl | rfl | rfl <;> simp at h <;> first
    | (exfalso; omega)
    | (have e1 : i = j := by omega
       have e2 : t = u := by omega
       rw [e1, e2])
theorem nodup_on {α β : Type} {g : α → β} : ∀ {L : List α}, L.Nodup → (∀ a ∈ L, ∀ b ∈ L, g a = g b → a = b) → (L.map g).Nodup
  | [], _, _ => .nil
  | a :: L, nd, h => by
    rw [List.map_cons, List.nodup_cons]
    rw [List.nodup_cons] at nd
    refine ⟨fun m => ?_, nodup_on nd.2 fun x hx y hy => h x (List.mem_cons_of_mem _ hx) y (List.mem_cons_of_mem _ hy)⟩
    obtain ⟨b, mb, e⟩ := List.mem_map.mp m
    have := h b (List.mem_cons_of_mem _ mb) a List.mem_cons_self e
    subst this
    exact nd.1 mb
theorem FI.few {ps ls : List D} {fs : List Nat} {L W : List FT} (q : FI ps ls fs L W) (src : Src ps ls) (l8 : fs.length = 8) (hf : ∀ c ∈ fs, c ∈ [110, 98, 45]) (inn : ∀ {i t k}, Fact ps ls fs i t k → 0 ≤ i ∧ i < (ls.length : Int)) : L.length ≤ 24 * ls.length := by
  have := pigeon (24 * ls.length) (L.map codeF) (by
    exact nodup_on q.nd fun f mf g mg e => codeF_inj ((q.fl f mf).sign src l8 hf) ((q.fl g mg).sign src l8 hf) e) fun x hx => by
    obtain ⟨f, mf, rfl⟩ := List.mem_map.mp hx
    obtain ⟨a, b⟩ := inn (q.fl f mf)
    obtain ⟨c, d⟩ := (q.fl f mf).sign src l8 hf
    unfold codeF
    push_cast
    split <;> (try split) <;> omega
  rwa [List.length_map] at this
/-- a new one -/
theorem FI.new {ps ls : List D} {fs : List Nat} {L W : List FT} {f : FT} (q : FI ps ls fs L (W ++ [f])) (h : f ∉ L) (go : ∀ g ∈ nxF ps ls f, Fact ps ls fs g.1 g.2.1 g.2.2) : FI ps ls fs (L ++ [f]) (W ++ nxF ps ls f) := by
  have sub : ∀ g, g ∈ L ∨ g ∈ W ++ [f] → g ∈ L ++ [f] ∨ g ∈ W ++ nxF ps ls f := fun g hg => by
    rcases hg with m | m
    · exact .inl (List.mem_append_left _ m)
    · rcases List.mem_append.mp m with m | m
      · exact .inr (List.mem_append_left _ m)
      · rw [List.mem_singleton.mp m]; exact .inl (by simp)
  refine ⟨?_, fun g m => ?_, fun g m => ?_, fun a ha g hg => ?_, fun t ht => sub _ (q.st t ht)⟩
  · rw [List.nodup_append]
    exact ⟨q.nd, by simp, fun a ha b hb => by rw [List.mem_singleton.mp hb]; exact fun z => h (z ▸ ha)⟩
  · rcases List.mem_append.mp m with m | m
    · exact q.fl g m
    · rw [List.mem_singleton.mp m]; exact q.fw f (by simp)
  · rcases List.mem_append.mp m with m | m
    · exact q.fw g (List.mem_append_left _ m)
    · exact go g m
  · rcases List.mem_append.mp ha with ha | ha
    · exact sub g (q.on a ha g hg)
    · rw [List.mem_singleton.mp ha] at hg; exact .inr (List.mem_append_right _ hg)
/-- gone round: all facts are there -/
theorem FI.done {ps ls : List D} {fs : List Nat} {L : List FT} (q : FI ps ls fs L []) (src : Src ps ls) (ln : ∀ i, ∃ w r, (atI ls i).getD .non = .tup (.str w :: r) ∨ nxOf ls i = []) {i : Int} {t k : Nat} (f : Fact ps ls fs i t k) : (i, t, k) ∈ L := by
  have st : ∀ {f g : FT}, f ∈ L → g ∈ nxF ps ls f → g ∈ L := fun hf hg => (q.on _ hf _ hg).elim id fun z => nomatch z
  have onto : ∀ {i j : Int} {s c t k : Nat}, (i, s, c) ∈ L → j ∈ nxOf ls i → (t, k) ∈ bhN ps ((atI ls i).getD .non) s c → (j, t, k) ∈ L := fun {i j s c t k} m n b => st m (by
    unfold nxF
    exact List.mem_flatMap.mpr ⟨j, n, List.mem_map.mpr ⟨(t, k), b, rfl⟩⟩)
  have wr : ∀ {i j : Int}, j ∈ nxOf ls i → ∃ w r, (atI ls i).getD .non = .tup (.str w :: r) := fun {i j} n => by
    obtain ⟨w, r, e | e⟩ := ln i
    · exact ⟨w, r, e⟩
    · rw [e] at n; cases n
  have main : ∀ {i : Int} {t k : Nat}, Fact ps ls fs i t k → (i, t, k) ∈ L ∧ ∀ t', t' < 8 → ∃ k', (i, t', k') ∈ L := by
    intro i t k f
    induction f with
    | first h => exact ⟨(q.st _ h).elim id (fun z => nomatch z), fun t' ht => ⟨_, (q.st t' ht).elim id (fun z => nomatch z)⟩⟩
    | @copy i j s t k f n e h ih =>
      obtain ⟨w, r, el⟩ := wr n
      have all : ∀ t', t' < 8 → ∃ k', (j, t', k') ∈ L := fun t' ht => by
        cases e2 : srcL ps ((atI ls i).getD .non) t' with
        | inl s' =>
          obtain ⟨k', m⟩ := ih.2 s' ((src i t' ht).1 s' e2)
          exact ⟨k', onto m n (by rw [el] at e2 ⊢; exact bhN_copy e2)⟩
        | inr c =>
          obtain ⟨k', m⟩ := ih.2 t' ht
          exact ⟨c, onto m n (by rw [el] at e2 ⊢; exact bhN_made e2 rfl)⟩
      exact ⟨onto ih.1 n (by rw [el] at e ⊢; exact bhN_copy e), all⟩
    | @made i j s t k c f n e h ih =>
      obtain ⟨w, r, el⟩ := wr n
      have all : ∀ t', t' < 8 → ∃ k', (j, t', k') ∈ L := fun t' ht => by
        cases e2 : srcL ps ((atI ls i).getD .non) t' with
        | inl s' =>
          obtain ⟨k', m⟩ := ih.2 s' ((src i t' ht).1 s' e2)
          exact ⟨k', onto m n (by rw [el] at e2 ⊢; exact bhN_copy e2)⟩
        | inr c =>
          obtain ⟨k', m⟩ := ih.2 t' ht
          exact ⟨c, onto m n (by rw [el] at e2 ⊢; exact bhN_made e2 rfl)⟩
      obtain ⟨k', m⟩ := ih.2 t h
      exact ⟨onto m n (by rw [el] at e ⊢; exact bhN_made e rfl), all⟩
  exact (main f).1
end VL
set_option maxHeartbeats 4000000
namespace VL
open PySem PySem.Spec L2
open PyProof.Rows hiding St
section
variable {X : Cx}
/-- the ways of a statement are joined by what holds behind it -/
def mCut (t u : VS) : VS := fun E ρ S => ∃ J : Sl → Store → Prop, t (E.on J) ρ S ∧ ∀ ρ' S', J ρ' S' → u E ρ' S'
theorem mCut_of {t u : VS} {E : VEnds} {ρ : Sl} {S : Store} (J : Sl → Store → Prop) (h : t (E.on J) ρ S) (k : ∀ ρ' S', J ρ' S' → u E ρ' S') : mCut t u E ρ S := ⟨J, h, k⟩
theorem s_cut {st : Stmt} {rest : List Stmt} {t u : VS} (h1 : PS X st (LS X.K t)) (h2 : PSs X rest (LS X.K u)) : PSs X (st :: rest) (LS X.K (mCut t u)) :=
  PSs.imp (pss_cons h1 h2) fun D' σ H ⟨ρ, S, G, E, vw, re, ⟨J, hm, hj⟩, ok⟩ => ⟨ρ, S, G, _, vw, re, hm, ⟨fun ρ' S' σ' H' G' a r q => ⟨ρ', S', G', E, a.vw, r, hj ρ' S' q, ok.after a⟩, ok.rt, ok.bk, ok.ct⟩⟩
end
end VL
set_option maxHeartbeats 2000000
namespace VL
open PySem PySem.Spec L2
open PyProof.Rows hiding St
abbrev VXs := Str → List (Str × D) → Sl → Store → Prop
def PayR (K : PySem.W.Frag) (G : Hp) (fs : List (Str × D)) (dd : Option Addr) (H : Hp) : Prop := (fs = [] ∧ dd = none) ∨ (fs ≠ [] ∧ ∃ d vs, dd = some d ∧ H d = some (.xd vs) ∧ RpF K G vs fs)
def WOk (K : PySem.W.Frag) (mg : Str → Option Value) (G : Hp) (S : Store) (H : Hp) (Wv : VXs) (W : WX) : Prop :=
  ∀ n fs cls dd ρ S' σ H' G', Aft K G S H S' H' G' → REnv K G' σ ρ → mg n = some cls → PayR K G' fs dd H' → Wv n fs ρ S' → W cls dd σ H'
section
variable {K : PySem.W.Frag} {mg : Str → Option Value} {G G1 H H1 : Hp} {S S1 : Store} {Wv : VXs} {W : WX}
theorem WOk.after (o : WOk K mg G S H Wv W) (a : Aft K G S H S1 H1 G1) : WOk K mg G1 S1 H1 Wv W := fun n fs cls dd ρ S' σ H' G' b => o n fs cls dd ρ S' σ H' G' (a.trans b)
end
def VEnds.gone (E : VEnds) (i : Nat) : VEnds := { nx := fun ρ S => E.nx (ρ.set i none) S, rt := E.rt, bk := fun ρ S => E.bk (ρ.set i none) S, ct := fun ρ S => E.ct (ρ.set i none) S }
theorem gone_nx {E : VEnds} {i : Nat} : (E.gone i).nx = fun ρ S => E.nx (ρ.set i none) S := rfl
theorem gone_rt {E : VEnds} {i : Nat} : (E.gone i).rt = E.rt := rfl
theorem gone_bk {E : VEnds} {i : Nat} : (E.gone i).bk = fun ρ S => E.bk (ρ.set i none) S := rfl
theorem gone_ct {E : VEnds} {i : Nat} : (E.gone i).ct = fun ρ S => E.ct (ρ.set i none) S := rfl
section
variable {X : Cx} {a D : Addr} {oe : Obj} {pn : List (Addr × Obj)} {m : VE} {e : Expr} {y : Str} {p2 p3 pos : Pos} {b : Bool}
/-- names of classes, one behind another -/
inductive ClsR (X : Cx) : List Expr → List V → List Value → Prop
  | nil : ClsR X [] [] []
  | own {y : Str} {C : Addr} {p : Pos} {es : List Expr} {vs : List V} {us : List Value} (hg : Gl X y) (hm : X.mg y = some (.ref C)) (hd : (y == ("__debug__" : Str)) = false) (t : ClsR X es vs us) : ClsR X (.Name y p :: es) (.ref C :: vs) (.ref C :: us)
theorem ClsR.len {es : List Expr} {vs : List V} {us : List Value} (c : ClsR X es vs us) : vs.length = us.length := by
  induction c with
  | nil => rfl
  | own hg hm hd t ih => simp [ih]
end
end VL
set_option maxHeartbeats 2000000
namespace VL
open PySem PySem.Spec L2
open PyProof.Rows hiding St
end VL
set_option maxHeartbeats 2000000
namespace VL
open PySem PySem.Spec L2
open PyProof.Rows hiding St
theorem words_tab : ∀ e ∈ lineTab, 32 ∉ TL.tl e.1 ∧ 10 ∉ TL.tl e.1 ∧ e.1 ≠ "def" := by decide +kernel
theorem cutS_tail (w : Str) : TL.tl (cutS w (some 1) none) = (TL.tl w).drop 1 := by
  have e : HT.sIx w.length 0 (some 1) = min 1 w.length := HT.sIx_nat w.length 0 1
  show ((w.cps.toList.drop (HT.sIx w.length 0 (some 1))).take (HT.sIx w.length w.length none - HT.sIx w.length 0 (some 1))) = _
  rw [e, HT.sIx_none]
  have l : w.length = w.cps.toList.length := TL.len_tl w
  rw [List.take_of_length_le (by rw [List.length_drop]; omega)]
  cases q : w.cps.toList with
  | nil => rw [q] at l; simp [TL.tl, q]
  | cons c cs => rw [q] at l; rw [show min 1 w.length = 1 by rw [l, List.length_cons]; omega]; simp [TL.tl, q]
end VL
set_option maxHeartbeats 2000000
namespace VL
open PySem PySem.Spec L2
open PyProof.Rows hiding St
end VL
set_option maxHeartbeats 2000000
namespace VL
open PySem PySem.Spec L2
open PyProof.Rows hiding St
end VL
set_option maxHeartbeats 2000000
namespace VL
open PySem PySem.Spec L2
open PyProof.Rows hiding St
def Free (b : List Nat) : Prop := ∀ c ∈ b, c ≠ 32 ∧ c ≠ 10
def Seg (L : Nat) (t : List Nat) : Prop := ∀ p b s, t = p ++ b ++ s → Free b → b.length ≤ L
theorem Seg.mono {L M : Nat} {t : List Nat} (h : Seg L t) (hm : L ≤ M) : Seg M t := fun p b s e f => Nat.le_trans (h p b s e f) hm
theorem Seg.sub {L : Nat} {t p s b : List Nat} (h : Seg L t) (e : t = p ++ b ++ s) : Seg L b := fun p' b' s' e' f => h (p ++ p') b' (s' ++ s) (by rw [e, e']; simp) f
theorem Seg.short {L : Nat} {t : List Nat} (h : t.length ≤ L) : Seg L t := fun p b s e _ => by
  have := congrArg List.length e
  simp only [List.length_append] at this; omega
theorem Seg.app {L M : Nat} {a b : List Nat} (ha : Seg L a) (hb : Seg M b) : Seg (L + M) (a ++ b) := by
  intro p x s e f
  rw [List.append_assoc] at e
  rcases List.append_eq_append_iff.mp e with ⟨u, e1, e2⟩ | ⟨u, e1, e2⟩
  · have := hb u x s (by rw [e2, List.append_assoc]) f; omega
  · rcases List.append_eq_append_iff.mp e2 with ⟨v, e3, e4⟩ | ⟨v, e3, e4⟩
    · have h1 := ha p x v (by rw [e1, e3, List.append_assoc]) f; omega
    · have f1 : Free u := fun c hc => f c (by rw [e3]; exact List.mem_append_left _ hc)
      have f2 : Free v := fun c hc => f c (by rw [e3]; exact List.mem_append_right _ hc)
      have h1 := ha p u [] (by rw [e1, List.append_nil]) f1
      have h2 := hb [] v s (by rw [e4, List.nil_append]) f2
      rw [e3, List.length_append]; omega
theorem Seg.sep {L : Nat} {a b : List Nat} {c : Nat} (hc : c = 32 ∨ c = 10) (ha : Seg L a) (hb : Seg L b) : Seg L (a ++ c :: b) := by
  intro p x s e f
  rw [List.append_assoc] at e
  have bad : c ∉ x := fun hx => by have := f c hx; omega
  rcases List.append_eq_append_iff.mp e with ⟨u, e1, e2⟩ | ⟨u, e1, e2⟩
  · cases u with
    | nil =>
      cases x with
      | nil => exact Nat.zero_le _
      | cons y x => rw [List.nil_append, List.cons_append] at e2; injection e2 with e2 _; exact absurd (by rw [e2]; exact List.mem_cons_self) bad
    | cons y u =>
      rw [List.cons_append] at e2
      injection e2 with _ e2
      exact hb u x s (by rw [e2, List.append_assoc]) f
  · rcases List.append_eq_append_iff.mp e2 with ⟨v, e3, e4⟩ | ⟨v, e3, e4⟩
    · exact ha p x v (by rw [e1, e3, List.append_assoc]) f
    · cases v with
      | nil => rw [List.append_nil] at e3; subst e3; exact ha p x [] (by rw [e1, List.append_nil]) f
      | cons y v =>
        rw [List.cons_append] at e4
        injection e4 with e4 _
        exact absurd (by rw [e3, e4]; simp) bad
theorem split_tl (t : Str) (c : Nat) : TL.tl t = TL.joinL [c] ((Txt.split t ⟨#[c]⟩).map TL.tl) ∧ (∀ p ∈ Txt.split t ⟨#[c]⟩, c ∉ TL.tl p) := by
  refine ⟨?_, StrLaws.split_free t c⟩
  have e := TL.tl_join ⟨#[c]⟩ (Txt.split t ⟨#[c]⟩)
  rw [StrLaws.join_split] at e
  exact e
theorem strOk_list {t : Str} : PyData.strOk t = true ↔ ∀ c ∈ TL.tl t, PyData.strOk ⟨#[c]⟩ = true := by
  unfold PyData.strOk
  rw [Array.all_eq_true_iff_forall_mem]
  constructor
  · intro h c hc
    rw [Array.all_eq_true_iff_forall_mem]
    intro x hx
    have : x = c := by simpa using hx
    rw [this]
    exact h c (by simpa [TL.tl] using hc)
  · intro h c hc
    have := h c (by simpa [TL.tl] using hc)
    rw [Array.all_eq_true_iff_forall_mem] at this
    exact this c (by simp)
/-- what bounds a text -/
structure BndL (L n : Nat) (t : List Nat) : Prop where
  seg : Seg L t
  nls : t.count 10 ≤ n
  sps : t.count 32 ≤ n
  ok : ∀ c ∈ t, PyData.strOk ⟨#[c]⟩ = true
  len : t.length ≤ 300 * n
abbrev Bnd (L n : Nat) (t : Str) : Prop := BndL L n (TL.tl t)
theorem nl_mk : (Str.ofString "\n") = (⟨#[10]⟩ : Str) := rfl
theorem BndL.sub {L n : Nat} {t p s b : List Nat} (h : BndL L n t) (e : t = p ++ b ++ s) : BndL L n b := by
  have h1 := h.nls; have h2 := h.sps; have h3 := h.len
  rw [e] at h1 h2 h3
  simp only [List.count_append, List.length_append] at h1 h2 h3
  exact ⟨h.seg.sub e, by omega, by omega, fun c hc => h.ok c (by rw [e]; exact List.mem_append_left _ (List.mem_append_right _ hc)), by omega⟩
theorem BndL.mono {L M n m : Nat} {t : List Nat} (h : BndL L n t) (h1 : L ≤ M) (h2 : n ≤ m) : BndL M m t :=
  ⟨h.seg.mono h1, Nat.le_trans h.nls h2, Nat.le_trans h.sps h2, h.ok, Nat.le_trans h.len (Nat.mul_le_mul_left _ h2)⟩
/-- two pieces with a blank or a feed between -/
theorem BndL.sep {L n m : Nat} {a b : List Nat} {c : Nat} (hc : c = 32 ∨ c = 10) (ha : BndL L n a) (hb : BndL L m b) : BndL L (n + m + 1) (a ++ c :: b) := by
  have h1 := ha.nls; have h2 := ha.sps; have h3 := ha.len; have g1 := hb.nls; have g2 := hb.sps; have g3 := hb.len
  have k : ∀ z : Nat, List.count z (c :: b) ≤ List.count z b + 1 := fun z => by rw [List.count_cons]; split <;> omega
  have k1 := k 10; have k2 := k 32
  refine ⟨ha.seg.sep hc hb.seg, ?_, ?_, fun x hx => ?_, ?_⟩
  · simp only [List.count_append]; omega
  · simp only [List.count_append]; omega
  · simp only [List.mem_append, List.mem_cons] at hx
    rcases hx with hx | rfl | hx
    · exact ha.ok x hx
    · rcases hc with rfl | rfl <;> decide +kernel
    · exact hb.ok x hx
  · simp only [List.length_append, List.length_cons]; omega
/-- a piece is cut out of the text and up to a sign put in its place: the pieces left -/
theorem BndL.put {L n : Nat} {a y b x : List Nat} (h : BndL L n (a ++ y ++ b)) (hx : x.length ≤ 1) (ok : ∀ c ∈ x, PyData.strOk ⟨#[c]⟩ = true) : BndL (L + 1 + L) (n + 1) (a ++ x ++ b) := by
  have ha : BndL L n a := h.sub (p := []) (s := y ++ b) (by simp)
  have hb : BndL L n b := h.sub (p := a ++ y) (s := []) (by simp)
  have c1 := List.count_le_length (a := 10) (l := x)
  have c2 := List.count_le_length (a := 32) (l := x)
  have h1 := h.nls; have h2 := h.sps; have h3 := h.len
  simp only [List.count_append, List.length_append] at h1 h2 h3
  refine ⟨(ha.seg.app (Seg.short hx)).app hb.seg, ?_, ?_, fun c hc => ?_, ?_⟩
  · simp only [List.count_append]; omega
  · simp only [List.count_append]; omega
  · simp only [List.mem_append] at hc
    rcases hc with (hc | hc) | hc
    · exact ha.ok c hc
    · exact ok c hc
    · exact hb.ok c hc
  · simp only [List.length_append]; omega
theorem joinL_app {c : Nat} : ∀ {A B : List (List Nat)}, A ≠ [] → B ≠ [] → TL.joinL [c] (A ++ B) = TL.joinL [c] A ++ c :: TL.joinL [c] B
  | [x], b :: bs, _, _ => by simp [TL.joinL]
  | x :: y :: r, B, _, hB => by
    have ih := joinL_app (c := c) (A := y :: r) (B := B) (by simp) hB
    simp only [List.cons_append, TL.joinL] at ih ⊢
    rw [ih]; simp
  | [], _, h, _ => absurd rfl h
  | [_], [], _, h => absurd rfl h
theorem joinL_take {c : Nat} (ps : List (List Nat)) (i : Nat) : ∃ s, TL.joinL [c] ps = TL.joinL [c] (ps.take i) ++ s := by
  rcases Nat.lt_or_ge i ps.length with h | h
  · by_cases h0 : i = 0
    · subst h0; exact ⟨_, by simp [TL.joinL]; rfl⟩
    · have e := joinL_app (c := c) (A := ps.take i) (B := ps.drop i) (fun z => by have := congrArg List.length z; simp only [List.length_take, List.length_nil] at this; omega) (fun z => by have := congrArg List.length z; simp only [List.length_drop, List.length_nil] at this; omega)
      rw [List.take_append_drop] at e
      exact ⟨_, e⟩
  · exact ⟨[], by rw [List.take_of_length_le h, List.append_nil]⟩
theorem joinL_drop {c : Nat} (ps : List (List Nat)) (i : Nat) : ∃ s, TL.joinL [c] ps = s ++ TL.joinL [c] (ps.drop i) := by
  rcases Nat.lt_or_ge i ps.length with h | h
  · by_cases h0 : i = 0
    · subst h0; exact ⟨[], by simp⟩
    · have e := joinL_app (c := c) (A := ps.take i) (B := ps.drop i) (fun z => by have := congrArg List.length z; simp only [List.length_take, List.length_nil] at this; omega) (fun z => by have := congrArg List.length z; simp only [List.length_drop, List.length_nil] at this; omega)
      rw [List.take_append_drop] at e
      exact ⟨TL.joinL [c] (ps.take i) ++ [c], by rw [e]; simp⟩
  · exact ⟨TL.joinL [c] ps, by rw [List.drop_of_length_le h]; simp [TL.joinL]⟩
/-- rows of one text up to one, then rows of another one from one on -/
theorem Bnd.rows {L n m : Nat} {t u : Str} {i j : Nat} (ht : Bnd L n t) (hu : Bnd L m u) : Bnd L (n + m + 1) (Str.join (Str.ofString "\n") ((Txt.split t "\n").take i ++ (Txt.split u "\n").drop j)) := by
  have e1 := (split_tl t 10).1
  have e2 := (split_tl u 10).1
  rw [← nl_mk] at e1 e2
  obtain ⟨s1, k1⟩ := joinL_take (c := 10) ((Txt.split t "\n").map TL.tl) i
  obtain ⟨s2, k2⟩ := joinL_drop (c := 10) ((Txt.split u "\n").map TL.tl) j
  rw [← e1] at k1
  rw [← e2] at k2
  have h1 := BndL.sub (p := []) (s := s1) ht (by rw [List.nil_append]; exact k1)
  have h2 := BndL.sub (p := s2) (s := []) hu (by rw [List.append_nil]; exact k2)
  show BndL L (n + m + 1) (TL.tl _)
  rw [TL.tl_join, show TL.tl (Str.ofString "\n") = [10] from rfl, List.map_append, List.map_take, List.map_drop]
  generalize ((Txt.split t "\n").map TL.tl).take i = A at h1
  generalize ((Txt.split u "\n").map TL.tl).drop j = B at h2
  by_cases hA : A = []
  · subst hA; rw [List.nil_append]; exact h2.mono (Nat.le_refl _) (by omega)
  · by_cases hB : B = []
    · subst hB; rw [List.append_nil]; exact h1.mono (Nat.le_refl _) (by omega)
    · rw [joinL_app hA hB]; exact h1.sep (.inr rfl) h2
end VL
set_option maxHeartbeats 2000000
namespace VL
open PySem PySem.Spec L2
open PyProof.Rows hiding St
end VL
set_option maxHeartbeats 2000000
namespace VL
open PySem PySem.Spec L2
open PyProof.Rows hiding St
end VL
set_option maxHeartbeats 2000000
namespace VL
open PySem PySem.Spec L2
open PyProof.Rows hiding St
section
variable {X : Cx}
theorem RpK.at {K : PySem.W.Frag} {G : Hp} : ∀ {kvs : List (Key × V)} {ds : List (Key × D)} {i : Nat} {k : Key} {d : D}, RpK K G kvs ds → ds[i]? = some (k, d) → ∃ v, kvs[i]? = some (k, v) ∧ Rp K G v d
  | _, _, _, _, _, .nil, e => by simp at e
  | _, _, 0, _, _, .cons h _, e => by simp at e; obtain ⟨rfl, rfl⟩ := e; exact ⟨_, rfl, h⟩
  | _, _, i + 1, k, d, .cons _ t, e => by
    obtain ⟨u, h1, h2⟩ := RpK.at t (i := i) (k := k) (d := d) (by simpa using e)
    exact ⟨u, by simpa using h1, h2⟩
end
end VL
set_option maxHeartbeats 2000000
namespace VL
open PySem PySem.Spec L2
open PyProof.Rows hiding St
def leadsW (w : Str) : Prop := w = "go" ∨ w = "if" ∨ w = "ifnone" ∨ w = "same"
instance (w : Str) : Decidable (leadsW w) := by unfold leadsW; exact inferInstance
theorem goal_last {w : Str} {es : List (Nat × Str)} {r : List D} (he : lineTab.lookup w = some es) (hf : fitsAll es r = true) (hw : leadsW w) : ∃ q t, r = q ++ [.int t] ∧ 0 ≤ t ∧ r.getLast? = some (.int t) ∧ r.dropLast = q := by
  have one : ∀ d : D, isFrom d = true → ∃ t : Int, d = .int t ∧ 0 ≤ t := fun d h => isFrom_ex h
  have fin : ∀ (q : List D) (d : D), r = q ++ [d] → isFrom d = true → ∃ q t, r = q ++ [.int t] ∧ 0 ≤ t ∧ r.getLast? = some (.int t) ∧ r.dropLast = q := fun q d e h => by
    obtain ⟨t, rfl, h0⟩ := one d h
    exact ⟨q, t, e, h0, by rw [e]; simp, by rw [e]; simp⟩
  rcases hw with rfl | rfl | rfl | rfl
  · obtain rfl : es = [(116, ("goal" : Str))] := Option.some.inj (he.symm.trans (by decide +kernel : lineTab.lookup (Str.ofString "go") = some [(116, ("goal" : Str))]))
    match r, hf, fits_len' hf with
    | [d], hf, _ =>
      simp only [fitsAll, Bool.and_eq_true] at hf
      exact fin [] d rfl hf.1
    | [], _, h => simp at h
    | _ :: _ :: _, _, h => simp at h
  · obtain rfl : es = [(103, ("read" : Str)), (116, ("goal" : Str))] := Option.some.inj (he.symm.trans (by decide +kernel : lineTab.lookup (Str.ofString "if") = some [(103, ("read" : Str)), (116, ("goal" : Str))]))
    match r, hf, fits_len' hf with
    | [a, d], hf, _ =>
      simp only [fitsAll, Bool.and_eq_true] at hf
      exact fin [a] d rfl hf.2.1
    | [], _, h => simp at h
    | [_], _, h => simp at h
    | _ :: _ :: _ :: _, _, h => simp at h
  · obtain rfl : es = [(103, ("read" : Str)), (116, ("goal" : Str))] := Option.some.inj (he.symm.trans (by decide +kernel : lineTab.lookup (Str.ofString "ifnone") = some [(103, ("read" : Str)), (116, ("goal" : Str))]))
    match r, hf, fits_len' hf with
    | [a, d], hf, _ =>
      simp only [fitsAll, Bool.and_eq_true] at hf
      exact fin [a] d rfl hf.2.1
    | [], _, h => simp at h
    | [_], _, h => simp at h
    | _ :: _ :: _ :: _, _, h => simp at h
  · obtain rfl : es = [(103, ("read" : Str)), (103, ("read" : Str)), (116, ("goal" : Str))] := Option.some.inj (he.symm.trans (by decide +kernel : lineTab.lookup (Str.ofString "same") = some [(103, ("read" : Str)), (103, ("read" : Str)), (116, ("goal" : Str))]))
    match r, hf, fits_len' hf with
    | [a, b, d], hf, _ =>
      simp only [fitsAll, Bool.and_eq_true] at hf
      exact fin [a, b] d rfl hf.2.2.1
    | [], _, h => simp at h
    | [_], _, h => simp at h
    | [_, _], _, h => simp at h
    | _ :: _ :: _ :: _ :: _, _, h => simp at h
theorem inF_ints {i : Int} : ∀ {ns : List Int}, inF (.int i) (ns.map D.int) = decide (i ∈ ns)
  | [] => rfl
  | n :: ns => by
    have := inF_ints (i := i) (ns := ns)
    simp only [inF, List.map_cons, List.any_cons] at this ⊢
    rw [this]
    rw [show eqF (D.int n) (D.int i) = (n == i) from rfl, Bool.beq_eq_decide_eq]
    simp [eq_comm]
theorem flat_intsR (ns : List Int) : (ns.map D.int).all flatD = true := by rw [List.all_map]; exact List.all_eq_true.mpr fun _ _ => rfl
theorem no_goal : ∀ e ∈ lineTab, ¬ leadsW e.1 → ∀ p ∈ e.2, p.2 ≠ "goal" := by decide +kernel
theorem pickL_none {p : Str} : ∀ {es : List (Nat × Str)} {ds : List D}, (∀ e ∈ es, e.2 ≠ p) → pickL p es ds = []
  | [], _, _ => rfl
  | _ :: _, [], _ => rfl
  | e :: es, d :: ds, h => by
    simp only [pickL, if_neg (h e (by simp))]
    exact pickL_none fun q hq => h q (List.mem_cons_of_mem _ hq)
end VL
set_option maxHeartbeats 2000000
namespace VL
open PySem PySem.Spec L2
open PyProof.Rows hiding St
end VL
set_option maxHeartbeats 2000000
namespace VL
open PySem PySem.Spec L2
open PyProof.Rows hiding St
theorem rise_eq {l r : List Int} (a : l.Pairwise (· < ·)) (b : r.Pairwise (· < ·)) (m : ∀ k, k ∈ l ↔ k ∈ r) : l = r := by
  have nd : ∀ {l : List Int}, l.Pairwise (· < ·) → l.Nodup := fun h => h.imp fun x => Int.ne_of_lt x
  have p : l.Perm r := (List.perm_ext_iff_of_nodup (nd a) (nd b)).mpr m
  exact p.eq_of_pairwise (le := (· < ·)) (fun _ _ _ _ x y => absurd x (by omega)) a b
theorem inF_is {i : Int} {ns : List Int} : inF (.int i) (ns.map D.int) = decide (i ∈ ns) := inF_ints
structure Seen (ls : List D) (L : List Int) : Prop where
  nd : L.Nodup
  first : (0 : Int) ∈ L
  way : ∀ i ∈ L, ∃ k, reachN ls 0 k i
  rg : ∀ i ∈ L, 0 ≤ i ∧ i < (ls.length : Int)
theorem Seen.len {ls : List D} {L : List Int} (s : Seen ls L) : L.length ≤ ls.length := pigeon _ _ s.nd s.rg
theorem nx_nodup (ls : List D) (i : Int) : (nxOf ls i).Nodup := by
  unfold nxOf
  split
  · rename_i w ps _
    cases e : nextN w ps i with
    | none => simp
    | some ns =>
      simp only [Option.getD_some]
      unfold nextN at e
      split at e
      · cases e; simp
      split at e
      · split at e
        · cases e; simp
        · cases e
      split at e
      · split at e
        · cases e
          unfold sort2
          split
          · simp
          · split <;> simp <;> omega
        · cases e
      · cases e; simp
  · simp
theorem Seen.more {ls : List D} (fl : Flows ls) {L : List Int} (s : Seen ls L) {a : Int} (ha : a ∈ L) : Seen ls (L ++ (nxOf ls a).filter fun t => !decide (t ∈ L)) where
  nd := by
    rw [List.nodup_append]
    refine ⟨s.nd, (nx_nodup ls a).filter _, fun x hx y hy z => ?_⟩
    subst z
    have := (List.mem_filter.mp hy).2
    simp at this
    exact this hx
  first := List.mem_append_left _ s.first
  way := fun i hi => by
    rcases List.mem_append.mp hi with hi | hi
    · exact s.way i hi
    · obtain ⟨k, hk⟩ := s.way a ha
      exact ⟨k + 1, a, hk, (List.mem_filter.mp hi).1⟩
  rg := fun i hi => by
    rcases List.mem_append.mp hi with hi | hi
    · exact s.rg i hi
    · exact nxOf_in fl (s.rg a ha) i (List.mem_filter.mp hi).1
theorem Seen.one {ls : List D} (h : 1 ≤ ls.length) : Seen ls [0] where
  nd := by simp
  first := by simp
  way := fun i hi => ⟨0, List.mem_singleton.mp hi⟩
  rg := fun i hi => by rw [List.mem_singleton.mp hi]; omega
theorem sub_len2 {a b : List Int} (h : a.Nodup) (s : ∀ x ∈ a, x ∈ b) : a.length ≤ b.length := by
  induction a generalizing b with
  | nil => simp
  | cons x a ih =>
    obtain ⟨h1, h2⟩ := List.nodup_cons.mp h
    have hx := s x (by simp)
    have := ih h2 (b := b.erase x) fun y hy => by
      have hne : y ≠ x := fun z => h1 (z ▸ hy)
      exact (List.mem_erase_of_ne hne).mpr (s y (List.mem_cons_of_mem _ hy))
    rw [List.length_erase_of_mem hx] at this
    have pos : 0 < b.length := List.length_pos_of_mem hx
    rw [List.length_cons]; omega
end VL
set_option maxHeartbeats 4000000
namespace VL
open PySem PySem.Spec L2
open PyProof.Rows hiding St
section
variable {P : Program} {w : World} {K : PySem.W.Frag} {mg : Str → Option Value} {base : Heap}
theorem pss_false {X : Cx} {b : List Stmt} : PSs X b (LS X.K fun _ _ _ => False) := ⟨fun pins s σ H E I h => by
  obtain ⟨ρ, S, G, E', vw, re, hm, k⟩ := h
  exact hm.elim⟩
theorem DefV.never0 {k : Nat} {x : Str} {N ps : List Str} {st : Stmt} {sp : VSp} (h : Has K mg x st) (Sc : FnScope N ps (defScope st))
    (hb : ∀ (kV doc pm : Value) (an : Option Addr) (cdv ct : Value) (us : List Value), us.length = ps.length → bindArgs (PySem.W.fnOf x x (defArgs st) (defBody st) (defScope st) .none kV doc pm an cdv ct) ⟨us, []⟩ = pure (ps.zip us)) (hno : ∀ ds S Q, ¬ sp ds S Q) :
    DefV P w K mg base (k + 1) x ps sp :=
  DefV.mk' h Sc hb fun f cdv A outer s H E hgd hr hcd => ⟨_, pss_false, fun ds S Q _ h => (hno ds S Q h).elim⟩
/-- what stands by name for those that lack -/
def KwD (K : PySem.W.Frag) (kV : Value) (dms : List (Str × D)) : Prop := ∃ kd : Addr, kV = .ref kd ∧ ∃ (us : List Value) (vs : List V), (∀ q ∈ (dms.map (·.1)).zip us, PySem.W.nsIn K kd q.1 = some (some q.2)) ∧ Vals vs us ∧ ∀ G, RpL K G vs (dms.map (·.2))
def HasD (K : PySem.W.Frag) (mg : Str → Option Value) (x : Str) (st : Stmt) (dms : List (Str × D)) : Prop := ∃ f fd, mg x = some (.ref f) ∧ Fun K x x st f fd ∧ KwD K fd.kwdefaults dms
theorem HasD.has {x : Str} {st : Stmt} {dms : List (Str × D)} (h : HasD K mg x st dms) : Has K mg x st := let ⟨f, fd, a, b, _⟩ := h; ⟨f, fd, a, b⟩
end
end VL
set_option maxHeartbeats 4000000
namespace VL
open PySem PySem.Spec L2
open PyProof.Rows hiding St
end VL
set_option maxHeartbeats 4000000
namespace VL
open PySem PySem.Spec L2
open PyProof.Rows hiding St
end VL
set_option maxHeartbeats 4000000
namespace VL
open PySem PySem.Spec L2
open PyProof.Rows hiding St
end VL
set_option maxHeartbeats 4000000
namespace VL
open PySem PySem.Spec L2
open PyProof.Rows hiding St
end VL
set_option maxHeartbeats 4000000
namespace VL
open PySem PySem.Spec L2
open PyProof.Rows hiding St
def WkB (N : Int → List Int) (laid : List Int) : Nat → Int → Int → Prop
  | 0, a, b => a = b
  | i + 1, a, b => ∃ c, WkB N laid i a c ∧ b ∈ N c ∧ b ∉ laid
def WkF (N : Int → List Int) (laid : List Int) : Nat → Int → Int → Prop
  | 0, a, b => a = b
  | i + 1, a, b => ∃ t, t ∈ N a ∧ t ∉ laid ∧ WkF N laid i t b
theorem WkF.snoc {N : Int → List Int} {laid : List Int} : ∀ {i : Nat} {a b c : Int}, WkF N laid i a b → c ∈ N b → c ∉ laid → WkF N laid (i + 1) a c
  | 0, a, b, c, h, h1, h2 => by rw [show a = b from h]; exact ⟨c, h1, h2, rfl⟩
  | i + 1, a, b, c, ⟨t, h1, h2, h3⟩, h4, h5 => ⟨t, h1, h2, h3.snoc h4 h5⟩
theorem WkB.cons {N : Int → List Int} {laid : List Int} : ∀ {i : Nat} {a b c : Int}, b ∈ N a → b ∉ laid → WkB N laid i b c → WkB N laid (i + 1) a c
  | 0, a, b, c, h1, h2, h => by rw [← show b = c from h]; exact ⟨a, rfl, h1, h2⟩
  | i + 1, a, b, c, h1, h2, ⟨d, h3, h4, h5⟩ => ⟨d, WkB.cons h1 h2 h3, h4, h5⟩
/-- the law's ends behind i turns -/
structure EndsL (K : List Int) (N : Int → List Int) (laid : List Int) (i : Nat) (E : List Int) : Prop where
  up : E.Pairwise (· < ·)
  sub : ∀ b ∈ E, b ∈ K
  mem : ∀ b, b ∈ E ↔ ∃ a ∈ K, WkB N laid i a b
  len : E.length ≤ K.length
theorem EndsL.next {K : List Int} {N : Int → List Int} {laid : List Int} {i : Nat} {E F : List Int} (h : EndsL K N laid i E) (hN : ∀ a ∈ K, ∀ b ∈ N a, b ∈ K) (up : F.Pairwise (· < ·)) (m : ∀ t, t ∈ F ↔ ∃ a ∈ E, t ∈ N a ∧ t ∉ laid) : EndsL K N laid (i + 1) F := by
  have sub : ∀ b ∈ F, b ∈ K := fun b hb => by
    obtain ⟨a, ha, h1, _⟩ := (m b).mp hb
    exact hN a (h.sub a ha) b h1
  refine ⟨up, sub, fun b => ?_, sub_len2 (up.imp fun h => Int.ne_of_lt h) sub⟩
  rw [m b]
  constructor
  · rintro ⟨c, hc, h1, h2⟩
    obtain ⟨a, ha, hw⟩ := (h.mem c).mp hc
    exact ⟨a, ha, c, hw, h1, h2⟩
  · rintro ⟨a, ha, c, hw, h1, h2⟩
    exact ⟨c, (h.mem c).mpr ⟨a, ha, hw⟩, h1, h2⟩
def intsOf (ds : List D) : List Int := ds.filterMap fun d => match d with
  | .int i => some i
  | _ => none
theorem intsOf_map : ∀ l : List Int, intsOf (l.map D.int) = l
  | [] => rfl
  | a :: l => by
    have ih := intsOf_map l
    unfold intsOf at ih ⊢
    rw [List.map_cons, List.filterMap_cons]
    exact congrArg _ ih
end VL
set_option maxHeartbeats 4000000
namespace PySem.SeqAt
open MeetsSeq
end PySem.SeqAt
namespace VL
open PySem PySem.Spec L2 PySem.SeqAt
open PyProof.Rows hiding St
mutual
def noro : D → Bool
  | .ro _ => false
  | .tup ds => noroL ds
  | .lst ds => noroL ds
  | _ => true
def noroL : List D → Bool
  | [] => true
  | d :: ds => noro d && noroL ds
end
theorem noroL_mem : ∀ {ds : List D}, noroL ds = true → ∀ d ∈ ds, noro d = true
  | d :: ds, h, e, he => by
    simp only [noroL, Bool.and_eq_true] at h
    rcases List.mem_cons.mp he with rfl | he
    · exact h.1
    · exact noroL_mem h.2 e he
/-- data that may be judged -/
def fine (d : D) : Prop := sml d = true ∧ short d = true ∧ noro d = true
theorem fine_tup {ds : List D} (h : fine (.tup ds)) : ds.length < 1000 ∧ ∀ d ∈ ds, fine d := by
  obtain ⟨h1, h2, h3⟩ := h
  obtain ⟨l, s⟩ := short_tup h2
  exact ⟨l, fun d hd => ⟨sml_tup h1 d hd, s d hd, noroL_mem (by simpa only [noro] using h3) d hd⟩⟩
theorem tyn_sml {d : D} (h : sml d = true) (S : Store) : tyn d S ≠ "?" := by cases d <;> first | (simp [tyn]; done) | (simp [sml] at h; done)
theorem flat_bl (f : D → Bool) : ∀ ds : List D, ds.flatMap (fun d => [D.bl (f d)]) = (ds.map f).map D.bl
  | [] => rfl
  | d :: ds => by rw [List.flatMap_cons, flat_bl f ds]; rfl
theorem all_id {α : Type} (f : α → Bool) (l : List α) : (l.map f).all id = l.all f := by rw [List.all_map]; rfl
end VL
set_option maxHeartbeats 4000000
namespace VL
open PySem PySem.Spec L2
open PyProof.Rows hiding St
section
variable {X : Cx}
theorem op_neT0 (hu : X.A.units < cLine) : OpR X (compareOp .NotEq) (fun x y H Q => ∃ a b xs, x = .ref a ∧ y = .ref b ∧ SqT X.K H a xs ∧ SqT X.K H b [] ∧ Q (.bl (!decide (xs = []))) H) := by
  intro pins s σ H x y v u Q I rx ry h
  obtain ⟨a, b, xs, rfl, rfl, h1, h2, q⟩ := h
  cases rx
  cases ry
  obtain ⟨its, r1, t1, _⟩ := I.tuple h1
  obtain ⟨its2, r2, t2, _⟩ := I.tuple h2
  cases r2
  refine SeqAt.RcNeAt.tuples (e := fun _ => true) t1 t2 hu (fun j _ z => absurd z (by simp)) _ _ _ _ ⟨.bl (!decide (xs = [])), H, I, ?_, q⟩
  have e : decide (xs = []) = ((List.range (min its.toArray.size (#[] : Array Value).size)).all (fun _ => true) && its.toArray.size == (#[] : Array Value).size) := by
    cases r1 <;> simp
  rw [e]
  rfl
def mNeT0 : R2V := fun x y S Q => match x, y with
  | .tup ds, .tup [] => Q (.bl (!decide (ds = []))) S
  | _, _ => False
theorem mNeT0_e {ds : List D} {S : Store} {Q : D → Store → Prop} : mNeT0 (.tup ds) (.tup []) S Q = Q (.bl (!decide (ds = []))) S := rfl
theorem ov_neT0 (hu : X.A.units < cLine) : OpV X (compareOp .NotEq) mNeT0 := by
  refine ⟨_, op_neT0 hu, ?_⟩
  intro x y v1 v2 G S H Q Q' vw r1 r2 h k
  unfold mNeT0 at h
  split at h
  · cases r1 with
    | @tup a xs ds h1 l1 =>
      cases r2 with
      | @tup b ys es h2 l2 =>
        cases l2
        refine ⟨a, b, xs, rfl, rfl, same_t vw.gh h1, same_t vw.gh h2, k _ S _ H G (Aft.refl vw) ?_ h⟩
        have same : ∀ {ds : List D}, RpL X.K G xs ds → decide (xs = []) = decide (ds = []) := fun l => by cases l <;> simp
        rw [same l1]
        exact .bl _
  · exact h.elim
end
mutual
/-- ints up to n, rows up to L -/
def okN (n L : Nat) : D → Bool
  | .non => true | .bl _ => true | .int i => decide (i.natAbs ≤ n) | .str s => PyData.strOk s && decide (s.length ≤ L)
  | .tup ds => decide (ds.length ≤ L) && okM n L ds
  | .lst ds => decide (ds.length ≤ L) && okM n L ds
  | .dct kvs => kvs.isEmpty
  | .ro _ => false | .ref _ => false
def okM (n L : Nat) : List D → Bool
  | [] => true
  | d :: ds => okN n L d && okM n L ds
end
theorem okM_iff {n L : Nat} : ∀ {ds : List D}, okM n L ds = true ↔ ∀ d ∈ ds, okN n L d = true
  | [] => ⟨fun _ d h => (nomatch h), fun _ => rfl⟩
  | d :: ds => by rw [okM, Bool.and_eq_true, okM_iff (ds := ds), List.forall_mem_cons]
theorem okN_tup {n L : Nat} {ds : List D} : okN n L (.tup ds) = true ↔ ds.length ≤ L ∧ ∀ d ∈ ds, okN n L d = true := by rw [okN, Bool.and_eq_true, decide_eq_true_eq, okM_iff]
theorem okN_lst {n L : Nat} {ds : List D} : okN n L (.lst ds) = true ↔ ds.length ≤ L ∧ ∀ d ∈ ds, okN n L d = true := by rw [okN, Bool.and_eq_true, decide_eq_true_eq, okM_iff]
mutual
theorem okN_fine {n L : Nat} (hn : n ≤ 1000000000000000000000000000000000000000000) (hL : L < 1000) : ∀ d : D, okN n L d = true → fine d
  | .non, _ => ⟨rfl, rfl, rfl⟩
  | .bl _, _ => ⟨rfl, rfl, rfl⟩
  | .int i, h => ⟨smlI_of (by have := of_decide_eq_true h; omega) (by have := of_decide_eq_true h; omega), rfl, rfl⟩
  | .str s, h => by
    rw [okN, Bool.and_eq_true, decide_eq_true_eq] at h
    exact ⟨h.1, by simp only [short, decide_eq_true_eq]; omega, rfl⟩
  | .tup ds, h => by
    rw [okN, Bool.and_eq_true, decide_eq_true_eq] at h
    obtain ⟨a, b, c⟩ := okM_fine hn hL ds h.2
    refine ⟨a, ?_, c⟩
    simp only [short, Bool.and_eq_true, decide_eq_true_eq]
    exact ⟨by omega, b⟩
  | .lst ds, h => by
    rw [okN, Bool.and_eq_true, decide_eq_true_eq] at h
    obtain ⟨a, b, c⟩ := okM_fine hn hL ds h.2
    refine ⟨a, ?_, c⟩
    simp only [short, Bool.and_eq_true, decide_eq_true_eq]
    exact ⟨by omega, b⟩
  | .dct [], _ => ⟨rfl, rfl, rfl⟩
  | .dct (_ :: _), h => by simp [okN] at h
  | .ro _, h => by simp [okN] at h
  | .ref _, h => by simp [okN] at h
theorem okM_fine {n L : Nat} (hn : n ≤ 1000000000000000000000000000000000000000000) (hL : L < 1000) : ∀ ds : List D, okM n L ds = true → smlL ds = true ∧ shortL ds = true ∧ noroL ds = true
  | [], _ => ⟨rfl, rfl, rfl⟩
  | d :: ds, h => by
    rw [okM, Bool.and_eq_true] at h
    obtain ⟨a, b, c⟩ := okN_fine hn hL d h.1
    obtain ⟨a2, b2, c2⟩ := okM_fine hn hL ds h.2
    refine ⟨?_, ?_, ?_⟩
    · rw [smlL, a, a2]; rfl
    · rw [shortL, b, b2]; rfl
    · rw [noroL, c, c2]; rfl
end
mutual
theorem okN_mono {n L n2 L2 : Nat} (hn : n ≤ n2) (hL : L ≤ L2) : ∀ d : D, okN n L d = true → okN n2 L2 d = true
  | .non, _ => rfl
  | .bl _, _ => rfl
  | .int i, h => decide_eq_true (Nat.le_trans (of_decide_eq_true h) hn)
  | .str s, h => by
    rw [okN, Bool.and_eq_true, decide_eq_true_eq] at h ⊢
    exact ⟨h.1, by omega⟩
  | .tup ds, h => by
    rw [okN, Bool.and_eq_true, decide_eq_true_eq] at h ⊢
    exact ⟨by omega, okM_mono hn hL ds h.2⟩
  | .lst ds, h => by
    rw [okN, Bool.and_eq_true, decide_eq_true_eq] at h ⊢
    exact ⟨by omega, okM_mono hn hL ds h.2⟩
  | .dct _, h => h
  | .ro _, h => by simp [okN] at h
  | .ref _, h => by simp [okN] at h
theorem okM_mono {n L n2 L2 : Nat} (hn : n ≤ n2) (hL : L ≤ L2) : ∀ ds : List D, okM n L ds = true → okM n2 L2 ds = true
  | [], _ => rfl
  | d :: ds, h => by
    rw [okM, Bool.and_eq_true] at h ⊢
    exact ⟨okN_mono hn hL d h.1, okM_mono hn hL ds h.2⟩
end
theorem cntL_app : ∀ (a b : List D), cntL (a ++ b) = cntL a + cntL b
  | [], b => by simp [cntL]
  | d :: a, b => by
    have ih := cntL_app a b
    rw [List.cons_append, cntL, cntL, ih]; omega
theorem cntL_rev : ∀ a : List D, cntL a.reverse = cntL a
  | [] => rfl
  | d :: a => by
    have ih := cntL_rev a
    rw [List.reverse_cons, cntL_app, ih]; simp only [cntL]; omega
theorem cntL_cut (a : List D) (i : Nat) (h : i < a.length) : cntL a = cntL (a.take i) + (cnt a[i] + 2) + cntL (a.drop (i + 1)) := by
  have e : a = a.take i ++ a[i] :: a.drop (i + 1) := by rw [← List.drop_eq_getElem_cons h, List.take_append_drop]
  conv => lhs; rw [e]
  rw [cntL_app, cntL]; omega
theorem cntL_take (a : List D) (i : Nat) : cntL (a.take i) ≤ cntL a := by
  conv => rhs; rw [← List.take_append_drop i a]
  rw [cntL_app]; omega
theorem cntL_drop (a : List D) (i : Nat) : cntL (a.drop i) ≤ cntL a := by
  conv => rhs; rw [← List.take_append_drop i a]
  rw [cntL_app]; omega
theorem depL_le {e : Nat} : ∀ {ds : List D}, depL ds ≤ e ↔ ∀ d ∈ ds, dep d ≤ e
  | [] => ⟨fun _ d h => (nomatch h), fun _ => Nat.zero_le _⟩
  | d :: ds => by rw [depL, Nat.max_le, depL_le (ds := ds), List.forall_mem_cons]
theorem depL_mem {ds : List D} {d : D} (h : d ∈ ds) : dep d ≤ depL ds := depL_le.mp (Nat.le_refl _) d h
/-- a thing bent: a little wider, a little deeper -/
structure Bent (n L c e : Nat) (d : D) : Prop where
  ok : okN n L d = true
  cn : cnt d ≤ c
  de : dep d ≤ e
theorem Bent.mono {n L c e n2 L2 c2 e2 : Nat} {d : D} (h : Bent n L c e d) (hn : n ≤ n2 := by omega) (hL : L ≤ L2 := by omega) (hc : c ≤ c2 := by omega) (he : e ≤ e2 := by omega) : Bent n2 L2 c2 e2 d :=
  ⟨okN_mono hn hL d h.ok, Nat.le_trans h.cn hc, Nat.le_trans h.de he⟩
/-- a row of things -/
structure BentL (n L c e : Nat) (ds : List D) : Prop where
  ok : ∀ d ∈ ds, okN n L d = true
  cn : cntL ds ≤ c
  de : ∀ d ∈ ds, dep d ≤ e
theorem BentL.tup {n L c e : Nat} {ds : List D} (h : BentL n L c e ds) (hl : ds.length ≤ L) : Bent n L (c + 3) (e + 1) (.tup ds) :=
  ⟨okN_tup.mpr ⟨hl, h.ok⟩, by rw [cnt]; have := h.cn; omega, by rw [dep]; have := depL_le.mpr h.de; omega⟩
theorem BentL.lst {n L c e : Nat} {ds : List D} (h : BentL n L c e ds) (hl : ds.length ≤ L) : Bent n L (c + 3) (e + 1) (.lst ds) :=
  ⟨okN_lst.mpr ⟨hl, h.ok⟩, by rw [cnt]; have := h.cn; omega, by rw [dep]; have := depL_le.mpr h.de; omega⟩
theorem BentL.nil {n L c e : Nat} : BentL n L c e [] := ⟨fun _ h => (nomatch h), Nat.zero_le _, fun _ h => (nomatch h)⟩
theorem BentL.app {n L c1 c2 e : Nat} {a b : List D} (h1 : BentL n L c1 e a) (h2 : BentL n L c2 e b) : BentL n L (c1 + c2) e (a ++ b) :=
  ⟨fun d hd => (List.mem_append.mp hd).elim (h1.ok d) (h2.ok d), by rw [cntL_app]; have := h1.cn; have := h2.cn; omega, fun d hd => (List.mem_append.mp hd).elim (h1.de d) (h2.de d)⟩
theorem BentL.cons {n L c1 c2 e : Nat} {a : D} {b : List D} (h1 : Bent n L c1 e a) (h2 : BentL n L c2 e b) : BentL n L (c1 + 2 + c2) e (a :: b) :=
  ⟨fun d hd => (List.mem_cons.mp hd).elim (fun z => z ▸ h1.ok) (h2.ok d), by rw [cntL]; have := h1.cn; have := h2.cn; omega, fun d hd => (List.mem_cons.mp hd).elim (fun z => z ▸ h1.de) (h2.de d)⟩
theorem BentL.take {n L c e : Nat} {a : List D} (h : BentL n L c e a) (i : Nat) : BentL n L c e (a.take i) :=
  ⟨fun d hd => h.ok d (List.mem_of_mem_take hd), Nat.le_trans (cntL_take _ _) h.cn, fun d hd => h.de d (List.mem_of_mem_take hd)⟩
theorem BentL.drop {n L c e : Nat} {a : List D} (h : BentL n L c e a) (i : Nat) : BentL n L c e (a.drop i) :=
  ⟨fun d hd => h.ok d (List.mem_of_mem_drop hd), Nat.le_trans (cntL_drop _ _) h.cn, fun d hd => h.de d (List.mem_of_mem_drop hd)⟩
theorem BentL.rev {n L c e : Nat} {a : List D} (h : BentL n L c e a) : BentL n L c e a.reverse :=
  ⟨fun d hd => h.ok d (List.mem_reverse.mp hd), by rw [cntL_rev]; exact h.cn, fun d hd => h.de d (List.mem_reverse.mp hd)⟩
theorem BentL.mono {n L c e n2 L2 c2 e2 : Nat} {ds : List D} (h : BentL n L c e ds) (hn : n ≤ n2 := by omega) (hL : L ≤ L2 := by omega) (hc : c ≤ c2 := by omega) (he : e ≤ e2 := by omega) : BentL n2 L2 c2 e2 ds :=
  ⟨fun d hd => okN_mono hn hL d (h.ok d hd), Nat.le_trans h.cn hc, fun d hd => Nat.le_trans (h.de d hd) he⟩
/-- one put in another's place -/
theorem BentL.put {n L c e c1 : Nat} {a : List D} {d : D} (h : BentL n L c e a) (i : Nat) (hi : i < a.length) (h1 : Bent n L (cnt a[i] + c1) e d) : BentL n L (c + c1) e (a.take i ++ d :: a.drop (i + 1)) := by
  refine ⟨fun x hx => ?_, ?_, fun x hx => ?_⟩
  · rcases List.mem_append.mp hx with hx | hx
    · exact h.ok x (List.mem_of_mem_take hx)
    · rcases List.mem_cons.mp hx with rfl | hx
      · exact h1.ok
      · exact h.ok x (List.mem_of_mem_drop hx)
  · rw [cntL_app, cntL]
    have := cntL_cut a i hi
    have := h.cn
    have := h1.cn
    omega
  · rcases List.mem_append.mp hx with hx | hx
    · exact h.de x (List.mem_of_mem_take hx)
    · rcases List.mem_cons.mp hx with rfl | hx
      · exact h1.de
      · exact h.de x (List.mem_of_mem_drop hx)
theorem Bent.row {n L c e : Nat} {ds : List D} (h : Bent n L c e (.tup ds)) : BentL n L (c - 3) (e - 1) ds ∧ ds.length ≤ L ∧ 3 ≤ c ∧ 1 ≤ e := by
  obtain ⟨h1, h2, h3⟩ := h
  obtain ⟨l, o⟩ := okN_tup.mp h1
  rw [cnt] at h2
  rw [dep] at h3
  exact ⟨⟨o, by omega, fun d hd => by have := depL_mem hd; omega⟩, l, by omega, by omega⟩
theorem BentL.mem {n L c e : Nat} {ds : List D} (h : BentL n L c e ds) {d : D} (hd : d ∈ ds) : Bent n L c e d := by
  refine ⟨h.ok d hd, ?_, h.de d hd⟩
  obtain ⟨i, hi, rfl⟩ := List.mem_iff_getElem.mp hd
  have := cntL_cut ds i hi
  have := h.cn
  omega
theorem bent_int {n L : Nat} {i : Int} (h : i.natAbs ≤ n) : Bent n L 151 0 (.int i) := ⟨decide_eq_true h, Nat.le_refl _, Nat.le_refl _⟩
theorem Bent.self {n L : Nat} {d : D} (h : okN n L d = true) : Bent n L (cnt d) (dep d) d := ⟨h, Nat.le_refl _, Nat.le_refl _⟩
/-- the ends behind i turns, in any order, each with a way -/
structure EndsN (K : List Int) (N : Int → List Int) (laid : List Int) (i : Nat) (F : List (Int × List Int)) : Prop where
  nd : (F.map (·.1)).Nodup
  mem : ∀ b, b ∈ F.map (·.1) ↔ ∃ a ∈ K, WkB N laid i a b
  way : ∀ p ∈ F, p.2.length = i + 1 ∧ ∀ x ∈ p.2, x ∈ K
theorem wkb_sub {K : List Int} {N : Int → List Int} {laid : List Int} (hN : ∀ a ∈ K, ∀ b ∈ N a, b ∈ K) : ∀ (i : Nat) {a b : Int}, a ∈ K → WkB N laid i a b → b ∈ K
  | 0, a, b, ha, h => by rw [← show a = b from h]; exact ha
  | i + 1, a, b, ha, ⟨c, h1, h2, _⟩ => hN c (wkb_sub hN i ha h1) b h2
theorem EndsN.sub {K : List Int} {N : Int → List Int} {laid : List Int} {i : Nat} {F : List (Int × List Int)} (h : EndsN K N laid i F) (hN : ∀ a ∈ K, ∀ b ∈ N a, b ∈ K) : ∀ b ∈ F.map (·.1), b ∈ K := fun b hb => by
  obtain ⟨a, ha, hw⟩ := (h.mem b).mp hb
  exact wkb_sub hN i ha hw
/-- the next ends, so far: of the first j ends, and of the next one's first q lines -/
structure SoF (K : List Int) (N : Int → List Int) (laid : List Int) (i : Nat) (E R : List Int) (at' : Int) (G : List (Int × List Int)) : Prop where
  nd : (G.map (·.1)).Nodup
  mem : ∀ t, t ∈ G.map (·.1) ↔ (∃ a ∈ E, t ∈ N a ∧ t ∉ laid) ∨ (t ∈ R ∧ t ∉ laid)
  way : ∀ p ∈ G, p.2.length = i + 2 ∧ ∀ x ∈ p.2, x ∈ K
theorem SoF.put {K : List Int} {N : Int → List Int} {laid : List Int} {i : Nat} {E R : List Int} {a t : Int} {G : List (Int × List Int)} {w : List Int} (h : SoF K N laid i E R a G) (c : t ∉ laid) (c2 : t ∉ G.map (·.1)) (hw : w.length = i + 2 ∧ ∀ x ∈ w, x ∈ K) : SoF K N laid i E (R ++ [t]) a (G ++ [(t, w)]) :=
  ⟨by rw [List.map_append, List.nodup_append]; exact ⟨h.nd, by simp, fun x hx y hy => by rw [show y = t by simpa using hy]; exact fun z => c2 (by rw [← z]; exact hx)⟩, fun u => by
    rw [List.map_append, List.mem_append, h.mem u, List.mem_append, List.mem_singleton]
    have e : u ∈ [(t, w)].map (·.1) ↔ u = t := by simp
    rw [e]
    constructor
    · rintro ((z | ⟨z, y⟩) | rfl)
      · exact .inl z
      · exact .inr ⟨.inl z, y⟩
      · exact .inr ⟨.inr rfl, c⟩
    · rintro (z | ⟨z | rfl, y⟩)
      · exact .inl (.inl z)
      · exact .inl (.inr ⟨z, y⟩)
      · exact .inr rfl, fun p hp => by
    rcases List.mem_append.mp hp with hp | hp
    · exact h.way p hp
    · rw [List.mem_singleton.mp hp]; exact hw⟩
theorem SoF.next {K : List Int} {N : Int → List Int} {laid : List Int} {i : Nat} {E : List Int} {a b : Int} {G : List (Int × List Int)} (h : SoF K N laid i E (N a) a G) : SoF K N laid i (E ++ [a]) [] b G :=
  ⟨h.nd, (by
    intro t
    rw [h.mem t]
    constructor
    · rintro (⟨x, hx, z⟩ | z)
      · exact .inl ⟨x, List.mem_append_left _ hx, z⟩
      · exact .inl ⟨a, by simp, z⟩
    · rintro (⟨x, hx, z⟩ | ⟨z, _⟩)
      · rcases List.mem_append.mp hx with hx | hx
        · exact .inl ⟨x, hx, z⟩
        · rw [List.mem_singleton.mp hx] at z; exact .inr z
      · cases z), h.way⟩
theorem SoF.len {K : List Int} {N : Int → List Int} {laid : List Int} {i : Nat} {E R : List Int} {a : Int} {G : List (Int × List Int)} (h : SoF K N laid i E R a G) (hE : ∀ a ∈ E, ∀ b ∈ N a, b ∈ K) (hR : ∀ b ∈ R, b ∈ K) : G.length ≤ K.length := by
  have := sub_len2 (a := G.map (·.1)) (b := K) h.nd fun t ht => by
    rcases (h.mem t).mp ht with ⟨a, ha, h1, _⟩ | ⟨h1, _⟩
    · exact hE a ha t h1
    · exact hR t h1
  rwa [List.length_map] at this
theorem EndsN.next {K : List Int} {N : Int → List Int} {laid : List Int} {i : Nat} {F G : List (Int × List Int)} {a : Int} (h : EndsN K N laid i F) (g : SoF K N laid i (F.map (·.1)) [] a G) : EndsN K N laid (i + 1) G := by
  refine ⟨g.nd, fun b => ?_, g.way⟩
  rw [g.mem b]
  constructor
  · rintro (⟨c, hc, h1, h2⟩ | ⟨z, _⟩)
    · obtain ⟨a, ha, hw⟩ := (h.mem c).mp hc
      exact ⟨a, ha, c, hw, h1, h2⟩
    · cases z
  · rintro ⟨a, ha, c, hw, h1, h2⟩
    exact .inl ⟨c, (h.mem c).mpr ⟨a, ha, hw⟩, h1, h2⟩
end VL
set_option maxHeartbeats 4000000
namespace VL
open PySem PySem.Spec L2
open PyProof.Rows hiding St
/-- as mSeq, but vx stops ahead of it -/
def mHold (t u : VS) : VS := mSeq t u
theorem mHold_e {t u : VS} {E : VEnds} {ρ : Sl} {S : Store} : mHold t u E ρ S = mSeq t u E ρ S := rfl
section
variable {X : Cx}
theorem s_hold {st : Stmt} {rest : List Stmt} {t u : VS} (h1 : PS X st (LS X.K t)) (h2 : PSs X rest (LS X.K u)) : PSs X (st :: rest) (LS X.K (mHold t u)) := s_cons h1 h2
end
end VL
set_option maxHeartbeats 4000000
namespace VL
open PySem PySem.Spec L2
open PyProof.Rows hiding St
theorem sort2_in {a b x : Int} : x ∈ sort2 a b ↔ x = a ∨ x = b := by
  unfold sort2
  split
  · rename_i h; subst h; simp
  · split <;> simp [or_comm]
end VL
set_option maxHeartbeats 4000000
namespace VL
open PySem PySem.Spec L2
open PyProof.Rows hiding St
end VL
set_option maxHeartbeats 4000000
namespace VL
open PySem PySem.Spec L2
open PyProof.Rows hiding St
end VL
set_option maxHeartbeats 4000000
namespace VL
open PySem PySem.Spec L2
open PyProof.Rows hiding St
def homeR (pegs : List Int) (b : Int) (d : D) : Bool := match d with
  | .tup [.str s, .int n] => (decide (0 ≤ n) && decide (n ≤ 3)) && (if s = "peg" then decide (n ∈ pegs) else decide (s = "bin") && decide (n < b))
  | _ => false
def partR (c : Nat) (x : D) (ks : List Int) (b n many : Int) : Bool :=
  if c = 103 then homeR [0, 1, 2, 3] b x else if c = 104 then homeR (0 :: ks) b x else if c = 110 then isWhole x else if c = 97 then isWithin x 0 3 else if c = 107 then isWithin x 0 2 else if c = 116 then isWithin x 0 (n - 1) else isWithin x 0 (many - 1)
def codesR (w : Str) : List Nat := if w = "call" then [100] else ((lineTab.lookup w).getD []).map (·.1)
def partsR (ks : List Int) (b n many : Int) : List Nat → List D → Bool
  | c :: cs, d :: ds => partR c d ks b n many && partsR ks b n many cs ds
  | _, _ => true
def lineR (l : D) (at_ : Int) (ks : List Int) (b n many : Int) : Bool := match l with
  | .tup (.str w :: r) => (lineTab.lookup w).isSome && (decide (r.length = (codesR w).length) && ((decide (w = "go" ∨ w = "back") || !decide (at_ + 1 = n)) && partsR ks b n many (codesR w) r))
  | _ => false
theorem homeR_g {b : Int} {d : D} : homeR [0, 1, 2, 3] b d = (isHome d && binIn b d) := by
  unfold homeR
  split
  · rename_i s n
    simp only [isHome, binIn]
    by_cases hp : s = "peg"
    · subst hp
      rw [if_pos rfl]
      by_cases h : 0 ≤ n ∧ n ≤ 3
      · have m : n ∈ ([0, 1, 2, 3] : List Int) := by
          simp only [List.mem_cons, List.not_mem_nil, or_false]; omega
        rw [decide_eq_true m, decide_eq_true h.1, decide_eq_true h.2, show decide ((Str.ofString "peg") = "bin") = false by decide, show decide ((Str.ofString "peg") = "peg") = true by decide]; rfl
      · have : (decide (0 ≤ n) && decide (n ≤ 3)) = false := by
          rw [Bool.eq_false_iff]; intro z
          simp only [Bool.and_eq_true, decide_eq_true_eq] at z
          exact h z
        rw [this]; simp
    · rw [if_neg hp, decide_eq_false hp]
      by_cases hb : s = "bin"
      · rw [decide_eq_true hb]; simp [Bool.and_comm]
      · rw [decide_eq_false hb]; simp
  · rename_i h
    cases d with
    | tup ds =>
      have : isHome (.tup ds) = false := by
        unfold isHome
        split
        · rename_i s n e
          injection e with e
          subst e
          exact (h s n rfl).elim
        · rfl
      rw [this]; rfl
    | _ => rfl
theorem homeR_h {ks : List Int} {b : Int} {d : D} : homeR (0 :: ks) b d = (isHome d && (binIn b d && pegIn (ks.map D.int) d)) := by
  unfold homeR
  split
  · rename_i s n
    simp only [isHome, binIn, pegIn]
    rw [inF_is]
    by_cases hp : s = "peg"
    · subst hp
      rw [if_pos rfl, show decide ((Str.ofString "peg") = "bin") = false by decide, show decide ((Str.ofString "peg") = "peg") = true by decide]
      have : decide (n ∈ (0 :: ks)) = (decide (n = 0) || decide (n ∈ ks)) := by
        rw [Bool.eq_iff_iff]; simp
      rw [this]
      simp
    · rw [if_neg hp, decide_eq_false hp]
      by_cases hb : s = "bin"
      · rw [decide_eq_true hb]; simp [Bool.and_comm]
      · rw [decide_eq_false hb]; simp
  · rename_i h
    cases d with
    | tup ds =>
      have : isHome (.tup ds) = false := by
        unfold isHome
        split
        · rename_i s n e
          injection e with e
          subst e
          exact (h s n rfl).elim
        · rfl
      rw [this]; rfl
    | _ => rfl
theorem within_lt {d : D} {n : Int} : isWithin d 0 (n - 1) = (isFrom d && ltI n d) := by
  cases d <;> simp only [isWithin, isFrom, ltI, Bool.false_and]
  rw [Bool.eq_iff_iff]
  simp only [Bool.and_eq_true, decide_eq_true_eq]
  omega
theorem sort2_all {a b n : Int} : ((sort2 a b).map D.int).all (ltI n) = (ltI n (.int a) && ltI n (.int b)) := by
  rw [Bool.eq_iff_iff, List.all_map, List.all_eq_true, Bool.and_eq_true]
  constructor
  · intro h
    exact ⟨h a (sort2_in.mpr (.inl rfl)), h b (sort2_in.mpr (.inr rfl))⟩
  · rintro ⟨h1, h2⟩ x hx
    rcases sort2_in.mp hx with rfl | rfl
    · exact h1
    · exact h2
theorem not_last {i n : Int} (h : i < n) : (!decide (i + 1 = n)) = ltI n (.int (i + 1)) := by
  unfold ltI
  rw [Bool.eq_iff_iff]
  simp only [Bool.not_eq_true', decide_eq_false_iff_not, decide_eq_true_eq]
  omega
theorem strB {a b : String} (h : Str.ofString a ≠ Str.ofString b) : ((Str.ofString a) = Str.ofString b) = False := eq_false h
theorem pick_all {ks : List Int} {b n many : Int} : ∀ {es : List (Nat × Str)} {ds : List D}, es.all okPair = true → (∀ e ∈ es, e.2 ≠ "called") → ds.length = es.length →
    partsR ks b n many (es.map (·.1)) ds = (fitsAll es ds && ((pickL "read" es ds ++ pickL "written" es ds).all (binIn b) && ((pickL "written" es ds).all (pegIn (ks.map D.int)) && (pickL "goal" es ds).all (ltI n))))
  | [], [], _, _, _ => rfl
  | e :: es, d :: ds, ho, hn, hl => by
    rw [List.all_cons, Bool.and_eq_true] at ho
    have ih := pick_all (ks := ks) (b := b) (n := n) (many := many) (es := es) (ds := ds) ho.2 (fun x hx => hn x (List.mem_cons_of_mem _ hx)) (by simpa using hl)
    have m : e ∈ pairs := of_decide_eq_true ho.1
    have hc := hn e List.mem_cons_self
    rw [List.map_cons]
    unfold partsR
    rw [ih]
    simp only [pairs, List.mem_cons, List.not_mem_nil, or_false] at m
    simp only [List.all_append, fitsAll]
    generalize fitsAll es ds = F
    rcases m with rfl | rfl | rfl | rfl | rfl | rfl | rfl
    · simp only [pickL, strB (show Str.ofString "written" ≠ Str.ofString "read" by decide), strB (show Str.ofString "written" ≠ Str.ofString "goal" by decide), if_true, if_false, List.all_cons]
      rw [show partR 104 d ks b n many = homeR (0 :: ks) b d from rfl, homeR_h, show fitC 104 d = isHome d from rfl]
      cases isHome d <;> cases binIn b d <;> cases pegIn (ks.map D.int) d <;> simp
    · simp only [pickL, strB (show Str.ofString "read" ≠ Str.ofString "written" by decide), strB (show Str.ofString "read" ≠ Str.ofString "goal" by decide), if_true, if_false, List.all_cons]
      rw [show partR 103 d ks b n many = homeR [0, 1, 2, 3] b d from rfl, homeR_g, show fitC 103 d = isHome d from rfl]
      cases isHome d <;> cases binIn b d <;> simp
    · simp only [pickL, strB (show Str.ofString "number" ≠ Str.ofString "written" by decide), strB (show Str.ofString "number" ≠ Str.ofString "read" by decide), strB (show Str.ofString "number" ≠ Str.ofString "goal" by decide), if_false]
      rw [show partR 110 d ks b n many = isWhole d from rfl, show fitC 110 d = isWhole d from rfl]
      cases isWhole d <;> simp
    · simp only [pickL, strB (show Str.ofString "few" ≠ Str.ofString "written" by decide), strB (show Str.ofString "few" ≠ Str.ofString "read" by decide), strB (show Str.ofString "few" ≠ Str.ofString "goal" by decide), if_false]
      rw [show partR 97 d ks b n many = isWithin d 0 3 from rfl, show fitC 97 d = isWithin d 0 3 from rfl]
      cases isWithin d 0 3 <;> simp
    · simp only [pickL, strB (show Str.ofString "field" ≠ Str.ofString "written" by decide), strB (show Str.ofString "field" ≠ Str.ofString "read" by decide), strB (show Str.ofString "field" ≠ Str.ofString "goal" by decide), if_false]
      rw [show partR 107 d ks b n many = isWithin d 0 2 from rfl, show fitC 107 d = isWithin d 0 2 from rfl]
      cases isWithin d 0 2 <;> simp
    · simp only [pickL, strB (show Str.ofString "goal" ≠ Str.ofString "written" by decide), strB (show Str.ofString "goal" ≠ Str.ofString "read" by decide), if_true, if_false, List.all_cons]
      rw [show partR 116 d ks b n many = isWithin d 0 (n - 1) from rfl, within_lt, show fitC 116 d = isFrom d from rfl]
      cases isFrom d <;> cases ltI n d <;> simp
    · exact (hc rfl).elim
theorem no_called16 : ∀ e ∈ lineTab, e.1 ≠ "call" → ∀ p ∈ e.2, p.2 ≠ "called" := by decide +kernel
theorem goal_one16 {w : Str} {es : List (Nat × Str)} {r : List D} (he : lineTab.lookup w = some es) (hf : fitsAll es r = true) (hw : leadsW w) : ∃ t, pickL "goal" es r = [.int t] ∧ r.getLast? = some (.int t) ∧ (w = "go" → r = [.int t]) := by
  obtain ⟨q, t, g1, g2, g3, g4⟩ := goal_last he hf hw
  have hl := fits_len' hf
  rcases hw with rfl | rfl | rfl | rfl
  · obtain rfl : es = [(116, ("goal" : Str))] := Option.some.inj (he.symm.trans (by decide +kernel : lineTab.lookup (Str.ofString "go") = some [(116, ("goal" : Str))]))
    rw [g1, List.length_append, List.length_singleton, List.length_singleton] at hl
    have : q = [] := List.eq_nil_of_length_eq_zero (by omega)
    subst this
    subst g1
    exact ⟨t, rfl, rfl, fun _ => rfl⟩
  · obtain rfl : es = [(103, ("read" : Str)), (116, ("goal" : Str))] := Option.some.inj (he.symm.trans (by decide +kernel : lineTab.lookup (Str.ofString "if") = some [(103, ("read" : Str)), (116, ("goal" : Str))]))
    rw [g1, List.length_append, List.length_singleton] at hl
    obtain ⟨x, rfl⟩ : ∃ x, q = [x] := List.length_eq_one_iff.mp (by simp at hl; omega)
    subst g1
    exact ⟨t, by simp only [List.cons_append, List.nil_append, pickL, strB (show Str.ofString "read" ≠ Str.ofString "goal" by decide), if_true, if_false], rfl, fun z => absurd z (by decide)⟩
  · obtain rfl : es = [(103, ("read" : Str)), (116, ("goal" : Str))] := Option.some.inj (he.symm.trans (by decide +kernel : lineTab.lookup (Str.ofString "ifnone") = some [(103, ("read" : Str)), (116, ("goal" : Str))]))
    rw [g1, List.length_append, List.length_singleton] at hl
    obtain ⟨x, rfl⟩ : ∃ x, q = [x] := List.length_eq_one_iff.mp (by simp at hl; omega)
    subst g1
    exact ⟨t, by simp only [List.cons_append, List.nil_append, pickL, strB (show Str.ofString "read" ≠ Str.ofString "goal" by decide), if_true, if_false], rfl, fun z => absurd z (by decide)⟩
  · obtain rfl : es = [(103, ("read" : Str)), (103, ("read" : Str)), (116, ("goal" : Str))] := Option.some.inj (he.symm.trans (by decide +kernel : lineTab.lookup (Str.ofString "same") = some [(103, ("read" : Str)), (103, ("read" : Str)), (116, ("goal" : Str))]))
    rw [g1, List.length_append, List.length_singleton] at hl
    obtain ⟨x, y, rfl⟩ := len2 (ds := q) (by simp at hl; omega)
    subst g1
    exact ⟨t, by simp only [List.cons_append, List.nil_append, pickL, strB (show Str.ofString "read" ≠ Str.ofString "goal" by decide), if_true, if_false], rfl, fun z => absurd z (by decide)⟩
/-- whether a line stays within, told by its goals -/
theorem stay_is {w : Str} {es : List (Nat × Str)} {r : List D} {i n : Int} (he : lineTab.lookup w = some es) (hf : fitsAll es r = true) (hi : i < n) : stayB (.tup (.str w :: r)) i n = ((decide (w = "go" ∨ w = "back") || !decide (i + 1 = n)) && (pickL "goal" es r).all (ltI n)) := by
  have pw : partsW w r "goal" = pickL "goal" es r := by unfold partsW; rw [he]; rfl
  show (match nextN w r i with
      | some ns => (ns.map D.int ++ partsW w r "goal").all (ltI n)
      | none => false) = _
  rw [pw, not_last hi]
  by_cases hw : leadsW w
  · obtain ⟨t, g1, g2, g3⟩ := goal_one16 he hf hw
    rw [g1]
    rcases hw with rfl | hw
    · rw [g3 rfl]
      have : nextN (Str.ofString "go") [D.int t] i = some [t] := by unfold nextN; rw [if_neg (by decide), if_pos rfl]
      rw [show nextN "go" [D.int t] i = some [t] from this, decide_eq_true (show (Str.ofString "go") = "go" ∨ (Str.ofString "go") = "back" from .inl rfl)]
      simp
    · have nb : ¬ w = "back" := by rcases hw with rfl | rfl | rfl <;> decide
      have ng : ¬ w = "go" := by rcases hw with rfl | rfl | rfl <;> decide
      have : nextN w r i = some (sort2 (i + 1) t) := by unfold nextN; rw [if_neg nb, if_neg ng, if_pos hw, g2]
      rw [this]
      dsimp only
      rw [List.all_append, sort2_all, decide_eq_false (fun z => z.elim ng nb)]
      cases ltI n (.int (i + 1)) <;> cases e : ltI n (.int t) <;> simp [e]
  · have pn : pickL "goal" es r = [] := pickL_none fun e h => no_goal _ (look_mem he) hw e h
    rw [pn]
    have ng : ¬ w = "go" := fun z => hw (.inl z)
    have ni : ¬ (w = "if" ∨ w = "ifnone" ∨ w = "same") := fun z => hw (.inr z)
    by_cases nb : w = "back"
    · have : nextN w r i = some [] := by unfold nextN; rw [if_pos nb]
      rw [this, decide_eq_true (show w = "go" ∨ w = "back" from .inr nb)]; rfl
    · have : nextN w r i = some [i + 1] := by unfold nextN; rw [if_neg nb, if_neg ng, if_neg ni]
      rw [this, decide_eq_false (show ¬ (w = "go" ∨ w = "back") from fun z => z.elim ng nb)]
      simp
/-- the look, line by line -/
theorem lineR_is {l : D} {i : Int} {ks : List Int} {b n many : Int} (hi : i < n) : lineR l i ks b n many = ((lineD l && (stayB l i n && ownB l (ks.map D.int) b)) && calledB many l) := by
  unfold lineR
  split
  · rename_i w r
    cases he : lineTab.lookup w with
    | none =>
      have : lineD (.tup (.str w :: r)) = false := by simp only [lineD, he]
      rw [this]; rfl
    | some es =>
      have lD : lineD (.tup (.str w :: r)) = fitsAll es r := by simp only [lineD, he]
      rw [lD]
      have cl : (codesR w).length = es.length := by
        unfold codesR
        split
        · rename_i hc
          subst hc
          obtain rfl : es = [(116, ("called" : Str))] := Option.some.inj (he.symm.trans (by decide +kernel : lineTab.lookup (Str.ofString "call") = some [(116, ("called" : Str))]))
          rfl
        · rw [he, List.length_map]; rfl
      by_cases hl : r.length = es.length
      case neg =>
        have : fitsAll es r = false := by
          rw [Bool.eq_false_iff]; intro z; exact hl (fits_len' z)
        rw [this, cl, decide_eq_false hl]; rfl
      rw [cl, decide_eq_true hl]
      have mem := look_mem he
      have tok := table_ok _ mem
      by_cases hc : w = "call"
      · subst hc
        obtain rfl : es = [(116, ("called" : Str))] := Option.some.inj (he.symm.trans (by decide +kernel : lineTab.lookup (Str.ofString "call") = some [(116, ("called" : Str))]))
        obtain ⟨d, rfl⟩ : ∃ d, r = [d] := List.length_eq_one_iff.mp hl
        by_cases hf : fitsAll [(116, ("called" : Str))] [d] = true
        · have g0 : pickL "goal" [(116, ("called" : Str))] [d] = [] := by simp only [pickL, strB (show Str.ofString "called" ≠ Str.ofString "goal" by decide), if_false]
          have r0 : partsW "call" [d] "read" = [] := by unfold partsW; rw [he]; simp only [Option.getD_some, pickL, strB (show Str.ofString "called" ≠ Str.ofString "read" by decide), if_false]
          have w0 : partsW "call" [d] "written" = [] := by unfold partsW; rw [he]; simp only [Option.getD_some, pickL, strB (show Str.ofString "called" ≠ Str.ofString "written" by decide), if_false]
          have c0 : partsW "call" [d] "called" = [d] := by unfold partsW; rw [he]; simp only [Option.getD_some, pickL, if_true]
          have own : ownB (.tup [.str "call", d]) (ks.map D.int) b = true := by
            simp only [ownB, r0, w0, writesW, if_true]
            rfl
          have cb : calledB many (.tup [.str "call", d]) = ltI many d := by simp only [calledB, c0]; simp
          rw [stay_is he hf hi, g0, hf, own, cb]
          have f1 : isFrom d = true := by simpa [fitsAll, fitC] using hf
          have pr : partsR ks b n many (codesR "call") [d] = ltI many d := by
            show (partR 100 d ks b n many && true) = _
            rw [show partR 100 d ks b n many = isWithin d 0 (many - 1) from rfl, within_lt, f1]
            simp
          rw [pr]
          simp
        · have hf : fitsAll [(116, ("called" : Str))] [d] = false := by simpa using hf
          have f1 : isFrom d = false := by simpa [fitsAll, fitC] using hf
          have pr : partsR ks b n many (codesR "call") [d] = false := by
            show (partR 100 d ks b n many && true) = _
            rw [show partR 100 d ks b n many = isWithin d 0 (many - 1) from rfl, within_lt, f1]
            simp
          rw [pr, hf]
          simp
      · have nc := no_called16 _ mem hc
        have pa := pick_all (ks := ks) (b := b) (n := n) (many := many) tok.1 nc hl
        have cr : codesR w = es.map (·.1) := by unfold codesR; rw [if_neg hc, he]; rfl
        have gp : ∀ p, partsW w r p = pickL p es r := fun p => by unfold partsW; rw [he]; rfl
        have own : ownB (.tup (.str w :: r)) (ks.map D.int) b = ((pickL "read" es r ++ pickL "written" es r).all (binIn b) && (pickL "written" es r).all (pegIn (ks.map D.int))) := by
          simp only [ownB, gp, writesW, if_neg hc]
        have cb : calledB many (.tup (.str w :: r)) = true := by
          simp only [calledB, gp]
          rw [pickL_none nc]; rfl
        rw [cr, pa, own, cb]
        by_cases hf : fitsAll es r = true
        · rw [stay_is he hf hi, hf]
          generalize (decide (w = "go" ∨ w = "back") || !decide (i + 1 = n)) = A
          generalize ((pickL "read" es r ++ pickL "written" es r).all (binIn b)) = B1
          generalize ((pickL "written" es r).all (pegIn (ks.map D.int))) = B2
          generalize ((pickL "goal" es r).all (ltI n)) = B3
          cases A <;> cases B1 <;> cases B2 <;> cases B3 <;> rfl
        · rw [show fitsAll es r = false by simpa using hf]
          simp
  · rename_i h
    have : lineD l = false := by
      unfold lineD
      split
      · rename_i w r
        exact (h w r rfl).elim
      · rfl
    rw [this]; rfl
def linesR (ks : List Int) (b n many : Int) : Nat → List D → Bool
  | _, [] => true
  | i, l :: ls => lineR l i ks b n many && linesR ks b n many (i + 1) ls
theorem linesR_is {ks : List Int} {b n many : Int} : ∀ (ls : List D) (i : Nat), (i : Int) + ls.length = n → linesR ks b n many i ls = (ls.all lineD && (rightB (ks.map D.int) b n i ls && ls.all (calledB many)))
  | [], i, _ => rfl
  | l :: ls, i, h => by
    rw [List.length_cons] at h
    have ih := linesR_is (ks := ks) (b := b) (n := n) (many := many) ls (i + 1) (by omega)
    unfold linesR rightB
    rw [ih, lineR_is (by omega), List.all_cons, List.all_cons]
    generalize lineD l = A
    generalize (stayB l i n && ownB l (ks.map D.int) b) = B
    generalize calledB many l = C
    generalize ls.all lineD = A2
    generalize rightB (ks.map D.int) b n (i + 1) ls = B2
    generalize ls.all (calledB many) = C2
    cases A <;> cases B <;> cases C <;> cases A2 <;> cases B2 <;> cases C2 <;> rfl
theorem rise_is : ∀ l : List Int, riseB (l.map D.int) = decide (l.Pairwise (· < ·))
  | [] => by simp [riseB]
  | [a] => by simp [riseB]
  | a :: b :: l => by
    have ih := rise_is (b :: l)
    show (decide (a < b) && riseB ((b :: l).map D.int)) = _
    rw [ih, Bool.eq_iff_iff]
    simp only [Bool.and_eq_true, decide_eq_true_eq]
    constructor
    · rintro ⟨h1, h2⟩
      refine List.pairwise_cons.mpr ⟨fun c hc => ?_, h2⟩
      rcases List.mem_cons.mp hc with rfl | hc
      · exact h1
      · have := (List.pairwise_cons.mp h2).1 c hc
        omega
    · intro h
      obtain ⟨h1, h2⟩ := List.pairwise_cons.mp h
      exact ⟨h1 b List.mem_cons_self, h2⟩
/-- a peg that may be kept -/
def keepP (d : D) : Bool := isWithin d 0 3 && (match d with | .int i => decide (0 < i) | _ => false)
theorem keepP_is (d : D) : keepP d = isWithin d 1 3 := by
  cases d <;> simp only [keepP, isWithin, Bool.false_and]
  rw [Bool.eq_iff_iff]
  simp only [Bool.and_eq_true, decide_eq_true_eq]
  omega
theorem keepP_ints : ∀ {ds : List D}, ds.all keepP = true → ds = (intsOf ds).map D.int ∧ ∀ a ∈ intsOf ds, 1 ≤ a ∧ a ≤ 3
  | [], _ => ⟨rfl, fun _ h => nomatch h⟩
  | d :: ds, h => by
    rw [List.all_cons, Bool.and_eq_true] at h
    obtain ⟨i1, i2⟩ := keepP_ints h.2
    have h1 := h.1
    rw [keepP_is] at h1
    cases d with
    | int i =>
      have e : intsOf (.int i :: ds) = i :: intsOf ds := rfl
      rw [e, List.map_cons, ← i1]
      refine ⟨rfl, fun a ha => ?_⟩
      rcases List.mem_cons.mp ha with rfl | ha
      · simpa [isWithin] using h1
      · exact i2 a ha
    | _ => simp [isWithin] at h1
theorem keepsB_all {ds : List D} : keepsB (.tup ds) = (ds.all keepP && riseB ds) := by
  unfold keepsB
  rw [show (fun p => isWithin p 1 3) = keepP from funext fun d => (keepP_is d).symm]
theorem prog_is {ds : List D} : progB (.tup ds) = ((decide (1 ≤ ds.length) && decide (ds.length ≤ 6)) && ds.all fun d => defB d && callsB ds.length d) := by
  show ((decide (1 ≤ ds.length) && decide (ds.length ≤ 6)) && ds.all defB && ds.all (callsB ds.length)) = _
  have : ∀ (n : Int) (l : List D), (l.all fun d => defB d && callsB n d) = (l.all defB && l.all (callsB n)) := fun n l => by
    induction l with
    | nil => rfl
    | cons d l ih =>
      rw [List.all_cons, List.all_cons, List.all_cons, ih]
      cases defB d <;> cases callsB n d <;> cases l.all defB <;> cases l.all (callsB n) <;> rfl
  rw [this, Bool.and_assoc]
section
variable {X : Cx}
def b2n (b : Bool) : Int := if b = true then 1 else 0
def rIB (f : Int → Int → Int) : R2 := fun x y H Q => (∃ a b, x = .int a ∧ y = .int b ∧ Q (.int (f a b)) H) ∨ (∃ a b, x = .bl a ∧ y = .int b ∧ Q (.int (f (b2n a) b)) H) ∨ ∃ a b, x = .int a ∧ y = .bl b ∧ Q (.int (f a (b2n b))) H
theorem op_addB : OpR X (binaryOp .Add) (rIB (· + ·)) := by
  intro pins s σ H x y v u Q I rx ry h
  rcases h with ⟨a, b, rfl, rfl, q⟩ | ⟨a, b, rfl, rfl, q⟩ | ⟨a, b, rfl, rfl, q⟩
  · obtain ⟨t, rfl⟩ := rx
    obtain ⟨t2, rfl⟩ := ry
    exact add_int ⟨.int _, H, I.tok _, ⟨_, rfl⟩, q⟩
  · obtain rfl : v = Value.bool a := rx
    obtain ⟨t2, rfl⟩ := ry
    exact PySem.IntBool.add_bool_int ⟨.int _, H, I.tok _, ⟨_, rfl⟩, q⟩
  · obtain ⟨t, rfl⟩ := rx
    obtain rfl : u = Value.bool b := ry
    exact PySem.add_int_bool ⟨.int _, H, I.tok _, ⟨_, rfl⟩, q⟩
theorem op_subB : OpR X (binaryOp .Sub) (rIB (· - ·)) := by
  intro pins s σ H x y v u Q I rx ry h
  rcases h with ⟨a, b, rfl, rfl, q⟩ | ⟨a, b, rfl, rfl, q⟩ | ⟨a, b, rfl, rfl, q⟩
  · obtain ⟨t, rfl⟩ := rx
    obtain ⟨t2, rfl⟩ := ry
    exact sub_int ⟨.int _, H, I.tok _, ⟨_, rfl⟩, q⟩
  · obtain rfl : v = Value.bool a := rx
    obtain ⟨t2, rfl⟩ := ry
    exact PySem.IntBool.sub_bool_int ⟨.int _, H, I.tok _, ⟨_, rfl⟩, q⟩
  · obtain ⟨t, rfl⟩ := rx
    obtain rfl : u = Value.bool b := ry
    exact PySem.IntBool.sub_int_bool ⟨.int _, H, I.tok _, ⟨_, rfl⟩, q⟩
def mIB (f : Int → Int → Int) : R2V := fun x y S Q => match x, y with
  | .int a, .int b => Q (.int (f a b)) S
  | .bl a, .int b => Q (.int (f (b2n a) b)) S
  | .int a, .bl b => Q (.int (f a (b2n b))) S
  | _, _ => False
theorem mIB_ii {f : Int → Int → Int} {a b : Int} {S : Store} {Q : D → Store → Prop} : mIB f (.int a) (.int b) S Q = Q (.int (f a b)) S := rfl
theorem mIB_bi {f : Int → Int → Int} {a : Bool} {b : Int} {S : Store} {Q : D → Store → Prop} : mIB f (.bl a) (.int b) S Q = Q (.int (f (b2n a) b)) S := rfl
theorem mIB_ib {f : Int → Int → Int} {a : Int} {b : Bool} {S : Store} {Q : D → Store → Prop} : mIB f (.int a) (.bl b) S Q = Q (.int (f a (b2n b))) S := rfl
theorem lr_IB (K : PySem.W.Frag) (f : Int → Int → Int) : LR2 K (rIB f) (mIB f) := by
  intro x y v1 v2 G S H Q Q' vw r1 r2 h k
  unfold mIB at h
  split at h
  · cases r1; cases r2
    exact .inl ⟨_, _, rfl, rfl, k _ S _ H G (Aft.refl vw) (.int _) h⟩
  · cases r1; cases r2
    exact .inr (.inl ⟨_, _, rfl, rfl, k _ S _ H G (Aft.refl vw) (.int _) h⟩)
  · cases r1; cases r2
    exact .inr (.inr ⟨_, _, rfl, rfl, k _ S _ H G (Aft.refl vw) (.int _) h⟩)
  · exact h.elim
theorem ov_addB : OpV X (binaryOp .Add) (mIB (· + ·)) := ⟨_, op_addB, lr_IB _ _⟩
theorem ov_subB : OpV X (binaryOp .Sub) (mIB (· - ·)) := ⟨_, op_subB, lr_IB _ _⟩
end
theorem setR_few {w : World} {h : Heap} {a : Addr} {S : Int → Bool} {n : Nat} (R : SetR w h a S n) {ms : List Int} (hm : ∀ k, S k = true → k ∈ ms) : n ≤ ms.length := by
  obtain ⟨o, es, ep, t, ho, hx, hd, g, nd, mem, hb, hf, hn, _⟩ := R
  have := sub_len2 nd fun k hk => hm k ((mem k).mpr hk)
  rw [List.length_map, Array.length_toList] at this
  omega
section
variable {X : Cx}
def rSetU (K : PySem.W.Frag) (w : World) : List V → Hp → VK → Prop := fun vs H Q => ∃ (a : Addr) (ns ms : List Int), vs = [V.ref a] ∧ SqT K H a (ns.map V.int) ∧ ns.length < 1000 ∧ (∀ k ∈ ns, k ∈ ms) ∧
  ∀ p c, H p = none → c ≤ ms.length → Q (.ref p) (upd H p (SetO w p (fun j => decide (j ∈ ns)) c))
theorem cr_setU (hc : X.calm = true) : CallR X (.type "set") (rSetU X.K X.w) := by
  intro pins s σ H vs us Q I r h
  obtain ⟨a, ns, ms, rfl, hs, hz, hm, q⟩ := h
  obtain ⟨its, rv, ht, _⟩ := I.tuple hs
  rw [Vals.ref1 r]
  refine call_set_tupI ns (I.ok.hd hc) ht (by simpa using ints_of_vals rv) (by unfold scanBound; omega) fun h' tk c R hcn k => ?_
  exact ⟨.ref _, _, I.laid (t' := tk) k (Nat.le_refl _) (setO_new R), rfl, q _ c (I.hok.fresh (Nat.le_refl _)) (setR_few R fun k hk => hm k (of_decide_eq_true hk))⟩
def mSortSU (R : List D → Store → (D → Store → Prop) → Prop) (m : VE) : VE := fun ρ S Q => m ρ S fun d S1 => match d with
  | .tup ds => ∃ ns ms : List Int, ds = ns.map D.int ∧ ns.length < 1000 ∧ (∀ k ∈ ns, k ∈ ms) ∧ ms.length < 64 ∧ ∀ ys : List Int, ys.Pairwise (· < ·) → (∀ k, k ∈ ys ↔ k ∈ ns) → R (ys.map D.int) S1 Q
  | _ => False
theorem mSortSU_e {R : List D → Store → (D → Store → Prop) → Prop} {m : VE} {ρ : Sl} {S : Store} {Q : D → Store → Prop} : mSortSU R m ρ S Q = m ρ S fun d S1 => match d with
  | .tup ds => ∃ ns ms : List Int, ds = ns.map D.int ∧ ns.length < 1000 ∧ (∀ k ∈ ns, k ∈ ms) ∧ ms.length < 64 ∧ ∀ ys : List Int, ys.Pairwise (· < ·) → (∀ k, k ∈ ys ↔ k ∈ ns) → R (ys.map D.int) S1 Q
  | _ => False := rfl
theorem v_sortSU {R : List D → Store → (D → Store → Prop) → Prop} {e : Expr} {m : VE} {p1 p2 pos pos2 : Pos} (hR : RecR R) (hc : X.calm = true) (hgl : Gl X "sorted") (hmg : X.mg "sorted" = none) (hgs : Gl X "set") (hms : X.mg "set" = none) (he : PE X e (LE X.K m))
    (h1 : starEach [e] X.env = (false, eval e X.env) :: starEach [] X.env := by rfl)
    (h2 : starEach [.Call (.Name "set" p2) [e] [] pos2] X.env = (false, eval (.Call (.Name "set" p2) [e] [] pos2) X.env) :: starEach [] X.env := by rfl) :
    PE X (.Call (.Name "sorted" p1) [.Call (.Name "set" p2) [e] [] pos2] [] pos) (LE X.K (mSortSU R m)) := by
  refine PE.imp (pe_callB (cr_sortedSet hc) hgl hmg (by decide +kernel) (pa_cons (pe_callTy (cr_setU hc) hgs hms (by decide +kernel) (pa_cons he pa_nil h1) (by decide) (by decide) h1) pa_nil h2) (by decide) (by decide) h2) fun σ H Q' ⟨ρ, S, G, Q, vw, re, hm, k⟩ => ?_
  refine ⟨ρ, S, G, _, vw, re, hm, fun d S1 v H1 G1 a1 rv q => ?_⟩
  split at q
  · rename_i ds
    obtain ⟨ns, ms, rfl, h1000, hmm, h64, q⟩ := q
    cases rv with
    | @tup a xs _ hs rl =>
      obtain rfl := ints_back rl
      refine ⟨a, ns, ms, rfl, same_t a1.vw.gh hs, by omega, hmm, fun p c hp hcn => ?_⟩
      have n0 := a1.vw.none hp
      have aj := (Aft.refl a1.vw).junk (u := SetO X.w p (fun j => decide (j ∈ ns)) c) hp n0.2 n0.1
      refine ⟨p, _, c, rfl, upd_same, by omega, fun ys p' pw mem hl hp' => ?_⟩
      obtain ⟨S2, G2, d, qd, a2, rd⟩ := made_of hR aj.vw hp' (rints _ ys) (q ys pw fun k => by rw [mem k, decide_eq_true_eq])
      exact k d S2 _ _ _ (a1.trans (aj.trans a2)) rd qd
  · exact q.elim
end
end VL
set_option maxHeartbeats 4000000
namespace VL
open PySem PySem.Spec L2
open PyProof.Rows hiding St
/-- numbers to forty figures -/
def tiny (d : D) : Prop := okN 10000000000000000000000000000000000000000 24 d = true
theorem tiny_int {i : Int} (h0 : -10000000000000000000000000000000000000000 ≤ i) (h1 : i ≤ 10000000000000000000000000000000000000000) : tiny (.int i) := decide_eq_true (by omega)
theorem tiny_home {d : D} (h : isHome d = true) : tiny d := by
  cases d with
  | tup ds =>
    unfold isHome at h
    split at h
    · rename_i s k e
      injection e with e
      subst e
      simp only [Bool.and_eq_true, Bool.or_eq_true, decide_eq_true_eq] at h
      obtain ⟨hs, h0, h1⟩ := h
      refine okN_tup.mpr ⟨by simp, fun d hd => ?_⟩
      simp only [List.mem_cons, List.not_mem_nil, or_false] at hd
      rcases hd with rfl | rfl
      · rcases hs with rfl | rfl <;> decide +kernel
      · exact tiny_int (by omega) (by omega)
    · cases h
  | _ => simp [isHome] at h
theorem tiny_tup {ds : List D} (hl : ds.length ≤ 24) (h : ∀ d ∈ ds, tiny d) : tiny (.tup ds) := okN_tup.mpr ⟨hl, h⟩
theorem tiny_str {s : Str} (h : PyData.strOk s = true) (hl : s.length ≤ 24) : tiny (.str s) := by
  unfold tiny
  rw [okN, h, decide_eq_true hl]; rfl
theorem tiny_words : ∀ w ∈ lineTab.map (·.1), tiny (.str w) := by
  intro w hw
  have : ∀ w ∈ lineTab.map (·.1), PyData.strOk w = true ∧ w.length ≤ 24 := by decide +kernel
  obtain ⟨a, b⟩ := this w hw
  exact tiny_str a b
theorem bent_str {n L : Nat} {s : Str} (h : PyData.strOk s = true) (hl : s.length ≤ L) : Bent n L (10 * s.length + 2) 0 (.str s) := ⟨by rw [okN, h, decide_eq_true hl]; rfl, Nat.le_refl _, Nat.le_refl _⟩
theorem cut1_ok {s : Str} (h : PyData.strOk s = true) : PyData.strOk (cutS s (some 1) none) = true ∧ (cutS s (some 1) none).length ≤ s.length := by
  have e := cutS_tail s
  refine ⟨strOk_list.mpr fun c hc => ?_, ?_⟩
  · rw [e] at hc
    exact strOk_list.mp h c (List.mem_of_mem_drop hc)
  · have l : ∀ t : Str, t.length = (TL.tl t).length := fun t => by simp [TL.tl, Str.length]
    rw [l, l, e, List.length_drop]; omega
theorem bent_bl {n L : Nat} {b : Bool} : Bent n L 5 0 (.bl b) := ⟨rfl, Nat.le_refl _, Nat.le_refl _⟩
theorem bent_non {n L : Nat} : Bent n L 4 0 .non := ⟨rfl, Nat.le_refl _, Nat.le_refl _⟩
theorem mFor_draw {c : CT} {mi : VW} {mb : VS} {E : VEnds} {ρ : Sl} {S : Store} (h : mi ρ S fun ds kp S1 => mFor c (fun _ _ Qi => Qi ds kp S1) mb E ρ S) : mFor c mi mb E ρ S := h
end VL
namespace Lw
open PySem L2 VL
open PyProof.Rows hiding St
set_option maxHeartbeats 4000000
def top (i : Nat) : Stmt := PySem.Challenge.pw_livepoints_k16_whole_programs_spoilt_any.main.body.getD i (.Pass ⟨0, 0, 0, 0⟩)
local macro_rules | `(tactic| walk_at "VX") => `(tactic| simp -implicitDefEqProofs only [↓mSortSU_e, mIB_ii, mIB_bi, mIB_ib, ↓mNeT0_e, gone_nx, gone_rt, gone_bk, gone_ct, cx_w, ↓mRev_e, rdL_lst, List.append_eq, ↓bSet_e, ↓mMulA_i, ↓mMulA_t, ↓mMulA_l, ↓mComp_e, ↓bNest_e, ↓bList_e, ↓mEnu_e, ↓mJoin_e, rdW_tup, rdW_lst, rdW_str, mEqT0_e, ↓mKSub_e, ↓mKIn_e, ↓mSlc_e, ↓mNoP_e, ↓mPart_e, ↓mZip_e, ↓mStar_e, tyn_supd, ↓mDictS_e, ↓mVals_n, ↓mVals_c, keyD_int, keyD_str, ↓mDSub_e, ↓mDGet_e, ↓mDIn_e, ↓mSgn_e, ↓mSort2_e, rdD_dct, ↓rFrz_e, mCT_1, mCT_m, setAll_c, setAll_n, wipeD_n, wipeD_c, ↓mVar_e, ↓mC_e, ↓mOp_e, ↓mNum_e, ↓mInt0_e, ↓mAdd_e, ↓mMul_e, ↓mEq_e, ↓mNe_e, ↓mEqS_e, ↓mIsB_e, ↓mIx_e, ↓mNil_e, ↓mCons_e, ↓mTup_e, ↓mLst_e, ↓mLstM_e, ↓mTest_e, ↓mNot_e, ↓mAnd_e, ↓mOr_e, ↓mAndV_e, ↓mOrV_e, ↓mNotV_e, ↓mIfE_e, ↓mChain_e, ↓mCB_e, ↓mLen_e, ↓mInt1_e, ↓mInt2_e, ↓mBls_e, ↓mTupOf_e, ↓mLstOf_e, ↓mIsi_e, ↓mCall_e, ↓mNx_e, ↓mSeq_e, ↓mRet_e, ↓mIf_e, ↓mAsg_e, ↓mSet_e, ↓mUnp_e, ↓gSetIx_e, ↓mSq_e, ↓mRng1_e, ↓mYes_e, ↓mIn_e, ↓mNeg_e, ↓mReprW_e, ↓on_nx, ↓on_rt, ↓on_bk, ↓on_ct, ↓lo_nx, ↓lo_rt, ↓lo_bk, ↓lo_ct, ↓reduceIte, Nat.reduceMul, sizeT, Nat.reduceLeDiff, mergeD, List.foldl_cons, List.foldl_nil, putD, keysD, keyD, List.any_nil, gv, startD, List.map_cons, List.map_nil, List.length_cons, List.length_nil, List.cons_append, List.nil_append, List.replicate_succ, List.replicate_zero, Nat.reduceAdd, Nat.reduceSub, List.set_cons_zero, List.set_cons_succ, if_true, if_false, Bool.false_eq_true, atI_0, atI_1, atI_2, atI_3, atI_4, and_true, true_and, ne_eq, not_true_eq_false, not_false_eq_true, isT, String.reduceEq, decide_true, decide_false, Bool.or_false, Bool.false_or, Bool.true_or, Bool.or_true, Bool.and_false, Bool.false_and, Bool.and_true, Bool.true_and, Bool.not_true, Bool.not_false, tyn_non, tyn_bl, tyn_int, tyn_str, tyn_tup, tyn_lst, tyn_ro, tyn_dct, noRef_non, noRef_bl, noRef_int, noRef_str, noRef_tup, noRef_lst, noRef_dct, isS_non, isS_bl, isS_int, isS_str, isS_tup, isS_lst, isS_ro, isS_dct, noRef_ro, ixN20, ixN21, rdS_supd, rdL_supd, rdR_supd, supd_same, supd_supd, cast0, cast1, cast2, cast3, cast4, cast5, rdL_lst, rdL_tup, rdL_int, rdR_lst, rdR_ro, rdS_tup, rdS_lst, rdS_ro, okq_non, okq_bl, okq_int, okq_str, eqq_int, eqq_bl, eqq_str, Int.reduceEq, Int.reduceLT, Int.reduceLE, Int.reduceAdd, Int.reduceSub, Int.reduceMul, Int.reduceNeg, Int.reducePow, Int.reduceToNat, Int.reduceMod])
local macro_rules | `(tactic| simp?! only [$ls,*]) => `(tactic| simp -implicitDefEqProofs only [↓mSortSU_e, mIB_ii, mIB_bi, mIB_ib, ↓mNeT0_e, gone_nx, gone_rt, gone_bk, gone_ct, cx_w, ↓mRev_e, rdL_lst, List.append_eq, ↓bSet_e, ↓mMulA_i, ↓mMulA_t, ↓mMulA_l, ↓mComp_e, ↓bNest_e, ↓bList_e, ↓mEnu_e, ↓mJoin_e, rdW_tup, rdW_lst, rdW_str, mEqT0_e, ↓mKSub_e, ↓mKIn_e, ↓mSlc_e, ↓mNoP_e, ↓mPart_e, ↓mZip_e, ↓mStar_e, tyn_supd, ↓mDictS_e, ↓mVals_n, ↓mVals_c, keyD_int, keyD_str, ↓mDSub_e, ↓mDGet_e, ↓mDIn_e, ↓mSgn_e, ↓mSort2_e, rdD_dct, ↓rFrz_e, mCT_1, mCT_m, setAll_c, setAll_n, wipeD_n, wipeD_c, ↓mVar_e, ↓mC_e, ↓mOp_e, ↓mNum_e, ↓mInt0_e, ↓mAdd_e, ↓mMul_e, ↓mEq_e, ↓mNe_e, ↓mEqS_e, ↓mIsB_e, ↓mIx_e, ↓mNil_e, ↓mCons_e, ↓mTup_e, ↓mLst_e, ↓mLstM_e, ↓mTest_e, ↓mNot_e, ↓mAnd_e, ↓mOr_e, ↓mAndV_e, ↓mOrV_e, ↓mNotV_e, ↓mIfE_e, ↓mChain_e, ↓mCB_e, ↓mLen_e, ↓mInt1_e, ↓mInt2_e, ↓mBls_e, ↓mTupOf_e, ↓mLstOf_e, ↓mIsi_e, ↓mCall_e, ↓mNx_e, ↓mSeq_e, ↓mRet_e, ↓mIf_e, ↓mAsg_e, ↓mSet_e, ↓mUnp_e, ↓gSetIx_e, ↓mSq_e, ↓mRng1_e, ↓mYes_e, ↓mIn_e, ↓mNeg_e, ↓mReprW_e, ↓on_nx, ↓on_rt, ↓on_bk, ↓on_ct, ↓lo_nx, ↓lo_rt, ↓lo_bk, ↓lo_ct, ↓reduceIte, Nat.reduceMul, sizeT, Nat.reduceLeDiff, mergeD, List.foldl_cons, List.foldl_nil, putD, keysD, keyD, List.any_nil, gv, startD, List.map_cons, List.map_nil, List.length_cons, List.length_nil, List.cons_append, List.nil_append, List.replicate_succ, List.replicate_zero, Nat.reduceAdd, Nat.reduceSub, List.set_cons_zero, List.set_cons_succ, if_true, if_false, Bool.false_eq_true, atI_0, atI_1, atI_2, atI_3, atI_4, and_true, true_and, ne_eq, not_true_eq_false, not_false_eq_true, isT, String.reduceEq, decide_true, decide_false, Bool.or_false, Bool.false_or, Bool.true_or, Bool.or_true, Bool.and_false, Bool.false_and, Bool.and_true, Bool.true_and, Bool.not_true, Bool.not_false, tyn_non, tyn_bl, tyn_int, tyn_str, tyn_tup, tyn_lst, tyn_ro, tyn_dct, noRef_non, noRef_bl, noRef_int, noRef_str, noRef_tup, noRef_lst, noRef_dct, isS_non, isS_bl, isS_int, isS_str, isS_tup, isS_lst, isS_ro, isS_dct, noRef_ro, ixN20, ixN21, rdS_supd, rdL_supd, rdR_supd, supd_same, supd_supd, cast0, cast1, cast2, cast3, cast4, cast5, rdL_lst, rdL_tup, rdL_int, rdR_lst, rdR_ro, rdS_tup, rdS_lst, rdS_ro, okq_non, okq_bl, okq_int, okq_str, eqq_int, eqq_bl, eqq_str, Int.reduceEq, Int.reduceLT, Int.reduceLE, Int.reduceAdd, Int.reduceSub, Int.reduceMul, Int.reduceNeg, Int.reducePow, Int.reduceToNat, Int.reduceMod, $ls,*])
local macro_rules | `(tactic| simp_all?! only [$ls,*]) => `(tactic| simp only [List.all_cons, List.all_nil, smb, sml, smlL, smlK, smlKey, VL.cnt, cntL, cntK, cntKey, dep, depL, depK, Nat.reduceAdd, Nat.reduceLeDiff, decide_true, Bool.and_true, Bool.true_and, $ls,*])
local macro_rules | `(tactic| walk_at "SM") => `(tactic| simp only [List.all_cons, List.all_nil, smb, sml, smlL, smlK, smlKey, VL.cnt, cntL, cntK, cntKey, dep, depL, depK, Nat.reduceAdd, Nat.reduceLeDiff, decide_true, Bool.and_true, Bool.true_and])
/-- what the top has left -/
structure Tx (K : PySem.W.Frag) (w : World) (mg : Str → Option Value) : Prop where
  f_law_pot : Has K mg "_law_pot" (top 35)
  f_law_take : Has K mg "_law_take" (top 36)
  f_law_one : Has K mg "_law_one" (top 37)
  f_law_words : Has K mg "_law_words" (top 39)
  f_law_home : Has K mg "_law_home" (top 40)
  f_law_part : Has K mg "_law_part" (top 41)
  f_law_shape : Has K mg "_law_shape" (top 38)
  f_law_line : Has K mg "_law_line" (top 42)
  f_law_def : Has K mg "_law_def" (top 43)
  f_law_program : Has K mg "_law_program" (top 44)
  f_law_odd_tuple : Has K mg "_law_odd_tuple" (top 47)
  f_law_odd_text : Has K mg "_law_odd_text" (top 46)
  f_law_odd_number : Has K mg "_law_odd_number" (top 45)
  f_law_otherwise : Has K mg "_law_otherwise" (top 48)
  f_law_signs_right : Has K mg "_law_signs_right" (top 53)
  f_law_within : Has K mg "_law_within" (top 49)
  f_law_keeps_right : Has K mg "_law_keeps_right" (top 54)
  f_law_home_right : Has K mg "_law_home_right" (top 50)
  f_law_part_right : Has K mg "_law_part_right" (top 51)
  f_law_line_right : Has K mg "_law_line_right" (top 52)
  f_law_def_right : Has K mg "_law_def_right" (top 55)
  f_law_due : Has K mg "_law_due" (top 56)
  f_parts_of : Has K mg "parts_of" (top 20)
  f_are_signs : Has K mg "are_signs" (top 27)
  f_is_whole : Has K mg "is_whole" (top 3)
  f_is_within : Has K mg "is_within" (top 4)
  f_are_keeps : Has K mg "are_keeps" (top 28)
  f_is_home : Has K mg "is_home" (top 5)
  f_is_part : Has K mg "is_part" (top 18)
  f_is_line : Has K mg "is_line" (top 19)
  f_are_lines : Has K mg "are_lines" (top 29)
  f_next_lines : Has K mg "next_lines" (top 22)
  f_stays_within : Has K mg "stays_within" (top 30)
  f_writes : Has K mg "writes" (top 21)
  f_has_own_homes : Has K mg "has_own_homes" (top 31)
  f_is_def : Has K mg "is_def" (top 32)
  f_is_program : Has K mg "is_program" (top 33)
  f_law : Has K mg "law" (top 57)
  b_abs : mg "abs" = none
  b_all : mg "all" = none
  b_bool : mg "bool" = none
  b_enumerate : mg "enumerate" = none
  b_int : mg "int" = none
  b_isinstance : mg "isinstance" = none
  b_len : mg "len" = none
  b_list : mg "list" = none
  b_max : mg "max" = none
  b_min : mg "min" = none
  b_range : mg "range" = none
  b_repr : mg "repr" = none
  b_set : mg "set" = none
  b_sorted : mg "sorted" = none
  b_str : mg "str" = none
  b_tuple : mg "tuple" = none
  b_zip : mg "zip" = none
  c_BINS : ∃ t, mg "BINS" = some (.int 4 t)
  c_CALLED : ∃ t, mg "CALLED" = some (.str "called" t)
  c_CHOOSING : ∃ a, mg "CHOOSING" = some (.ref a) ∧ ∀ G, Rp K G (.ref a) (.tup [(.str "if"), (.str "ifnone"), (.str "same")])
  c_FEW : ∃ t, mg "FEW" = some (.str "few" t)
  c_FIELD : ∃ t, mg "FIELD" = some (.str "field" t)
  c_GOAL : ∃ t, mg "GOAL" = some (.str "goal" t)
  c_LAST_FIELD : ∃ t, mg "LAST_FIELD" = some (.int 2 t)
  c_MOST_DEFS : ∃ t, mg "MOST_DEFS" = some (.int 6 t)
  c_MOST_LINES : ∃ t, mg "MOST_LINES" = some (.int 24 t)
  c_MOST_OF_A_BOX : ∃ t, mg "MOST_OF_A_BOX" = some (.int 3 t)
  c_NUMBER : ∃ t, mg "NUMBER" = some (.str "number" t)
  c_PARTS : KD K w mg "PARTS" [("put", (.tup [(.str "written"), (.str "number")])), ("none", (.tup [(.str "written")])), ("copy", (.tup [(.str "written"), (.str "read")])), ("add", (.tup [(.str "written"), (.str "read"), (.str "read")])), ("less", (.tup [(.str "written"), (.str "read"), (.str "read")])), ("new", (.tup [(.str "written"), (.str "few"), (.str "few")])), ("getn", (.tup [(.str "written"), (.str "read"), (.str "field")])), ("setn", (.tup [(.str "read"), (.str "field"), (.str "read")])), ("getb", (.tup [(.str "written"), (.str "read"), (.str "field")])), ("setb", (.tup [(.str "read"), (.str "field"), (.str "read")])), ("tell", (.tup [(.str "read")])), ("go", (.tup [(.str "goal")])), ("if", (.tup [(.str "read"), (.str "goal")])), ("ifnone", (.tup [(.str "read"), (.str "goal")])), ("same", (.tup [(.str "read"), (.str "read"), (.str "goal")])), ("call", (.tup [(.str "called")])), ("back", (.tup [])), ("rest", (.tup []))]
  c_PEGS : ∃ t, mg "PEGS" = some (.int 4 t)
  c_READ : ∃ t, mg "READ" = some (.str "read" t)
  c_SIGNS : ∃ t, mg "SIGNS" = some (.str "nb-" t)
  c_WRITTEN : ∃ t, mg "WRITTEN" = some (.str "written" t)
section
variable {P : Program} {w : World} {K : PySem.W.Frag} {mg : Str → Option Value} {base : Heap}
abbrev s_law_pot : Stmt := top 35
abbrev n_law_pot : List Str := ["_law_script", "_law_k", "_law_cell"]
theorem sc_law_pot : FnScope n_law_pot ["_law_script", "_law_k"] (defScope s_law_pot) := ⟨rfl, rfl, rfl, by decide +kernel, rfl, by decide +kernel, by decide +kernel⟩
def sp_law_pot : VSp := fun ds S Q => match ds with
  | [.ro ds, .int k] => (∃ ns : List Int, ds = ns.map D.int) ∧ 0 ≤ k ∧ k < 64 ∧ ∀ (p : Addr) (S' : Store), S p = none → Pot S' p → But p S S' → Q (.ref p) S'
  | _ => False
theorem ok_law_pot (T : Tx K w mg) : DefV P w K mg base 1 "_law_pot" ["_law_script", "_law_k"] sp_law_pot := by
  refine DefV.mk' T.f_law_pot sc_law_pot (fun _ _ _ _ _ _ us hl => match us, hl with | [_, _], _ => rfl) (fun f cdv A outer s H E hgd hr hcd => ⟨_, (s_cons (s_set 2 sc_law_pot.nd rfl (by first | exact Or.inl rfl | exact Or.inr rfl) (v_if (t_cmp ov_lt (v_var 1) (v_callB cv_len rfl T.b_len (by decide +kernel) (a_cons (v_var 0) a_nil))) (v_callB cv_abs rfl T.b_abs (by decide +kernel) (a_cons (v_sub (v_var 0) (v_var 1)) a_nil)) v_int))
      (s_one (s_ret (v_lstM (a_cons (v_callB (cv_max2 rfl) rfl T.b_max (by decide +kernel) (a_cons v_int (a_cons (v_op ov_sub (v_var 2) (v_op ov_pow v_int v_int)) a_nil))) (a_cons (v_op ov_mod (v_op ov_add (v_op ov_add (v_op ov_add (v_op ov_mulL (v_op ov_mod (v_var 2) v_int) v_int) (v_op ov_mulL (v_op ov_mulL v_int (v_var 1)) (v_var 1))) (v_op ov_mulL v_int (v_var 1))) v_int) v_int) a_nil)))))), ?_⟩)
  intro ds S Q hl h
  unfold sp_law_pot at h
  split at h
  · rename_i ds k
    obtain ⟨⟨ns, rfl⟩, h0, h1, kk⟩ := h
    walk_at "VX"
    have main : ∀ i : Int, 0 ≤ i → CPow 10 18 ∧ CMul (i % 2147483629) 48271 ∧ CMul 7919 k ∧ CMul (7919 * k) k ∧ CMul 613 k ∧ ∀ a, S a = none → VL.Fin Q (D.ref a) (supd S a (SO.lst [D.int (if i - 1000000000000000000 > 0 then i - 1000000000000000000 else 0), D.int ((i % 2147483629 * 48271 + 7919 * k * k + 613 * k + 29) % 2147483629)])) := by
      intro i hi
      refine ⟨cpow10 (by decide) (by decide), cmul_r (by decide) (by decide), cmul_l (by decide) (by decide), cmul_r (by omega) (by omega), cmul_l (by decide) (by decide), fun a ha => fin_same (kk a _ ha (Pot.mk' (by split <;> omega) (Int.emod_nonneg _ (by decide)) ?_) But.supd)⟩
      have := Int.emod_lt_of_pos (i % 2147483629 * 48271 + 7919 * k * k + 613 * k + 29) (show (0 : Int) < 2147483629 by decide)
      omega
    by_cases hk : k < (ns.length : Int)
    · obtain ⟨n, en⟩ := atI_ints h0 hk
      rw [if_pos (by simpa using hk), en]
      exact main _ (by split <;> omega)
    · rw [if_neg (by simpa using hk)]
      simpa using main 0 (by decide)
  · exact h.elim
abbrev s_law_take : Stmt := top 36
abbrev n_law_take : List Str := ["_law_pot_here", "_law_many", "_law_digit"]
theorem sc_law_take : FnScope n_law_take ["_law_pot_here", "_law_many"] (defScope s_law_take) := ⟨rfl, rfl, rfl, by decide +kernel, rfl, by decide +kernel, by decide +kernel⟩
def sp_law_take : VSp := fun ds S Q => match ds with
  | [.ref p, .int m] => Pot S p ∧ 0 < m ∧ m.natAbs.log2 < 9000 ∧ ∀ (r : Int) (S' : Store), 0 ≤ r → r < m → Pot S' p → But p S S' → Q (.int r) S'
  | _ => False
theorem ok_law_take (T : Tx K w mg) : DefV P w K mg base 1 "_law_take" ["_law_pot_here", "_law_many"] sp_law_take := by
  refine DefV.mk' T.f_law_take sc_law_take (fun _ _ _ _ _ _ us hl => match us, hl with | [_, _], _ => rfl) (fun f cdv A outer s H E hgd hr hcd => ⟨_, (s_cons (s_if (t_cmp ov_gt (v_sub (v_var 0) v_int) v_int) (s_cons (s_set 2 sc_law_take.nd rfl (by first | exact Or.inl rfl | exact Or.inr rfl) (v_op ov_mod (v_sub (v_var 0) v_int) (v_var 1)))
      (s_cons (s_asg (v_op ov_fdiv (v_sub (v_var 0) v_int) (v_var 1)) (g_setix (v_var 0) v_int (pg_sub (v_var 0) v_int set_list)))
      (s_one (s_ret (v_var 2))))) s_nil)
      (s_cons (s_asg (v_op ov_mod (v_op ov_add (v_op ov_mulL (v_sub (v_var 0) v_int) v_int) v_int) v_int) (g_setix (v_var 0) v_int (pg_sub (v_var 0) v_int set_list)))
      (s_one (s_ret (v_op ov_mod (v_op ov_fdiv (v_op ov_mod (v_op ov_mulL (v_sub (v_var 0) v_int) (v_sub (v_var 0) v_int)) v_int) v_int) (v_var 1)))))), ?_⟩)
  intro ds S Q hl h
  unfold sp_law_take at h
  split at h
  · rename_i p m
    obtain ⟨⟨a, b, e, ha, hb, hb2⟩, hm, hm2, k⟩ := h
    simp?! only [rdS_ref e, e]
    by_cases h0 : 0 < a
    · rw [if_pos (decide_eq_true h0)]
      refine ⟨hm, ⟨hm, hm2⟩, fin_same (k _ _ (Int.emod_nonneg _ (by omega)) (Int.emod_lt_of_pos _ hm) (Pot.mk' (Int.ediv_nonneg ha (by omega)) hb hb2) But.supd)⟩
    · rw [if_neg (by simpa using h0)]
      have c0 : 0 ≤ (b * 39373 + 8191) % 2147483587 := Int.emod_nonneg _ (by decide)
      have c1 : (b * 39373 + 8191) % 2147483587 < 2147483587 := Int.emod_lt_of_pos _ (by decide)
      generalize (b * 39373 + 8191) % 2147483587 = c at c0 c1
      refine ⟨cmul_r (by decide) (by decide), ?_⟩
      exact ⟨cmul_l (by omega) (by omega), ⟨by decide, by decide⟩, hm, fin_same (k _ _ (Int.emod_nonneg _ (by omega)) (Int.emod_lt_of_pos _ hm) (Pot.mk' ha c0 (by omega)) But.supd)⟩
  · exact h.elim
abbrev s_law_one : Stmt := top 37
abbrev n_law_one : List Str := ["_law_pot_here", "_law_some"]
theorem sc_law_one : FnScope n_law_one ["_law_pot_here", "_law_some"] (defScope s_law_one) := ⟨rfl, rfl, rfl, by decide +kernel, rfl, by decide +kernel, by decide +kernel⟩
/-- one of some -/
def sp_law_one : VSp := fun ds S Q => match ds with
  | [.ref p, .lst ds] => Pot S p ∧ ds ≠ [] ∧ ds.length < 1000 ∧ ∀ (d : D) (S' : Store), d ∈ ds → Pot S' p → But p S S' → Q d S'
  | [.ref p, .tup ds] => Pot S p ∧ ds ≠ [] ∧ ds.length < 1000 ∧ ∀ (d : D) (S' : Store), d ∈ ds → Pot S' p → But p S S' → Q d S'
  | [.ref p, .str x] => Pot S p ∧ x.cps.toList ≠ [] ∧ x.length < 1000 ∧ ∀ (c : Nat) (S' : Store), c ∈ x.cps.toList → Pot S' p → But p S S' → Q (.str ⟨#[c]⟩) S'
  | _ => False
theorem ok_law_one (T : Tx K w mg) : DefV P w K mg base 2 "_law_one" ["_law_pot_here", "_law_some"] sp_law_one := by
  refine DefV.mk' T.f_law_one sc_law_one (fun _ _ _ _ _ _ us hl => match us, hl with | [_, _], _ => rfl) (fun f cdv A outer s H E hgd hr hcd => ⟨_, (s_one (s_ret (v_sub (v_var 1) (v_call (ok_law_take T) (hr.mono (by decide)) hgd rfl (a_cons (v_var 0) (a_cons (v_callB cv_len rfl T.b_len (by decide +kernel) (a_cons (v_var 1) a_nil)) a_nil)))))), ?_⟩)
  intro ds S Q hl h
  unfold sp_law_one at h
  split at h
  · rename_i p ds
    obtain ⟨hp, hn, hlen, k⟩ := h
    have hpos : 0 < ds.length := by cases ds with | nil => exact absurd rfl hn | cons => simp
    simp?! only [sp_law_take]
    refine ⟨hp, by omega, log2_small (k := 10) (by simp; omega) (by decide) (by decide), fun r S' h0 h1 hp' hb => ?_⟩
    obtain ⟨n, rfl⟩ : ∃ n : Nat, r = (n : Int) := ⟨r.toNat, by omega⟩
    have hn2 : n < ds.length := by omega
    rw [atI_lit, List.getElem?_eq_getElem hn2]
    exact fin_same (k _ _ (List.getElem_mem hn2) hp' hb)
  · rename_i p ds
    obtain ⟨hp, hn, hlen, k⟩ := h
    have hpos : 0 < ds.length := by cases ds with | nil => exact absurd rfl hn | cons => simp
    simp?! only [sp_law_take]
    refine ⟨hp, by omega, log2_small (k := 10) (by simp; omega) (by decide) (by decide), fun r S' h0 h1 hp' hb => ?_⟩
    obtain ⟨n, rfl⟩ : ∃ n : Nat, r = (n : Int) := ⟨r.toNat, by omega⟩
    have hn2 : n < ds.length := by omega
    rw [atI_lit, List.getElem?_eq_getElem hn2]
    exact fin_same (k _ _ (List.getElem_mem hn2) hp' hb)
  · rename_i p x
    obtain ⟨hp, hn, hlen, k⟩ := h
    have len : x.cps.toList.length = x.length := by simp [Str.length]
    have hpos : 0 < x.length := by
      rw [← len]
      exact List.length_pos_iff.mpr hn
    simp?! only [sp_law_take]
    refine ⟨Nat.le_trans (Nat.le_of_lt hlen) (by decide), hp, by omega, log2_small (k := 10) (by simp; omega) (by decide) (by decide), fun r S' h0 h1 hp' hb => ?_⟩
    obtain ⟨n, rfl⟩ : ∃ n : Nat, r = (n : Int) := ⟨r.toNat, by omega⟩
    have hn2 : n < x.cps.toList.length := by omega
    rw [atI_lit, List.getElem?_eq_getElem hn2]
    exact ⟨Nat.le_trans (Nat.le_of_lt hlen) (by decide), fin_same (k _ _ (List.getElem_mem hn2) hp' hb)⟩
  · exact h.elim
abbrev s_law_words : Stmt := top 39
abbrev n_law_words : List Str := ["_law_found"]
theorem sc_law_words : FnScope n_law_words [] (defScope s_law_words) := ⟨rfl, rfl, rfl, by decide +kernel, rfl, by decide +kernel, by decide +kernel⟩
def eighteen : List Str := ["put", "none", "copy", "add", "less", "new", "getn", "setn", "getb", "setb", "tell", "go", "if", "ifnone", "same", "call", "back", "rest"]
def sp_law_words : VSp := fun ds S Q => Q (.lst (eighteen.map D.str)) S
theorem ok_law_words (T : Tx K w mg) : DefV P w K mg base 1 "_law_words" [] sp_law_words := by
  refine DefV.mk' T.f_law_words sc_law_words (fun _ _ _ _ _ _ us hl => match us, hl with | [], _ => rfl) (fun f cdv A outer s H E hgd hr hcd => ⟨_, (s_cons (s_set 0 sc_law_words.nd rfl (by first | exact Or.inl rfl | exact Or.inr rfl) (v_lst (a_cons v_str (a_cons v_str (a_cons v_str (a_cons v_str (a_cons v_str (a_cons v_str (a_cons v_str (a_cons v_str (a_cons v_str (a_cons v_str (a_cons v_str (a_cons v_str (a_cons v_str a_nil)))))))))))))))
      (s_one (s_ret (v_op ov_add (v_var 0) (v_lst (a_cons v_str (a_cons v_str (a_cons v_str (a_cons v_str (a_cons v_str a_nil)))))))))), ?_⟩)
  intro ds S Q hl h
  obtain rfl := len0 hl
  walk_at "VX"
  exact fin_same h
abbrev s_law_home : Stmt := top 40
abbrev n_law_home : List Str := ["_law_pot_here", "_law_pegs", "_law_bins", "_law_k"]
theorem sc_law_home : FnScope n_law_home ["_law_pot_here", "_law_pegs", "_law_bins"] (defScope s_law_home) := ⟨rfl, rfl, rfl, by decide +kernel, rfl, by decide +kernel, by decide +kernel⟩
def sp_law_home : VSp := fun ds S Q => match ds with
  | [.ref p, dp, .int bins] => Pot S p ∧ (∃ ks, (dp = .tup ks ∨ dp = .lst ks) ∧ ks ≠ [] ∧ ks.length ≤ 5 ∧ (∀ k ∈ ks, isWithin k 0 3 = true) ∧ 0 ≤ bins ∧ bins ≤ 4 ∧
      ∀ (d : D) (S' : Store), isHome d = true → binIn bins d = true → pegIn ks d = true → Sm 200 1 d → Pot S' p → But p S S' → Q d S')
  | _ => False
theorem ok_law_home (T : Tx K w mg) : DefV P w K mg base 3 "_law_home" ["_law_pot_here", "_law_pegs", "_law_bins"] sp_law_home := by
  refine DefV.mk' T.f_law_home sc_law_home (fun _ _ _ _ _ _ us hl => match us, hl with | [_, _, _], _ => rfl) (fun f cdv A outer s H E hgd hr hcd => ⟨_, (s_one (s_ret (v_call (ok_law_one T) (hr.mono (by decide)) hgd rfl (a_cons (v_var 0) (a_cons (v_op ov_add (v_lc (c := (.one 3)) (own := [("_law_k", 3)]) recR_frz (by simp [CT.within]) rfl sc_law_home.nd (i_seq (v_var 1)) (blkOk_by (N := n_law_home) (sc := defScope s_law_home) (by decide +kernel)) (fun _ _ _ _ _ => (pg_name (i := 3) sc_law_home.nd rfl (by first | exact Or.inl rfl | exact Or.inr rfl))) (fun _ _ _ _ _ => ts_nil) (fun _ _ _ _ _ => (v_tup (a_cons v_str (a_cons (v_var 3) a_nil))))) (v_lc (c := (.one 3)) (own := [("_law_k", 3)]) recR_frz (by simp [CT.within]) rfl sc_law_home.nd (i_rng1 rfl T.b_range (v_var 2) (pi_range1 rfl T.b_range (pa_cons (v_var 2) pa_nil))) (blkOk_by (N := n_law_home) (sc := defScope s_law_home) (by decide +kernel)) (fun _ _ _ _ _ => (pg_name (i := 3) sc_law_home.nd rfl (by first | exact Or.inl rfl | exact Or.inr rfl))) (fun _ _ _ _ _ => ts_nil) (fun _ _ _ _ _ => (v_tup (a_cons v_str (a_cons (v_var 3) a_nil)))))) a_nil))))), ?_⟩)
  intro ds S Q hl h
  unfold sp_law_home at h
  split at h
  · rename_i p dp bins
    obtain ⟨hp, ks, hd, hne, hlen, hks, b0, b1, k⟩ := h
    have kk : ∀ d S', isHome d = true → binIn bins d = true → pegIn ks d = true → Sm 200 1 d → Pot S' p → But p S S' → VL.Fin Q d S' := fun d S' a b c e f g => fin_same (k d S' a b c e f g)
    simp?! only [sp_law_one]
    refine mLc_of ks (fun d => [.tup [.str "peg", d]]) (kp := fun _ => True) (S1 := S) (fun Qi h => ?_) (sz (by omega)) trivial (fun d hd J hJ => ?_) ?_
    · rcases hd with rfl | rfl
      · walk_at "VX"; exact h
      · walk_at "VX"; exact h
    · walk_at "VX"; exact hJ
    · rw [flat_one]
      walk_at "VX"
      refine mLc_of (rngD 0 bins.toNat) (fun d => [.tup [.str "bin", d]]) (kp := fun _ => True) (S1 := S) (fun Qi h => ?_) (by simp only [rngD, List.length_map, List.length_range]; exact sz (by omega)) trivial (fun d hd J hJ => ?_) ?_
      · walk_at "VX"; exact ⟨by omega, by omega, h⟩
      · walk_at "VX"; exact hJ
      · rw [flat_one]
        walk_at "VX"
        have lr : (rngD 0 bins.toNat).length = bins.toNat := by simp [rngD]
        have h0 : 0 < ks.length := by cases ks with | nil => exact absurd rfl hne | cons => simp
        refine ⟨sz (by rw [List.length_map, List.length_map, lr]; omega), hp, ?_, ?_, fun d S1 hd p1 b1 => ?_⟩
        · intro z
          have := congrArg List.length z
          rw [List.length_append, List.length_map] at this
          simp only [List.length_nil] at this
          omega
        · rw [List.length_append, List.length_map, List.length_map, lr]; omega
        · have sm : ∀ (x : Str) (i : Int), (x = "peg" ∨ x = "bin") → 0 ≤ i → i ≤ 4 → Sm 200 1 (.tup [.str x, .int i]) := by
            intro x i hx i0 i1
            have hs : Sm 40 0 (.str x) := by rcases hx with rfl | rfl <;> exact smb_iff.mp (by decide +kernel)
            obtain ⟨a1, a2, a3⟩ := hs
            have a1 : PyData.strOk x = true := by simpa only [sml] using a1
            refine ⟨by simp only [sml, smlL, a1, Bool.true_and, Bool.and_true]; exact smlI_of (i := i) (by omega) (by omega), ?_, ?_⟩
            · simp only [VL.cnt, cntL] at a2 ⊢; omega
            · simp only [dep, depL]; omega
          rcases List.mem_append.mp hd with h | h
          · obtain ⟨e, he, rfl⟩ := List.mem_map.mp h
            have hw := hks e he
            cases e <;> try (exact absurd hw Bool.false_ne_true)
            rename_i i
            simp only [isWithin, Bool.and_eq_true, decide_eq_true_eq] at hw
            refine kk _ _ ?_ ?_ ?_ (sm "peg" i (.inl rfl) hw.1 (by omega)) p1 b1
            · simp [isHome, hw]
            · simp only [binIn]; rw [show decide (("peg" : Str) = "bin") = false by decide +kernel]; rfl
            · simp only [pegIn, decide_true, Bool.not_true, Bool.false_or, Bool.or_eq_true, decide_eq_true_eq]
              exact .inr (inF_int he)
          · obtain ⟨e, he, rfl⟩ := List.mem_map.mp h
            simp only [rngD, List.mem_map, List.mem_range] at he
            obtain ⟨i, hi, rfl⟩ := he
            refine kk _ _ ?_ ?_ ?_ (sm "bin" _ (.inr rfl) (by omega) (by omega)) p1 b1
            · simp only [isHome, decide_true, Bool.or_true, Bool.true_and, Bool.and_eq_true, decide_eq_true_eq]; omega
            · simp only [binIn, decide_true, Bool.not_true, Bool.false_or, decide_eq_true_eq]; omega
            · simp only [pegIn]; rw [show decide (("bin" : Str) = "peg") = false by decide +kernel]; rfl
  · exact h.elim
abbrev s_law_part : Stmt := top 41
abbrev n_law_part : List Str := ["_law_pot_here", "_law_sign", "_law_keeps", "_law_bins", "_law_many"]
theorem sc_law_part : FnScope n_law_part ["_law_pot_here", "_law_sign", "_law_keeps", "_law_bins", "_law_many"] (defScope s_law_part) := ⟨rfl, rfl, rfl, by decide +kernel, rfl, by decide +kernel, by decide +kernel⟩
def sp_law_part : VSp := fun ds S Q => match ds with
  | [.ref p, .str x, .tup ks, .int bins, .int many] => ∃ c, x = ⟨#[c]⟩ ∧ c ∈ signs6 ∧ Pot S p ∧ keepsOk ks ∧ 0 ≤ bins ∧ bins ≤ 4 ∧ 1 ≤ many ∧ many ≤ 24 ∧ ∀ (d : D) (S' : Store), (PartP ks bins many c d ∧ tiny d) → Pot S' p → But p S S' → Q d S'
  | _ => False
theorem ok_law_part (T : Tx K w mg) : DefV P w K mg base 4 "_law_part" ["_law_pot_here", "_law_sign", "_law_keeps", "_law_bins", "_law_many"] sp_law_part := by
  refine DefV.mk' T.f_law_part sc_law_part (fun _ _ _ _ _ _ us hl => match us, hl with | [_, _, _, _, _], _ => rfl) (fun f cdv A outer s H E hgd hr hcd => ⟨_, (s_cons (s_if (t_cmp (ov_eqS hr.units0) (v_var 1) v_str) (s_one (s_ret (v_call (ok_law_home T) (hr.mono (by decide)) hgd rfl (a_cons (v_var 0) (a_cons (v_op ov_add (v_tup (a_cons v_int a_nil)) (v_var 2)) (a_cons (v_var 3) a_nil)))))) s_nil)
      (s_cons (s_if (t_cmp (ov_eqS hr.units0) (v_var 1) v_str) (s_one (s_ret (v_call (ok_law_home T) (hr.mono (by decide)) hgd rfl (a_cons (v_var 0) (a_cons (v_lst (a_cons v_int (a_cons v_int (a_cons v_int (a_cons v_int a_nil))))) (a_cons (v_var 3) a_nil)))))) s_nil)
      (s_cons (s_if (t_cmp (ov_eqS hr.units0) (v_var 1) v_str) (s_one (s_ret (v_op ov_add (v_call (ok_law_one T) (hr.mono (by decide)) hgd rfl (a_cons (v_var 0) (a_cons (v_lst (a_cons v_int (a_cons v_int (a_cons (v_neg v_int) (a_cons (v_op ov_pow v_int v_int) a_nil))))) a_nil))) (v_call (ok_law_take T) (hr.mono (by decide)) hgd rfl (a_cons (v_var 0) (a_cons v_int a_nil)))))) s_nil)
      (s_one (s_ret (v_call (ok_law_take T) (hr.mono (by decide)) hgd rfl (a_cons (v_var 0) (a_cons (v_dsub (units1 hr.units) (v_dictS (vs_cons v_int (vs_cons v_int (vs_cons (v_var 4) vs_nil))) (by decide +kernel) rfl rfl (by simp) (by decide) (by decide)) (v_var 1)) a_nil)))))))), ?_⟩)
  intro ds S Q hl h
  unfold sp_law_part at h
  split at h
  · rename_i p x ks bins many
    obtain ⟨c, rfl, hc, hp, ⟨hk1, hk2⟩, b0, b1, m0, m1, k⟩ := h
    have kk : ∀ (d : D) (S' : Store), (PartP ks bins many c d ∧ tiny d) → Pot S' p → But p S S' → VL.Fin Q d S' := fun d S' a b e => fin_same (k d S' a b e)
    simp?! only [sgn_h, sgn_g, sgn_n, sp_law_home, sp_law_one, sp_law_take]
    have one : ∀ k ∈ D.int 0 :: ks, isWithin k 0 3 = true := fun k hk => by
      rcases List.mem_cons.mp hk with rfl | hk
      · rfl
      · have := hk2 k hk
        cases k <;> simp only [isWithin, Bool.false_eq_true, Bool.and_eq_true, decide_eq_true_eq] at this ⊢
        omega
    by_cases c1 : c = 104
    · subst c1
      rw [if_pos (by decide)]
      refine ⟨sz (by omega), hp, _, .inl rfl, by simp, by simp only [List.length_cons]; omega, one, b0, b1, fun d S1 a1 a2 a3 a4 p1 c1 => kk _ _ ⟨⟨a1, a4, fun _ => ⟨a2, pegIn_kept a3⟩, fun z => by omega, fun z => by omega⟩, tiny_home a1⟩ p1 c1⟩
    rw [if_neg (by simpa using c1)]
    by_cases c2 : c = 103
    · subst c2
      rw [if_pos (by decide)]
      refine ⟨hp, _, .inr rfl, by simp, by simp, by decide, b0, b1, fun d S1 a1 a2 a3 a4 p1 c1 => kk _ _ ⟨⟨a1, a4, fun z => by omega, fun _ => a2, fun z => by omega⟩, tiny_home a1⟩ p1 c1⟩
    rw [if_neg (by simpa using c2)]
    have c4 : c = 110 ∨ c = 97 ∨ c = 107 ∨ c = 116 := by
      simp only [signs6, List.mem_cons, List.not_mem_nil, or_false] at hc
      omega
    rcases c4 with rfl | rfl | rfl | rfl
    · rw [if_pos (by decide)]
      refine ⟨cpow10 (by decide) (by decide), hp, by simp, by decide, fun d S1 hd p1 b1 => ⟨p1, by decide, fun r S2 r0 r1 p2 b2 => ?_⟩⟩
      have : ∃ i : Int, d = .int i ∧ -1 ≤ i ∧ i ≤ 10 ^ 39 := by
        simp only [List.mem_cons, List.not_mem_nil, or_false] at hd
        rcases hd with rfl | rfl | rfl | rfl <;> exact ⟨_, rfl, by omega, by omega⟩
      obtain ⟨i, rfl, i0, i1⟩ := this
      walk_at "VX"
      exact kk _ _ ⟨⟨rfl, sm_int (by omega) (by omega), fun z => by omega, fun z => by omega, fun z => by omega⟩, tiny_int (by omega) (by omega)⟩ p2 (b1.trans b2)
    · rw [if_neg (by decide), akt_a]
      exact ⟨hp, by decide, by decide, fun r S1 r0 r1 p1 b1 => kk _ _ ⟨⟨by simp [fitC, isWithin]; omega, sm_int (by omega) (by omega), fun z => by omega, fun z => by omega, fun z => by omega⟩, tiny_int (by omega) (by omega)⟩ p1 b1⟩
    · rw [if_neg (by decide), akt_k]
      exact ⟨hp, by decide, by decide, fun r S1 r0 r1 p1 b1 => kk _ _ ⟨⟨by simp [fitC, isWithin]; omega, sm_int (by omega) (by omega), fun z => by omega, fun z => by omega, fun z => by omega⟩, tiny_int (by omega) (by omega)⟩ p1 b1⟩
    · rw [if_neg (by decide), akt_t]
      exact ⟨hp, by omega, log_small (by omega) (by omega), fun r S1 r0 r1 p1 b1 => kk _ _ ⟨⟨by simp [fitC, isFrom]; omega, sm_int (by omega) (by omega), fun z => by omega, fun z => by omega, fun _ => by simp [ltI]; omega⟩, tiny_int (by omega) (by omega)⟩ p1 b1⟩
  · exact h.elim
abbrev s_law_shape : Stmt := top 38
abbrev n_law_shape : List Str := ["_law_word", "_law_by", "_law_more"]
theorem sc_law_shape : FnScope n_law_shape ["_law_word"] (defScope s_law_shape) := ⟨rfl, rfl, rfl, by decide +kernel, rfl, by decide +kernel, by decide +kernel⟩
def shapeBy : List (Key × D) := [(.inr "put", .str "hn"), (.inr "none", .str "h"), (.inr "copy", .str "hg"), (.inr "add", .str "hgg"), (.inr "less", .str "hgg"), (.inr "new", .str "haa"), (.inr "getn", .str "hgk")]
def shapeMore : List (Key × D) := [(.inr "setn", .str "gkg"), (.inr "getb", .str "hgk"), (.inr "setb", .str "gkg"), (.inr "tell", .str "g"), (.inr "go", .str "t"), (.inr "if", .str "gt"), (.inr "ifnone", .str "gt")]
def shapeD (w : Str) : D := match valD shapeBy (.inr w) with
  | some d => d
  | none => (valD shapeMore (.inr w)).getD ((valD [(.inr "same", .str "ggt"), (.inr "call", .str "d")] (.inr w)).getD (.str ""))
def sp_law_shape : VSp := fun ds S Q => match ds with
  | [.str w] => Q (shapeD w) S
  | _ => False
theorem ok_law_shape (T : Tx K w mg) : DefV P w K mg base 1 "_law_shape" ["_law_word"] sp_law_shape := by
  refine DefV.mk' T.f_law_shape sc_law_shape (fun _ _ _ _ _ _ us hl => match us, hl with | [_], _ => rfl) (fun f cdv A outer s H E hgd hr hcd => ⟨_, (s_cons (s_set 1 sc_law_shape.nd rfl (by first | exact Or.inl rfl | exact Or.inr rfl) (v_dictS (vs_cons v_str (vs_cons v_str (vs_cons v_str (vs_cons v_str (vs_cons v_str (vs_cons v_str (vs_cons v_str vs_nil))))))) (by decide +kernel) rfl rfl (by simp) (by decide) (by decide)))
      (s_cons (s_set 2 sc_law_shape.nd rfl (by first | exact Or.inl rfl | exact Or.inr rfl) (v_dictS (vs_cons v_str (vs_cons v_str (vs_cons v_str (vs_cons v_str (vs_cons v_str (vs_cons v_str (vs_cons v_str vs_nil))))))) (by decide +kernel) rfl rfl (by simp) (by decide) (by decide)))
      (s_cons (s_if (t_din (units1 hr.units) (v_var 0) (v_var 1)) (s_one (s_ret (v_dsub (units1 hr.units) (v_var 1) (v_var 0)))) s_nil)
      (s_one (s_ret (v_dget2 (units1 hr.units) (v_var 2) (v_var 0) (v_dget2 (units1 hr.units) (v_dictS (vs_cons v_str (vs_cons v_str vs_nil)) (by decide +kernel) rfl rfl (by simp) (by decide) (by decide)) (v_var 0) v_str ⟨rfl, rfl, rfl, rfl⟩) ⟨rfl, rfl, rfl, rfl⟩)))))), ?_⟩)
  intro ds S Q hl h
  unfold sp_law_shape at h
  split at h
  · rename_i w
    have h3 := fin_same h
    unfold shapeD at h3
    walk_at "VX"
    cases e : valD shapeBy (.inr w) with
    | none => rw [e] at h3; unfold shapeBy at e; unfold shapeMore at h3; simp only [e, Option.isSome_none, Bool.false_eq_true, if_false]; exact ⟨rfl, rfl, h3⟩
    | some d => rw [e] at h3; unfold shapeBy at e; simp only [e, Option.isSome_some, if_true]; exact h3
  · exact h.elim
abbrev s_law_line : Stmt := top 42
abbrev n_law_line : List Str := ["_law_pot_here", "_law_keeps", "_law_bins", "_law_many", "_law_defs", "_law_is_last", "_law_word", "_law_sign"]
theorem sc_law_line : FnScope n_law_line ["_law_pot_here", "_law_keeps", "_law_bins", "_law_many", "_law_defs", "_law_is_last"] (defScope s_law_line) := ⟨rfl, rfl, rfl, by decide +kernel, rfl, by decide +kernel, by decide +kernel⟩
def sp_law_line : VSp := fun ds S Q => match ds with
  | [.ref p, .tup ks, .int bins, .int many, .int defs, .bl last] => Pot S p ∧ keepsOk ks ∧ 0 ≤ bins ∧ bins ≤ 4 ∧ 1 ≤ many ∧ many ≤ 24 ∧ 1 ≤ defs ∧ defs ≤ 6 ∧ ∀ (l : D) (S' : Store), (LineP ks bins many defs last l ∧ tiny l) → Pot S' p → But p S S' → Q l S'
  | _ => False
theorem shape_tab2 : ∀ e ∈ lineTab, e.1 ≠ "call" → shapeD e.1 = .str ⟨(e.2.map (·.1)).toArray⟩ := by
  intro e he hc
  simp only [lineTab, List.mem_cons, List.not_mem_nil, or_false] at he
  rcases he with rfl | rfl | rfl | rfl | rfl | rfl | rfl | rfl | rfl | rfl | rfl | rfl | rfl | rfl | rfl | rfl | rfl | rfl <;> first | rfl | exact (hc rfl).elim
theorem ok_law_line (T : Tx K w mg) : DefV P w K mg base 5 "_law_line" ["_law_pot_here", "_law_keeps", "_law_bins", "_law_many", "_law_defs", "_law_is_last"] sp_law_line := by
  refine DefV.mk' T.f_law_line sc_law_line (fun _ _ _ _ _ _ us hl => match us, hl with | [_, _, _, _, _, _], _ => rfl) (fun f cdv A outer s H E hgd hr hcd => ⟨_, (s_cons (s_set 6 sc_law_line.nd rfl (by first | exact Or.inl rfl | exact Or.inr rfl) (v_call (ok_law_one T) (hr.mono (by decide)) hgd rfl (a_cons (v_var 0) (a_cons (v_if (t_val (v_var 5)) (v_lst (a_cons v_str (a_cons v_str a_nil))) (v_call0 (ok_law_words T) (hr.mono (by decide)) hgd rfl)) a_nil))))
      (s_cons (s_if (t_cmp (ov_eqS hr.units0) (v_var 6) v_str) (s_one (s_ret (v_tup (a_cons (v_var 6) (a_cons (v_call (ok_law_take T) (hr.mono (by decide)) hgd rfl (a_cons (v_var 0) (a_cons (v_var 4) a_nil))) a_nil))))) s_nil)
      (s_one (s_ret (v_op ov_add (v_tup (a_cons (v_var 6) a_nil)) (v_callT cv_tuple rfl T.b_tuple (by decide +kernel) (a_cons (v_lc (c := (.one 7)) (own := [("_law_sign", 7)]) recR_frz (by simp [CT.within]) rfl sc_law_line.nd (i_str (v_call (ok_law_shape T) (hr.mono (by decide)) hgd rfl (a_cons (v_var 6) a_nil))) (blkOk_by (N := n_law_line) (sc := defScope s_law_line) (by decide +kernel)) (fun _ _ _ _ _ => (pg_name (i := 7) sc_law_line.nd rfl (by first | exact Or.inl rfl | exact Or.inr rfl))) (fun _ _ _ _ _ => ts_nil) (fun _ _ _ _ _ => (v_call (ok_law_part T) (hr.mono (by decide)) hgd rfl (a_cons (v_var 0) (a_cons (v_var 7) (a_cons (v_var 1) (a_cons (v_var 2) (a_cons (v_var 3) a_nil)))))))) a_nil))))))), ?_⟩)
  intro ds S Q hl h
  unfold sp_law_line at h
  split at h
  · rename_i p ks bins many defs last
    obtain ⟨hp, hk, b0, b1', m0, m1, d0, d1, k⟩ := h
    have kk : ∀ (d : D) (S' : Store), (LineP ks bins many defs last d ∧ tiny d) → Pot S' p → But p S S' → VL.Fin Q d S' := fun d S' a b e => fin_same (k d S' a b e)
    rcases Bool.eq_false_or_eq_true last with hb | hb
    all_goals simp?! only [hb, sp_law_one, sp_law_words]
    all_goals refine ⟨hp, by simp [eighteen], by decide, fun dw S1 hdw p1 b1 => ?_⟩
    all_goals
      obtain ⟨w, hw, hlast, rfl⟩ : ∃ w, w ∈ eighteen ∧ (last = true → w = "go" ∨ w = "back") ∧ D.str w = dw := by
        first
          | (simp only [List.mem_cons, List.not_mem_nil, or_false] at hdw
             rcases hdw with rfl | rfl
             · exact ⟨"go", by decide +kernel, fun _ => .inl rfl, rfl⟩
             · exact ⟨"back", by decide +kernel, fun _ => .inr rfl, rfl⟩)
          | (obtain ⟨w, hw, rfl⟩ := List.mem_map.mp hdw
             exact ⟨w, hw, fun z => (by rw [hb] at z; cases z), rfl⟩)
    all_goals
      obtain ⟨es, he⟩ := look_some (l := lineTab) (show w ∈ lineTab.map (·.1) from hw)
      have mem := look_mem he
      have tok := table_ok _ mem
      have tsg := (table_signs _ mem).1
      simp?! only [sp_law_take]
      by_cases hc : w = "call"
      · subst hc
        rw [if_pos (by decide)]
        refine ⟨p1, by omega, log_small (by omega) (by omega), fun r S2 r0 r1 p2 b2 => kk _ _ ⟨call_made r0 r1 d1 hlast, tiny_tup (by simp) fun d hd => by simp only [List.mem_cons, List.not_mem_nil, or_false] at hd; rcases hd with rfl | rfl; exact tiny_words _ hw; exact tiny_int (by omega) (by omega)⟩ p2 (b1.trans b2)⟩
      · rw [if_neg (by simpa using hc)]
        refine mLc_inv (sgnD ⟨(es.map (·.1)).toArray⟩) (fun i acc S8 => Pot S8 p ∧ But p S1 S8 ∧ RowP (fun c d => PartP ks bins many c d ∧ tiny d) ((es.map (·.1)).take i) acc) (kp := fun _ => True) (S1 := S1) (fun Qi h => ?_) ?_ ⟨p1, But.refl _ _, trivial⟩ (fun _ _ _ _ => trivial) (fun i d acc S8 hd h => ?_) (fun acc S8 h => ?_)
        · simp?! only [sp_law_shape, shape_tab2 _ mem hc]; exact h
        · simp only [sgnD, List.length_map]; exact Nat.le_trans tok.2 (by decide)
        · obtain ⟨p8, b8, h8⟩ := h
          obtain ⟨c, hc, rfl⟩ : ∃ c, (es.map (·.1))[i]? = some c ∧ d = .str ⟨#[c]⟩ := by
            simp only [sgnD, List.getElem?_map, Option.map_eq_some_iff] at hd
            obtain ⟨c, a, b⟩ := hd
            exact ⟨c, by simpa using a, b.symm⟩
          simp?! only [sp_law_part]
          refine ⟨c, rfl, of_decide_eq_true (List.all_eq_true.mp tsg c (List.mem_of_getElem? hc)), p8, hk, b0, b1', m0, m1, fun d S9 hd p9 b9 => ⟨p9, b8.trans b9, ?_⟩⟩
          rw [List.take_succ, hc]; exact RowP.app hd h8
        · obtain ⟨p8, b8, h8⟩ := h
          rw [show (sgnD ⟨(es.map (·.1)).toArray⟩).length = (es.map (·.1)).length by simp [sgnD], List.take_length] at h8
          have len := h8.len
          rw [List.length_map] at len
          walk_at "VX"
          refine ⟨sz (by have : es.length ≤ 3 := tok.2; omega), kk _ _ ⟨line_made he (h8.imp fun _ _ h => h.1) hlast (called_nil he hc), tiny_tup (by have : es.length ≤ 3 := tok.2; rw [List.length_cons]; omega) fun d hd => (List.mem_cons.mp hd).elim (fun z => by rw [z]; exact tiny_words _ hw) (fun hd => let ⟨c, _, h⟩ := h8.each d hd; h.2)⟩ p8 (b1.trans b8)⟩
  · exact h.elim
abbrev s_law_def : Stmt := top 43
abbrev n_law_def : List Str := ["_law_pot_here", "_law_defs", "_law_takes", "_law_gives", "_law_keeps", "_law_bins", "_law_many", "_law_lines", "_law_k"]
theorem sc_law_def : FnScope n_law_def ["_law_pot_here", "_law_defs"] (defScope s_law_def) := ⟨rfl, rfl, rfl, by decide +kernel, rfl, by decide +kernel, by decide +kernel⟩
def sp_law_def : VSp := fun ds S Q => match ds with
  | [.ref p, .int defs] => Pot S p ∧ 1 ≤ defs ∧ defs ≤ 6 ∧ ∀ (d : D) (S' : Store), (DefP defs d ∧ tiny d) → Pot S' p → But p S S' → Q d S'
  | _ => False
theorem ok_law_def (T : Tx K w mg) : DefV P w K mg base 6 "_law_def" ["_law_pot_here", "_law_defs"] sp_law_def := by
  refine DefV.mk' T.f_law_def sc_law_def (fun _ _ _ _ _ _ us hl => match us, hl with | [_, _], _ => rfl) (fun f cdv A outer s H E hgd hr hcd => ⟨_, (s_cons (s_set 2 sc_law_def.nd rfl (by first | exact Or.inl rfl | exact Or.inr rfl) (v_join (pe_join v_str (v_lc (c := (.one 8)) (own := [("_law_k", 8)]) recR_frz (by simp [CT.within]) rfl sc_law_def.nd (i_rng1 rfl T.b_range v_int (pi_range1 rfl T.b_range (pa_cons v_int pa_nil))) (blkOk_by (N := n_law_def) (sc := defScope s_law_def) (by decide +kernel)) (fun _ _ _ _ _ => (pg_name (i := 8) sc_law_def.nd rfl (by first | exact Or.inl rfl | exact Or.inr rfl))) (fun _ _ _ _ _ => ts_nil) (fun _ _ _ _ _ => (v_call (ok_law_one T) (hr.mono (by decide)) hgd rfl (a_cons (v_var 0) (a_cons v_str a_nil))))))))
      (s_cons (s_set 3 sc_law_def.nd rfl (by first | exact Or.inl rfl | exact Or.inr rfl) (v_call (ok_law_one T) (hr.mono (by decide)) hgd rfl (a_cons (v_var 0) (a_cons v_str a_nil))))
      (s_cons (s_set 4 sc_law_def.nd rfl (by first | exact Or.inl rfl | exact Or.inr rfl) (v_callT cv_tuple rfl T.b_tuple (by decide +kernel) (a_cons (v_lc (c := (.one 8)) (own := [("_law_k", 8)]) recR_frz (by simp [CT.within]) rfl sc_law_def.nd (i_seq (v_tup (a_cons v_int (a_cons v_int (a_cons v_int a_nil))))) (blkOk_by (N := n_law_def) (sc := defScope s_law_def) (by decide +kernel)) (fun _ _ _ _ _ => (pg_name (i := 8) sc_law_def.nd rfl (by first | exact Or.inl rfl | exact Or.inr rfl))) (fun _ _ _ _ _ => (ts_one (t_cmp (ov_eq hr.units) (v_call (ok_law_take T) (hr.mono (by decide)) hgd rfl (a_cons (v_var 0) (a_cons v_int a_nil))) v_int))) (fun _ _ _ _ _ => (v_var 8))) a_nil)))
      (s_cons (s_set 5 sc_law_def.nd rfl (by first | exact Or.inl rfl | exact Or.inr rfl) (v_call (ok_law_take T) (hr.mono (by decide)) hgd rfl (a_cons (v_var 0) (a_cons v_int a_nil))))
      (s_cons (s_set 6 sc_law_def.nd rfl (by first | exact Or.inl rfl | exact Or.inr rfl) (v_sub (v_lst (a_cons v_int (a_cons v_int (a_cons (v_op ov_add v_int (v_call (ok_law_take T) (hr.mono (by decide)) hgd rfl (a_cons (v_var 0) (a_cons v_int a_nil)))) (a_cons (v_op ov_add v_int (v_call (ok_law_take T) (hr.mono (by decide)) hgd rfl (a_cons (v_var 0) (a_cons v_int a_nil)))) a_nil))))) (v_call (ok_law_take T) (hr.mono (by decide)) hgd rfl (a_cons (v_var 0) (a_cons v_int a_nil)))))
      (s_cons (s_setLc (i := 7) (c := (.one 8)) (own := [("_law_k", 8)]) recR_frz (by simp [CT.within]) rfl sc_law_def.nd rfl rfl (sw_true rfl rfl rfl (by decide +kernel)) (i_rng1 rfl T.b_range (v_var 6) (pi_range1 rfl T.b_range (pa_cons (v_var 6) pa_nil))) (blkOk_by (N := n_law_def) (sc := defScope s_law_def) (by decide +kernel)) (fun _ _ _ _ _ => (pg_name (i := 8) sc_law_def.nd rfl (by first | exact Or.inl rfl | exact Or.inr rfl))) (fun _ _ _ _ _ => ts_nil) (fun _ _ _ _ _ => (v_call (ok_law_line T) (hr.mono (by decide)) hgd rfl (a_cons (v_var 0) (a_cons (v_var 4) (a_cons (v_var 5) (a_cons (v_var 6) (a_cons (v_var 1) (a_cons (v_cmp (ov_eq hr.units) (v_var 8) (v_op ov_sub (v_var 6) v_int)) a_nil)))))))))
      (s_one (s_ret (v_tup (a_cons (v_var 2) (a_cons (v_var 3) (a_cons (v_var 4) (a_cons (v_var 5) (a_cons (v_callT cv_tuple rfl T.b_tuple (by decide +kernel) (a_cons (v_var 7) a_nil)) a_nil)))))))))))))), ?_⟩)
  intro ds S Q hl h
  unfold sp_law_def at h
  split at h
  · rename_i p defs
    obtain ⟨hp, d0, d1, k⟩ := h
    have kk : ∀ (d : D) (S' : Store), (DefP defs d ∧ tiny d) → Pot S' p → But p S S' → VL.Fin Q d S' := fun d S' a b e => fin_same (k d S' a b e)
    simp?! only [sp_law_one]
    refine mLc_inv (rngD 0 4) (fun i acc S8 => Pot S8 p ∧ But p S S8 ∧ ∃ cs : List Nat, acc = cs.map (fun c => D.str ⟨#[c]⟩) ∧ cs.length = i ∧ ∀ c ∈ cs, c ∈ [110, 98, 45]) (kp := fun _ => True) (S1 := S) (fun Qi h => ?_) (by rw [rng_len]; exact sz (by decide)) ⟨hp, But.refl _ _, [], rfl, rfl, fun c hc => nomatch hc⟩ (fun _ _ _ _ => trivial) (fun i d acc S8 hd h => ?_) (fun acc S8 h => ?_)
    · walk_at "VX"; exact h
    · obtain ⟨p8, b8, cs, rfl, e1, e2⟩ := h
      simp?! only [sp_law_one]
      refine ⟨p8, by rw [nb_cps]; simp, by decide +kernel, fun c S9 hc p9 b9 => ⟨p9, b8.trans b9, cs ++ [c], by simp, by simp [e1], fun x hx => ?_⟩⟩
      rcases List.mem_append.mp hx with hx | hx
      · exact e2 x hx
      · rw [List.mem_singleton.mp hx, ← nb_cps]; exact hc
    · obtain ⟨p8, b8, cs, rfl, e1, e2⟩ := h
      rw [rng_len] at e1
      simp?! only [ones_strs, ones_sum]
      refine ⟨?_, p8, by rw [nb_cps]; simp, by decide +kernel, fun g S9 hg p9 b9 => ?_⟩
      · rw [List.length_map, e1]; decide +kernel
      rw [nb_cps] at hg
      refine mLc_inv [.int 1, .int 2, .int 3] (fun i acc S10 => Pot S10 p ∧ But p S9 S10 ∧ ∃ ks : List Int, acc = ks.map D.int ∧ ks.length ≤ i ∧ ks.Pairwise (· < ·) ∧ ∀ k ∈ ks, 1 ≤ k ∧ k ≤ i) (kp := fun _ => True) (S1 := S9) (fun Qi h => ?_) (sz (by simp)) ⟨p9, But.refl _ _, [], rfl, by simp, .nil, fun c hc => nomatch hc⟩ (fun _ _ _ _ => trivial) (fun i d acc S10 hd h => ?_) (fun acc S10 h => ?_)
      · walk_at "VX"; exact h
      · obtain ⟨p10, b10, ks, rfl, e3, e4, e5⟩ := h
        have hd' : d = .int (i + 1) ∧ i < 3 := by
          match i, hd with
          | 0, hd => exact ⟨(Option.some.inj hd).symm, by decide⟩
          | 1, hd => exact ⟨(Option.some.inj hd).symm, by decide⟩
          | 2, hd => exact ⟨(Option.some.inj hd).symm, by decide⟩
          | n + 3, hd => simp at hd
        obtain ⟨rfl, hi⟩ := hd'
        simp?! only [sp_law_take]
        refine ⟨p10, by decide, fun r S11 r0 r1 p11 b11 => ?_⟩
        by_cases hr : r = 1
        · subst hr
          rw [if_pos (by decide)]
          refine ⟨p11, b10.trans b11, ks ++ [(i : Int) + 1], by simp, by simp; omega, ?_, fun k hk => ?_⟩
          · rw [List.pairwise_append]
            refine ⟨e4, List.pairwise_singleton _ _, fun a ha b hb => ?_⟩
            rw [List.mem_singleton.mp hb]; have := e5 a ha; omega
          · rcases List.mem_append.mp hk with hk | hk
            · have := e5 k hk; omega
            · rw [List.mem_singleton.mp hk]; omega
        · rw [if_neg (by simpa using hr)]
          exact ⟨p11, b10.trans b11, ks, rfl, by omega, e4, fun k hk => by have := e5 k hk; omega⟩
      · obtain ⟨p10, b10, ks, rfl, e3, e4, e5⟩ := h
        simp?! only [sp_law_take]
        refine ⟨p10, by decide, fun bins S11 x0 x1 p11 b11 => ⟨p11, by decide, fun r1 S12 r10 r11 p12 b12 => ⟨p12, by decide, fun r2 S13 r20 r21 p13 b13 => ⟨p13, by decide, fun r3 S14 r30 r31 p14 b14 => ?_⟩⟩⟩⟩
        obtain ⟨m, hm, m0, m1⟩ : ∃ m : Int, atI [D.int 1, D.int 24, D.int (1 + r1), D.int (1 + r2)] r3 = some (.int m) ∧ 1 ≤ m ∧ m ≤ 24 := by
          have : r3 = 0 ∨ r3 = 1 ∨ r3 = 2 ∨ r3 = 3 := by omega
          rcases this with rfl | rfl | rfl | rfl
          · exact ⟨1, rfl, by omega, by omega⟩
          · exact ⟨24, rfl, by omega, by omega⟩
          · exact ⟨_, rfl, by omega, by omega⟩
          · exact ⟨_, rfl, by omega, by omega⟩
        rw [hm]
        have kok : keepsOk (ks.map D.int) := ⟨by simpa using e3, fun k hk' => by obtain ⟨i, hi, rfl⟩ := List.mem_map.mp hk'; have := e5 i hi; simp [isWithin]; simp at this; omega⟩
        refine mLc_inv (rngD 0 m.toNat) (fun i acc S15 => Pot S15 p ∧ But p S14 S15 ∧ acc.length = i ∧ ∀ (j : Nat) l, acc[j]? = some l → LineP (ks.map D.int) bins m defs (decide ((j : Int) = m - 1)) l ∧ tiny l) (kp := fun _ => True) (S1 := S14) (fun Qi h => ?_) (by rw [rng_len]; exact sz (by omega)) ⟨p14, But.refl _ _, rfl, fun j l hj => by simp at hj⟩ (fun _ _ _ _ => trivial) (fun i d acc S15 hd h => ?_) (fun acc S15 h => ?_)
        · walk_at "VX"; exact ⟨by omega, by omega, h⟩
        · obtain ⟨p15, b15, e6, e7⟩ := h
          obtain ⟨i', hi', rfl⟩ := rng_mem (List.mem_of_getElem? hd)
          have : i' = i := by
            have := getE hd
            rw [rng_len] at this
            simp [rngD, this] at hd
            omega
          subst this
          simp?! only [sp_law_line]
          refine ⟨p15, kok, by omega, by omega, by omega, by omega, by omega, by omega, fun l S16 hl p16 b16 => ⟨p16, b15.trans b16, by simp [e6], fun j l' hj => ?_⟩⟩
          by_cases hj2 : j < acc.length
          · rw [List.getElem?_append_left hj2] at hj; exact e7 j l' hj
          · have : j = acc.length := by
              have := getE hj
              simp at this; omega
            subst this
            rw [List.getElem?_append_right (Nat.le_refl _)] at hj
            simp at hj
            subst hj
            have e8 : (0 : Int) + (i' : Int) = (acc.length : Int) := by omega
            rw [e8] at hl
            exact hl
        · obtain ⟨p15, b15, e6, e7⟩ := h
          rw [rng_len] at e6
          walk_at "VX"
          have em : m = (acc.length : Int) := by omega
          refine kk _ _ ⟨def_made ?_ ?_ ?_ rfl e4 (fun k hk => by have := e5 k hk; simp at this; omega) (by simpa using e3) x0 (by omega) (by omega) (by omega) (by rw [← em]; exact fun j l h => (e7 j l h).1), ?_⟩ p15 (b8.trans (b9.trans (b10.trans (b11.trans (b12.trans (b13.trans (b14.trans b15)))))))
          · rw [ones_cps]; exact e2
          · rw [ones_len]; exact e1
          · intro c hc
            have : c = g := by simpa using hc
            rw [this]; exact hg
          · have so : ∀ s : Str, (∀ c ∈ s.cps.toList, c ∈ [110, 98, 45]) → PyData.strOk s = true := fun s h => Array.all_eq_true_iff_forall_mem.mpr fun c hc => by
              have := h c (by simpa using hc)
              simp only [List.mem_cons, List.not_mem_nil, or_false] at this
              rcases this with rfl | rfl | rfl <;> rfl
            refine tiny_tup (by simp) fun d hd => ?_
            simp only [List.mem_cons, List.not_mem_nil, or_false] at hd
            rcases hd with rfl | rfl | rfl | rfl | rfl
            · exact tiny_str (so _ (by rw [ones_cps]; exact e2)) (by rw [ones_len]; omega)
            · refine tiny_str (so _ fun c hc => ?_) (by show 1 ≤ 24; omega)
              have : c = g := by simpa using hc
              rw [this]; exact hg
            · refine tiny_tup (by rw [List.length_map]; simp at e3; omega) fun d hd => ?_
              obtain ⟨k, hk, rfl⟩ := List.mem_map.mp hd
              have := e5 k hk
              simp at this
              exact tiny_int (by omega) (by omega)
            · exact tiny_int (by omega) (by omega)
            · refine tiny_tup (by omega) fun d hd => ?_
              obtain ⟨j, hj, rfl⟩ := List.mem_iff_getElem.mp hd
              exact (e7 j _ (List.getElem?_eq_getElem hj)).2
  · exact h.elim
abbrev s_law_program : Stmt := top 44
abbrev n_law_program : List Str := ["_law_pot_here", "_law_defs", "_law_k"]
theorem sc_law_program : FnScope n_law_program ["_law_pot_here"] (defScope s_law_program) := ⟨rfl, rfl, rfl, by decide +kernel, rfl, by decide +kernel, by decide +kernel⟩
def sp_law_program : VSp := fun ds S Q => match ds with
  | [.ref p] => Pot S p ∧ ∀ (d : D) (S' : Store), (ProgP d ∧ tiny d) → Pot S' p → But p S S' → Q d S'
  | _ => False
theorem ok_law_program (T : Tx K w mg) : DefV P w K mg base 7 "_law_program" ["_law_pot_here"] sp_law_program := by
  refine DefV.mk' T.f_law_program sc_law_program (fun _ _ _ _ _ _ us hl => match us, hl with | [_], _ => rfl) (fun f cdv A outer s H E hgd hr hcd => ⟨_, (s_cons (s_set 1 sc_law_program.nd rfl (by first | exact Or.inl rfl | exact Or.inr rfl) (v_op ov_add v_int (v_call (ok_law_take T) (hr.mono (by decide)) hgd rfl (a_cons (v_var 0) (a_cons v_int a_nil)))))
      (s_one (s_ret (v_callT cv_tuple rfl T.b_tuple (by decide +kernel) (a_cons (v_lc (c := (.one 2)) (own := [("_law_k", 2)]) recR_frz (by simp [CT.within]) rfl sc_law_program.nd (i_rng1 rfl T.b_range (v_var 1) (pi_range1 rfl T.b_range (pa_cons (v_var 1) pa_nil))) (blkOk_by (N := n_law_program) (sc := defScope s_law_program) (by decide +kernel)) (fun _ _ _ _ _ => (pg_name (i := 2) sc_law_program.nd rfl (by first | exact Or.inl rfl | exact Or.inr rfl))) (fun _ _ _ _ _ => ts_nil) (fun _ _ _ _ _ => (v_call (ok_law_def T) (hr.mono (by decide)) hgd rfl (a_cons (v_var 0) (a_cons (v_var 1) a_nil))))) a_nil))))), ?_⟩)
  intro ds S Q hl h
  unfold sp_law_program at h
  split at h
  · rename_i p
    obtain ⟨hp, k⟩ := h
    simp?! only [sp_law_take]
    refine ⟨hp, by decide, fun r S1 r0 r1 p1 b1 => ?_⟩
    refine mLc_inv (rngD 0 (1 + r).toNat) (fun i acc S15 => Pot S15 p ∧ But p S1 S15 ∧ acc.length = i ∧ ∀ e ∈ acc, DefP (1 + r) e ∧ tiny e) (kp := fun _ => True) (S1 := S1) (fun Qi h => ?_) (by rw [rng_len]; exact sz (by omega)) ⟨p1, But.refl _ _, rfl, fun e he => nomatch he⟩ (fun _ _ _ _ => trivial) (fun i d acc S15 hd h => ?_) (fun acc S15 h => ?_)
    · walk_at "VX"; exact ⟨by omega, by omega, h⟩
    · obtain ⟨p15, b15, e6, e7⟩ := h
      simp?! only [sp_law_def]
      refine ⟨p15, by omega, by omega, fun d S16 hd p16 b16 => ⟨p16, b15.trans b16, by simp [e6], fun e he => ?_⟩⟩
      rcases List.mem_append.mp he with he | he
      · exact e7 e he
      · rw [List.mem_singleton.mp he]; exact hd
    · obtain ⟨p15, b15, e6, e7⟩ := h
      rw [rng_len] at e6
      walk_at "VX"
      have em : (1 : Int) + r = (acc.length : Int) := by omega
      exact fin_same (k _ _ ⟨prog_made (by omega) (by omega) (by rw [← em]; exact fun e he => (e7 e he).1), tiny_tup (by omega) fun e he => (e7 e he).2⟩ p15 (b1.trans b15))
  · exact h.elim
abbrev s_law_odd_tuple : Stmt := top 47
abbrev n_law_odd_tuple : List Str := ["_law_pot_here", "_law_thing", "_law_some"]
theorem sc_law_odd_tuple : FnScope n_law_odd_tuple ["_law_pot_here", "_law_thing"] (defScope s_law_odd_tuple) := ⟨rfl, rfl, rfl, by decide +kernel, rfl, by decide +kernel, by decide +kernel⟩
def sp_law_odd_tuple : VSp := fun ds S Q => match ds with
  | [.ref p, .tup ds] => ∃ n L c e : Nat, Pot S p ∧ BentL n L c e ds ∧ ds.length ≤ L ∧ 24 ≤ L ∧ L < 500 ∧ ∀ (d : D) (S' : Store), Bent (n + 7) (2 * L) (2 * c + 300) (e + 2) d → Pot S' p → But p S S' → Q d S'
  | _ => False
theorem ok_law_odd_tuple (T : Tx K w mg) : DefV P w K mg base 3 "_law_odd_tuple" ["_law_pot_here", "_law_thing"] sp_law_odd_tuple := by
  refine DefV.mk' T.f_law_odd_tuple sc_law_odd_tuple (fun _ _ _ _ _ _ us hl => match us, hl with | [_, _], _ => rfl) (fun f cdv A outer s H E hgd hr hcd => ⟨_, (s_cons (s_set 2 sc_law_odd_tuple.nd rfl (by first | exact Or.inl rfl | exact Or.inr rfl) (v_lst (a_cons (v_callT cv_list rfl T.b_list (by decide +kernel) (a_cons (v_var 1) a_nil)) (a_cons (v_slc (v_var 1) o_none (o_some (v_neg v_int))) (a_cons (v_op ov_add (v_var 1) (v_slc (v_var 1) o_none (o_some v_int))) (a_cons (v_rev (v_var 1) (o_some (v_neg v_int))) (a_cons (v_tup a_nil) (a_cons v_non (a_cons (v_tup (a_cons (v_var 1) a_nil)) (a_cons (v_op ov_mulA (v_var 1) v_int) (a_cons (v_slc (v_var 1) (o_some v_int) o_none) (a_cons v_int a_nil))))))))))))
      (s_one (s_ret (v_call (ok_law_one T) (hr.mono (by decide)) hgd rfl (a_cons (v_var 0) (a_cons (v_var 2) a_nil)))))), ?_⟩)
  intro ds S Q hl h
  unfold sp_law_odd_tuple at h
  split at h
  · rename_i p ds
    obtain ⟨n, L, c, e, hp, B, dl, L24, L5, k⟩ := h
    simp?! only [sp_law_one]
    have tl : (ds.take 1).length ≤ 1 := by rw [List.length_take]; omega
    have fl : [ds, ds].flatten = ds ++ ds := by simp
    rw [cut_head, cut_init, cut_tail, fl]
    refine ⟨sz (by omega), by omega, hp, by simp, by decide, fun d S' hd hp' hb => fin_same (k d S' ?_ hp' hb)⟩
    have B2 : BentL n (2 * L) c e ds := B.mono
    simp only [List.mem_cons, List.not_mem_nil, or_false] at hd
    rcases hd with rfl | rfl | rfl | rfl | rfl | rfl | rfl | rfl | rfl | rfl
    · exact (B2.lst (by omega)).mono
    · rw [List.dropLast_eq_take]
      exact ((B2.take _).tup (by rw [List.length_take]; omega)).mono
    · exact ((B2.app (B2.take 1)).tup (by rw [List.length_append]; omega)).mono
    · exact (B2.rev.tup (by rw [List.length_reverse]; omega)).mono
    · exact ((BentL.nil (n := n) (L := 2 * L) (c := 0) (e := 0)).tup (by simp)).mono
    · exact (bent_non (n := n) (L := 2 * L)).mono
    · exact ((BentL.cons (c2 := 0) (B2.tup (by omega)) BentL.nil).tup (by simp; omega)).mono
    · exact ((B2.app B2).tup (by rw [List.length_append]; omega)).mono
    · exact ((B2.drop 1).tup (by rw [List.length_drop]; omega)).mono
    · exact (bent_int (n := n + 7) (L := 2 * L) (i := 7) (by omega)).mono
  · exact h.elim
abbrev s_law_odd_text : Stmt := top 46
abbrev n_law_odd_text : List Str := ["_law_pot_here", "_law_text", "_law_some"]
theorem sc_law_odd_text : FnScope n_law_odd_text ["_law_pot_here", "_law_text"] (defScope s_law_odd_text) := ⟨rfl, rfl, rfl, by decide +kernel, rfl, by decide +kernel, by decide +kernel⟩
def sp_law_odd_text : VSp := fun ds S Q => match ds with
  | [.ref p, .str s] => ∃ n L : Nat, Pot S p ∧ okN n L (.str s) = true ∧ 24 ≤ L ∧ L < 500 ∧ ∀ (d : D) (S' : Store), Bent n (2 * L) (VL.cnt (.str s) + 300) 1 d → Pot S' p → But p S S' → Q d S'
  | _ => False
theorem ok_law_odd_text (T : Tx K w mg) : DefV P w K mg base 3 "_law_odd_text" ["_law_pot_here", "_law_text"] sp_law_odd_text := by
  refine DefV.mk' T.f_law_odd_text sc_law_odd_text (fun _ _ _ _ _ _ us hl => match us, hl with | [_, _], _ => rfl) (fun f cdv A outer s H E hgd hr hcd => ⟨_, (s_cons (s_set 2 sc_law_odd_text.nd rfl (by first | exact Or.inl rfl | exact Or.inr rfl) (v_lst (a_cons v_str (a_cons v_str (a_cons v_str (a_cons v_str (a_cons v_str (a_cons v_str (a_cons v_str (a_cons v_str (a_cons (v_op ov_add (v_var 1) v_str) (a_cons (v_slc (v_var 1) (o_some v_int) o_none) (a_cons v_non (a_cons v_int (a_cons (v_tup (a_cons (v_var 1) a_nil)) a_nil)))))))))))))))
      (s_one (s_ret (v_call (ok_law_one T) (hr.mono (by decide)) hgd rfl (a_cons (v_var 0) (a_cons (v_op ov_add (v_var 2) (v_call0 (ok_law_words T) (hr.mono (by decide)) hgd rfl)) a_nil)))))), ?_⟩)
  intro ds S Q hl h
  unfold sp_law_odd_text at h
  split at h
  · rename_i p s
    obtain ⟨n, L, hp, ok, L24, L5, k⟩ := h
    rw [okN, Bool.and_eq_true, decide_eq_true_eq] at ok
    simp?! only [sp_law_one, sp_law_words]
    obtain ⟨c1, c2⟩ := cut1_ok ok.1
    have e18 : (eighteen.map D.str).length = 18 := rfl
    have l1 : (s ++ Str.ofString "n").length = s.length + 1 := by rw [app_len]; rfl
    refine ⟨sz (by show s.length + 1 ≤ 1000; omega), sz (by omega), sz (by rw [e18]; decide), hp, by simp, by rw [e18]; decide, fun d S' hd hp' hb => fin_same (k d S' ?_ hp' hb)⟩
    have cs : VL.cnt (.str s) = 10 * s.length + 2 := rfl
    rw [cs]
    have lit : ∀ w : Str, PyData.strOk w = true → w.length ≤ 10 → Bent n (2 * L) (10 * s.length + 2 + 300) 1 (.str w) := fun w h1 h2 => (bent_str (n := n) (L := 2 * L) h1 (by omega)).mono
    have all : ∀ w ∈ eighteen, PyData.strOk w = true ∧ w.length ≤ 10 := by decide +kernel
    simp only [List.mem_cons] at hd
    rcases hd with rfl | rfl | rfl | rfl | rfl | rfl | rfl | rfl | rfl | rfl | rfl | rfl | rfl | hd
    · exact lit _ (by decide +kernel) (by decide)
    · exact lit _ (by decide +kernel) (by decide)
    · exact lit _ (by decide +kernel) (by decide)
    · exact lit _ (by decide +kernel) (by decide)
    · exact lit _ (by decide +kernel) (by decide)
    · exact lit _ (by decide +kernel) (by decide)
    · exact lit _ (by decide +kernel) (by decide)
    · exact lit _ (by decide +kernel) (by decide)
    · exact (bent_str (n := n) (L := 2 * L) (strOk_app ok.1 (by decide +kernel)) (by omega)).mono
    · exact (bent_str (n := n) (L := 2 * L) c1 (by omega)).mono
    · exact (bent_non (n := n) (L := 2 * L)).mono
    · exact (bent_int (n := n) (L := 2 * L) (i := 0) (by omega)).mono
    · exact ((BentL.cons (c2 := 0) (bent_str (n := n) (L := 2 * L) ok.1 (by omega)) BentL.nil).tup (by simp; omega)).mono
    · obtain ⟨w, hw, rfl⟩ := List.mem_map.mp hd
      exact lit _ (all w hw).1 (all w hw).2
  · exact h.elim
abbrev s_law_odd_number : Stmt := top 45
abbrev n_law_odd_number : List Str := ["_law_pot_here", "_law_number", "_law_some"]
theorem sc_law_odd_number : FnScope n_law_odd_number ["_law_pot_here", "_law_number"] (defScope s_law_odd_number) := ⟨rfl, rfl, rfl, by decide +kernel, rfl, by decide +kernel, by decide +kernel⟩
def sp_law_odd_number : VSp := fun ds S Q => match ds with
  | [.ref p, x] => ∃ n L : Nat, Pot S p ∧ okN n L x = true ∧ 24 ≤ L ∧ ((∃ i, x = .int i) ∨ ∃ b, x = .bl b) ∧ ∀ (d : D) (S' : Store), Bent (n + 1000000000000000000000000000000000000000) L 300 1 d → Pot S' p → But p S S' → Q d S'
  | _ => False
theorem ok_law_odd_number (T : Tx K w mg) : DefV P w K mg base 3 "_law_odd_number" ["_law_pot_here", "_law_number"] sp_law_odd_number := by
  refine DefV.mk' T.f_law_odd_number sc_law_odd_number (fun _ _ _ _ _ _ us hl => match us, hl with | [_, _], _ => rfl) (fun f cdv A outer s H E hgd hr hcd => ⟨_, (s_cons (s_set 2 sc_law_odd_number.nd rfl (by first | exact Or.inl rfl | exact Or.inr rfl) (v_lst (a_cons (v_op ov_addB (v_var 1) v_int) (a_cons (v_op ov_subB (v_var 1) v_int) (a_cons (v_neg v_int) (a_cons v_int (a_cons v_int (a_cons v_int (a_cons v_int (a_cons v_int (a_cons v_int (a_cons v_int (a_cons v_bl (a_cons v_bl (a_cons v_non (a_cons v_str (a_cons (v_tup (a_cons v_int a_nil)) (a_cons (v_op ov_subB (v_op ov_pow v_int v_int) (v_var 1)) a_nil))))))))))))))))))
      (s_one (s_ret (v_call (ok_law_one T) (hr.mono (by decide)) hgd rfl (a_cons (v_var 0) (a_cons (v_var 2) a_nil)))))), ?_⟩)
  intro ds S Q hl h
  unfold sp_law_odd_number at h
  split at h
  · rename_i p x
    obtain ⟨n, L, hp, ok, L24, hx, k⟩ := h
    have fin : ∀ (i : Int), i.natAbs ≤ n ∨ i = 1 → ∀ (d : D) (S' : Store), d ∈ [D.int (i + 1), .int (i - 1), .int (-1), .int 0, .int 1, .int 2, .int 3, .int 4, .int 5, .int 24, .bl true, .bl false, .non, .str "1", .tup [.int 0], .int (1000000000000000000000000000000000000000 - i)] → Pot S' p → But p S S' → VL.Fin Q d S' := fun i hi d S' hd hp hb => by
      refine fin_same (k d S' ?_ hp hb)
      have int : ∀ j : Int, j.natAbs ≤ n + 1000000000000000000000000000000000000000 → Bent (n + 1000000000000000000000000000000000000000) L 300 1 (.int j) := fun j hj => (bent_int (L := L) hj).mono
      have st : Bent n L 12 0 (.str "1") := bent_str (s := "1") (by decide +kernel) (by show 1 ≤ L; omega)
      have z0 := (BentL.cons (c1 := 151) (c2 := 0) (e := 0) (bent_int (n := n) (L := L) (i := 0) (by simp)) BentL.nil).tup (by show 1 ≤ L; omega)
      simp only [List.mem_cons, List.not_mem_nil, or_false] at hd
      rcases hd with rfl | rfl | rfl | rfl | rfl | rfl | rfl | rfl | rfl | rfl | rfl | rfl | rfl | rfl | rfl | rfl
      all_goals first
        | exact int _ (by omega)
        | exact (bent_bl (n := n) (L := L)).mono
        | exact (bent_non (n := n) (L := L)).mono
        | exact st.mono
        | exact z0.mono
    rcases hx with ⟨i, rfl⟩ | ⟨b, rfl⟩
    · simp?! only [sp_law_one]
      exact ⟨cpow10 (by decide) (by decide), hp, by simp, by decide, fun d S' hd hp' hb => fin i (.inl (of_decide_eq_true ok)) d S' hd hp' hb⟩
    · simp?! only [sp_law_one]
      exact ⟨cpow10 (by decide) (by decide), hp, by simp, by decide, fun d S' hd hp' hb => fin (b2n b) (by cases b <;> simp [b2n]) d S' hd hp' hb⟩
  · exact h.elim
abbrev s_law_otherwise : Stmt := top 48
abbrev n_law_otherwise : List Str := ["_law_pot_here", "_law_thing", "_law_deep", "_law_at"]
theorem sc_law_otherwise : FnScope n_law_otherwise ["_law_pot_here", "_law_thing", "_law_deep"] (defScope s_law_otherwise) := ⟨rfl, rfl, rfl, by decide +kernel, rfl, by decide +kernel, by decide +kernel⟩
def spr_law_otherwise (n : Nat) : VSp := fun ds S Q => match ds with
  | [.ref p, d, .int deep] => ∃ (k L : Nat), Pot S p ∧ okN k L d = true ∧ 24 ≤ L ∧ L < 500 ∧ k ≤ 900000000000000000000000000000000000000000 ∧ 0 ≤ deep ∧ deep < n ∧ ∀ d' S', Bent (k + 1000000000000000000000000000000000000000) (2 * L) (2 * VL.cnt d + 1000) (dep d + 2) d' → Pot S' p → But p S S' → Q d' S'
  | _ => False
theorem spr_law_otherwise_0 : ∀ ds S Q, ¬ spr_law_otherwise 0 ds S Q := by
  intro ds S Q h
  unfold spr_law_otherwise at h
  split at h
  · obtain ⟨_, _, _, _, _, _, _, a, b, _⟩ := h
    omega
  · exact h
def sp_law_otherwise : VSp := spr_law_otherwise 6
theorem okr_law_otherwise (T : Tx K w mg) (n : Nat) : DefV P w K mg base (4 + n) "_law_otherwise" ["_law_pot_here", "_law_thing", "_law_deep"] (spr_law_otherwise n) := by
  induction n with
  | zero => exact DefV.never0 (k := 3) T.f_law_otherwise sc_law_otherwise (fun _ _ _ _ _ _ us hl => match us, hl with | [_, _, _], _ => rfl) spr_law_otherwise_0
  | succ n ih =>
    refine DefV.mk' (k := 4 + n) T.f_law_otherwise sc_law_otherwise (fun _ _ _ _ _ _ us hl => match us, hl with | [_, _, _], _ => rfl) (fun f cdv A outer s H E hgd hr hcd => ⟨_, (s_cut (s_if (PW.pt (w_and (t_val (v_isi "tuple" (by decide) rfl T.b_isinstance (by decide +kernel) rfl T.b_tuple (by decide +kernel) (v_var 1))) (w_and (t_cmp (ov_neT0 hr.units0) (v_var 1) (v_tup a_nil)) (w_and (t_cmp ov_gt (v_var 2) v_int) (w_and1 (t_cmp ov_gt (v_call (ok_law_take T) (hr.mono (by omega)) hgd rfl (a_cons (v_var 0) (a_cons v_int a_nil))) v_int)))))) (s_cons (s_set 3 sc_law_otherwise.nd rfl (by first | exact Or.inl rfl | exact Or.inr rfl) (v_call (ok_law_take T) (hr.mono (by omega)) hgd rfl (a_cons (v_var 0) (a_cons (v_callB cv_len rfl T.b_len (by decide +kernel) (a_cons (v_var 1) a_nil)) a_nil))))
      (s_one (s_ret (v_op ov_add (v_op ov_add (v_slc (v_var 1) o_none (o_some (v_var 3))) (v_tup (a_cons (v_call ih (hr.mono (by omega)) hgd rfl (a_cons (v_var 0) (a_cons (v_sub (v_var 1) (v_var 3)) (a_cons (v_op ov_sub (v_var 2) v_int) a_nil)))) a_nil))) (v_slc (v_var 1) (o_some (v_op ov_add (v_var 3) v_int)) o_none))))) s_nil)
      (s_cons (s_if (t_val (v_isi "tuple" (by decide) rfl T.b_isinstance (by decide +kernel) rfl T.b_tuple (by decide +kernel) (v_var 1))) (s_one (s_ret (v_call (ok_law_odd_tuple T) (hr.mono (by omega)) hgd rfl (a_cons (v_var 0) (a_cons (v_var 1) a_nil))))) s_nil)
      (s_cons (s_if (t_val (v_isi "str" (by decide) rfl T.b_isinstance (by decide +kernel) rfl T.b_str (by decide +kernel) (v_var 1))) (s_one (s_ret (v_call (ok_law_odd_text T) (hr.mono (by omega)) hgd rfl (a_cons (v_var 0) (a_cons (v_var 1) a_nil))))) s_nil)
      (s_cons (s_if (t_val (v_isi "int" (by decide) rfl T.b_isinstance (by decide +kernel) rfl T.b_int (by decide +kernel) (v_var 1))) (s_one (s_ret (v_call (ok_law_odd_number T) (hr.mono (by omega)) hgd rfl (a_cons (v_var 0) (a_cons (v_var 1) a_nil))))) s_nil)
      (s_one (s_ret (v_call (ok_law_one T) (hr.mono (by omega)) hgd rfl (a_cons (v_var 0) (a_cons (v_lst (a_cons v_int (a_cons v_str (a_cons (v_tup a_nil) (a_cons v_non a_nil))))) a_nil))))))))), ?_⟩)
    intro ds S Q hl h
    unfold spr_law_otherwise at h
    split at h
    · rename_i p d deep
      obtain ⟨kk, L, hp, ok, L24, L5, k9, d0, dn, k⟩ := h
      have fin := okN_fine (by omega) (by omega) d ok
      refine mCut_of (fun ρ' S' => Pot S' p ∧ But p S S' ∧ ∃ z3, ρ' = [some (.ref p), some (d), some (.int deep), z3]) ?_ (fun ρ3 S3 h => ?_)
      · cases d with
        | tup ds =>
          obtain ⟨dl, dok⟩ := okN_tup.mp ok
          have B : BentL kk L (cntL ds) (depL ds) ds := ⟨dok, Nat.le_refl _, fun d hd => depL_mem hd⟩
          simp?! only [sp_law_take, spr_law_otherwise]
          by_cases c1 : ds = []
          · rw [if_neg (by simpa using c1)]
            exact ⟨hp, But.refl _ _, _, rfl⟩
          rw [if_pos (by simpa using c1)]
          have dp : 0 < ds.length := List.length_pos_iff.mpr c1
          by_cases c2 : 0 < deep
          case neg =>
            rw [if_neg (by simpa using c2)]
            exact ⟨hp, But.refl _ _, _, rfl⟩
          rw [if_pos (by simpa using c2)]
          refine ⟨hp, by decide, fun r S1 r0 r5 p1 b1 => ?_⟩
          by_cases c3 : 0 < r
          case neg =>
            rw [if_neg (by simpa using c3)]
            exact ⟨p1, b1, _, rfl⟩
          rw [if_pos (by simpa using c3)]
          refine ⟨p1, by omega, log_small (by omega) (by omega), fun i S2 a0 a1 p2 b2 => ?_⟩
          obtain ⟨i, rfl⟩ : ∃ j : Nat, i = (j : Int) := ⟨i.toNat, by omega⟩
          have i1 : i < ds.length := by omega
          have ci := cntL_cut ds i i1
          have di := depL_mem (List.getElem_mem i1)
          rw [atI_lit, List.getElem?_eq_getElem i1, cut_to (by omega), show ((i : Int) + 1) = ((i + 1 : Nat) : Int) by omega, cut_from (by omega)]
          show ∃ k L, _
          refine ⟨kk, L, p2, dok _ (List.getElem_mem i1), L24, L5, k9, by omega, by omega, fun d' S3 hd p3 b3 => ?_⟩
          have tl : (ds.take i).length ≤ ds.length := by rw [List.length_take]; omega
          have e : ds.take i ++ [d'] ++ ds.drop (i + 1) = ds.take i ++ d' :: ds.drop (i + 1) := by simp
          have el : (ds.take i ++ d' :: ds.drop (i + 1)).length = ds.length := by simp; omega
          refine ⟨sz (by omega), sz (by rw [List.length_append, List.length_singleton, List.length_drop]; omega), ?_⟩
          rw [e]
          have B1 : BentL (kk + 1000000000000000000000000000000000000000) (2 * L) (cntL ds) (depL ds + 2) ds := B.mono
          have bp : BentL (kk + 1000000000000000000000000000000000000000) (2 * L) (cntL ds + (VL.cnt ds[i] + 1000)) (depL ds + 2) (ds.take i ++ d' :: ds.drop (i + 1)) := B1.put i i1 hd.mono
          refine fin_same (k _ S3 ((bp.tup (by omega)).mono (hc := ?_) (he := ?_)) p3 (b1.trans (b2.trans b3)))
          · simp only [VL.cnt]; omega
          · simp only [dep]; omega
        | ref a => simp [okN] at ok
        | _ =>
          walk_at "VX"
          exact ⟨hp, But.refl _ _, _, rfl⟩
      obtain ⟨p3, b3, z3, rfl⟩ := h
      cases d with
      | tup ds =>
        obtain ⟨dl, dok⟩ := okN_tup.mp ok
        have B : BentL kk L (cntL ds) (depL ds) ds := ⟨dok, Nat.le_refl _, fun d hd => depL_mem hd⟩
        simp?! only [sp_law_odd_tuple]
        refine ⟨kk, L, _, _, p3, B, dl, L24, L5, fun d' S' hd p' b' => fin_same (k d' S' (hd.mono (hc := by simp only [VL.cnt]; omega) (he := by simp only [dep]; omega)) p' (b3.trans b'))⟩
      | str s =>
        simp?! only [sp_law_odd_text]
        refine ⟨kk, L, p3, ok, L24, L5, fun d' S' hd p' b' => fin_same (k d' S' hd.mono p' (b3.trans b'))⟩
      | int i =>
        simp?! only [sp_law_odd_number]
        exact ⟨kk, L, p3, ok, L24, .inl ⟨i, rfl⟩, fun d' S' hd p' b' => fin_same (k d' S' hd.mono p' (b3.trans b'))⟩
      | bl b =>
        simp?! only [sp_law_odd_number]
        exact ⟨kk, L, p3, ok, L24, .inr ⟨b, rfl⟩, fun d' S' hd p' b' => fin_same (k d' S' hd.mono p' (b3.trans b'))⟩
      | ref a => simp [okN] at ok
      | _ =>
        simp?! only [sp_law_one]
        refine ⟨p3, by simp, by decide, fun d' S' hd p' b' => fin_same (k d' S' ?_ p' (b3.trans b'))⟩
        have s0 : Bent kk L 2 0 (.str "") := bent_str (s := "") (by decide +kernel) (by show 0 ≤ L; omega)
        have t0 : Bent kk L 3 1 (.tup []) := (BentL.nil (c := 0) (e := 0)).tup (by simp)
        simp only [List.mem_cons, List.not_mem_nil, or_false] at hd
        rcases hd with rfl | rfl | rfl | rfl
        · exact (bent_int (n := kk) (L := L) (i := 0) (by omega)).mono
        · exact s0.mono
        · exact t0.mono
        · exact (bent_non (n := kk) (L := L)).mono
    · exact h.elim
theorem ok_law_otherwise (T : Tx K w mg) : DefV P w K mg base 10 "_law_otherwise" ["_law_pot_here", "_law_thing", "_law_deep"] sp_law_otherwise := okr_law_otherwise T 6
abbrev s_law_signs_right : Stmt := top 53
abbrev n_law_signs_right : List Str := ["_law_thing", "_law_many", "_law_sign"]
theorem sc_law_signs_right : FnScope n_law_signs_right ["_law_thing", "_law_many"] (defScope s_law_signs_right) := ⟨rfl, rfl, rfl, by decide +kernel, rfl, by decide +kernel, by decide +kernel⟩
def sp_law_signs_right : VSp := fun ds S Q => match ds with
  | [d, .int m] => fine d ∧ Q (.bl (signsB d m)) S
  | _ => False
theorem inF_nb (c : Nat) : inF (.str ⟨#[c]⟩) [D.str "n", D.str "b", D.str "-"] = decide (c ∈ [110, 98, 45]) := by
  have : inF (.str ⟨#[c]⟩) ((["n", "b", "-"] : List Str).map D.str) = decide ((⟨#[c]⟩ : Str) ∈ (["n", "b", "-"] : List Str)) := inF_strs _
  rw [show [D.str "n", D.str "b", D.str "-"] = (["n", "b", "-"] : List Str).map D.str from rfl, this]
  refine decide_eq_decide.mpr ?_
  have e1 : (Str.ofString "n") = ⟨#[110]⟩ := by decide
  have e2 : (Str.ofString "b") = ⟨#[98]⟩ := by decide
  have e3 : (Str.ofString "-") = ⟨#[45]⟩ := by decide
  simp only [List.mem_cons, List.not_mem_nil, or_false, e1, e2, e3, Str.mk.injEq]
  simp
theorem ok_law_signs_right (T : Tx K w mg) : DefV P w K mg base 1 "_law_signs_right" ["_law_thing", "_law_many"] sp_law_signs_right := by
  refine DefV.mk' T.f_law_signs_right sc_law_signs_right (fun _ _ _ _ _ _ us hl => match us, hl with | [_, _], _ => rfl) (fun f cdv A outer s H E hgd hr hcd => ⟨_, (s_one (s_ret (v_and (v_isi "str" (by decide) rfl T.b_isinstance (by decide +kernel) rfl T.b_str (by decide +kernel) (v_var 0)) (v_and (v_cmp (ov_eq hr.units) (v_callB cv_len rfl T.b_len (by decide +kernel) (a_cons (v_var 0) a_nil)) (v_var 1)) (v_one (v_callB (cv_all rfl) rfl T.b_all (by decide +kernel) (a_cons (v_lc (c := (.one 2)) (own := [("_law_sign", 2)]) recR_frz (by simp [CT.within]) rfl sc_law_signs_right.nd (i_str (v_var 0)) (blkOk_by (N := n_law_signs_right) (sc := defScope s_law_signs_right) (by decide +kernel)) (fun _ _ _ _ _ => (pg_name (i := 2) sc_law_signs_right.nd rfl (by first | exact Or.inl rfl | exact Or.inr rfl))) (fun _ _ _ _ _ => ts_nil) (fun _ _ _ _ _ => (v_cmp ov_in (v_var 2) (v_tup (a_cons v_str (a_cons v_str (a_cons v_str a_nil))))))) a_nil))))))), ?_⟩)
  intro ds S Q hl h
  unfold sp_law_signs_right at h
  split at h
  · rename_i d m
    obtain ⟨fd, k⟩ := h
    have h3 := fin_same k
    cases d with
    | str s =>
      have hs : s.length < 1000 := by simpa only [short, decide_eq_true_eq] using fd.2.1
      walk_at "VX"
      refine ⟨sz (by omega), ?_⟩
      by_cases e : (s.length : Int) = m
      · have eq : signsB (.str s) m = s.cps.toList.all fun c => decide (c ∈ [110, 98, 45]) := by simp only [signsB, e, decide_true, Bool.true_and]
        rw [eq] at h3
        rw [if_pos (by simpa using e)]
        refine mLc_of (sgnD s) (fun d => [.bl (match d with | .str s => s.cps.toList.all fun c => decide (c ∈ [110, 98, 45]) | _ => false)]) (kp := fun _ => True) (S1 := S) (fun Qi h => ?_) (by rw [sgn_len]; exact sz (by omega)) trivial (fun d hd J hJ => ?_) ?_
        · walk_at "VX"; exact h
        · obtain ⟨c, hc, rfl⟩ := List.mem_map.mp hd
          simp?! only [inF_nb]
          simp only [List.all_cons, List.all_nil, Bool.and_true] at hJ
          exact ⟨rfl, by decide +kernel, hJ⟩
        · rw [flat_bl]
          simp?! only [rdR_lst, rdL_lst, bls_map]
          rw [all_id]
          unfold sgnD
          simp only [List.all_map, Function.comp_def, List.all_cons, List.all_nil, Bool.and_true]
          exact h3
      · have eq : signsB (.str s) m = false := by simp only [signsB, e, decide_false, Bool.false_and]
        rw [eq] at h3
        rw [if_neg (by simpa using e)]
        exact h3
    | ref a => simp [fine, sml] at fd
    | _ => walk_at "VX"; exact h3
  · exact h.elim
abbrev s_law_within : Stmt := top 49
abbrev n_law_within : List Str := ["_law_thing", "_law_most"]
theorem sc_law_within : FnScope n_law_within ["_law_thing", "_law_most"] (defScope s_law_within) := ⟨rfl, rfl, rfl, by decide +kernel, rfl, by decide +kernel, by decide +kernel⟩
def sp_law_within : VSp := fun ds S Q => match ds with
  | [d, .int m] => sml d = true ∧ Q (.bl (isWithin d 0 m)) S
  | _ => False
theorem ok_law_within (T : Tx K w mg) : DefV P w K mg base 1 "_law_within" ["_law_thing", "_law_most"] sp_law_within := by
  refine DefV.mk' T.f_law_within sc_law_within (fun _ _ _ _ _ _ us hl => match us, hl with | [_, _], _ => rfl) (fun f cdv A outer s H E hgd hr hcd => ⟨_, (s_one (s_ret (v_and (v_isi "int" (by decide) rfl T.b_isinstance (by decide +kernel) rfl T.b_int (by decide +kernel) (v_var 0)) (v_and (v_not (v_isi "bool" (by decide) rfl T.b_isinstance (by decide +kernel) rfl T.b_bool (by decide +kernel) (v_var 0))) (v_one (v_chain ov_le ov_le v_int (v_var 0) (v_var 1))))))), ?_⟩)
  intro ds S Q hl h
  unfold sp_law_within at h
  split at h
  · rename_i d m
    obtain ⟨h1, h2⟩ := h
    have h3 := fin_same h2
    cases d with
    | ref a => simp [sml] at h1
    | int i =>
      walk_at "VX"
      simp only [isWithin] at h3
      by_cases c : 0 ≤ i
      · rw [decide_eq_true c] at h3 ⊢; exact h3
      · rw [decide_eq_false c] at h3 ⊢; exact h3
    | _ => walk_at "VX"; exact h3
  · exact h.elim
abbrev s_law_keeps_right : Stmt := top 54
abbrev n_law_keeps_right : List Str := ["_law_thing", "_law_peg"]
theorem sc_law_keeps_right : FnScope n_law_keeps_right ["_law_thing"] (defScope s_law_keeps_right) := ⟨rfl, rfl, rfl, by decide +kernel, rfl, by decide +kernel, by decide +kernel⟩
def sp_law_keeps_right : VSp := fun ds S Q => match ds with
  | [d] => fine d ∧ Q (.bl (keepsB d)) S
  | _ => False
theorem eqq_intsR (S : Store) : ∀ (a b : List Int), eqq S (.lst (a.map D.int)) (.lst (b.map D.int)) = decide (a = b) := by
  intro a b
  unfold eqq
  have : ∀ a b : List Int, PyData.eqvAll (pyL (a.map D.int)) (pyL (b.map D.int)) = decide (a = b) := by
    intro a
    induction a with
    | nil => intro b; cases b <;> simp [pyL, PyData.eqvAll]
    | cons x a ih =>
      intro b
      cases b with
      | nil => simp [pyL, PyData.eqvAll]
      | cons y b =>
        simp only [List.map_cons, pyL, py, PyData.eqvAll, ih]
        by_cases e : x = y <;> simp [PyData.eqv, e]
  simp only [rsv, py, PyData.eqv]
  exact this a b
theorem ok_law_keeps_right (T : Tx K w mg) : DefV P w K mg base 2 "_law_keeps_right" ["_law_thing"] sp_law_keeps_right := by
  refine DefV.mk' T.f_law_keeps_right sc_law_keeps_right (fun _ _ _ _ _ _ us hl => match us, hl with | [_], _ => rfl) (fun f cdv A outer s H E hgd hr hcd => ⟨_, (s_cut (s_if (PW.pt (w_or (t_not (t_val (v_isi "tuple" (by decide) rfl T.b_isinstance (by decide +kernel) rfl T.b_tuple (by decide +kernel) (v_var 0)))) (w_or1 (t_not (t_val (v_callB (cv_all rfl) rfl T.b_all (by decide +kernel) (a_cons (v_lc (c := (.one 1)) (own := [("_law_peg", 1)]) recR_frz (by simp [CT.within]) rfl sc_law_keeps_right.nd (i_seq (v_var 0)) (blkOk_by (N := n_law_keeps_right) (sc := defScope s_law_keeps_right) (by decide +kernel)) (fun _ _ _ _ _ => (pg_name (i := 1) sc_law_keeps_right.nd rfl (by first | exact Or.inl rfl | exact Or.inr rfl))) (fun _ _ _ _ _ => ts_nil) (fun _ _ _ _ _ => (v_and (v_call (ok_law_within T) (hr.mono (by decide)) hgd rfl (a_cons (v_var 1) (a_cons v_int a_nil))) (v_one (v_cmp ov_gt (v_var 1) v_int))))) a_nil))))))) (s_one (s_ret v_bl)) s_nil)
      (s_one (s_ret (v_cmp (ov_eq hr.units) (v_callT cv_list rfl T.b_list (by decide +kernel) (a_cons (v_var 0) a_nil)) (v_sortSU recR_frz rfl rfl T.b_sorted rfl T.b_set (v_var 0)))))), ?_⟩)
  intro ds S Q hl h
  obtain ⟨d, rfl⟩ := len1 hl
  obtain ⟨fd, k⟩ := h
  have h3 := fin_same k
  refine mCut_of (fun ρ' S' => ∃ l : List Int, d = .tup (l.map D.int) ∧ (l.map D.int).all keepP = true ∧ S' = S ∧ ∃ z1, ρ' = [some (.tup (l.map .int)), z1]) ?_ (fun ρ3 S3 h => ?_)
  · cases d with
    | tup ds =>
      obtain ⟨dl, dok⟩ := fine_tup fd
      walk_at "VX"
      refine mLc_of ds (fun d => [.bl (keepP d)]) (kp := fun _ => True) (S1 := S) (fun Qi h => ?_) (sz (by omega)) trivial (fun d hd J hJ => ?_) ?_
      · walk_at "VX"; exact h
      · have fx := dok d hd
        simp?! only [sp_law_within]
        refine ⟨fx.1, ?_⟩
        simp only [keepP] at hJ
        by_cases c : isWithin d 0 3 = true
        · obtain ⟨i, rfl⟩ : ∃ i, d = .int i := by cases d <;> first | exact ⟨_, rfl⟩ | (simp [isWithin] at c)
          rw [if_pos c]
          rw [c, Bool.true_and] at hJ
          exact hJ
        · rw [if_neg c]
          rw [show isWithin d 0 3 = false by simpa using c, Bool.false_and] at hJ
          exact hJ
      rw [flat_bl]
      simp?! only [rdR_lst, rdL_lst, bls_map]
      rw [all_id]
      by_cases c : ds.all keepP = true
      · rw [if_neg (by rw [c]; simp)]
        obtain ⟨e1, _⟩ := keepP_ints c
        generalize intsOf ds = l at e1
        subst e1
        exact ⟨l, rfl, c, _, rfl⟩
      · rw [if_pos (by simpa using c)]
        rw [keepsB_all, show ds.all keepP = false by simpa using c, Bool.false_and] at h3
        exact h3
    | ref a => simp [fine, sml] at fd
    | _ => walk_at "VX"; exact h3
  obtain ⟨l, rfl, al, rfl, z1, rfl⟩ := h
  obtain ⟨l64, _⟩ := fine_tup fd
  rw [List.length_map] at l64
  have m3 : ∀ k ∈ l, k ∈ ([1, 2, 3] : List Int) := fun k hk => by
    have := (keepP_ints al).2 k (by rw [intsOf_map]; exact hk)
    simp only [List.mem_cons, List.not_mem_nil, or_false]
    omega
  rw [keepsB_all, al, Bool.true_and, rise_is] at h3
  walk_at "VX"
  refine ⟨l, [1, 2, 3], rfl, l64, m3, by decide, fun ys up mem => ?_⟩
  rw [eqq_intsR]
  refine ⟨okq_of rfl (shaped_ints l), okq_of rfl (shaped_ints ys), ?_⟩
  rw [decide_eq_decide.mpr (show l = ys ↔ l.Pairwise (· < ·) from ⟨fun z => by rw [z]; exact up, fun z => rise_eq z up fun k => (mem k).symm⟩)]
  exact h3
abbrev s_law_home_right : Stmt := top 50
abbrev n_law_home_right : List Str := ["_law_thing", "_law_pegs", "_law_bins"]
theorem sc_law_home_right : FnScope n_law_home_right ["_law_thing", "_law_pegs", "_law_bins"] (defScope s_law_home_right) := ⟨rfl, rfl, rfl, by decide +kernel, rfl, by decide +kernel, by decide +kernel⟩
def sp_law_home_right : VSp := fun ds S Q => match ds with
  | [x, .tup pl, .int b] => ∃ pegs : List Int, pl = pegs.map D.int ∧ fine x ∧ Q (.bl (homeR pegs b x)) S
  | _ => False
theorem ok_law_home_right (T : Tx K w mg) : DefV P w K mg base 2 "_law_home_right" ["_law_thing", "_law_pegs", "_law_bins"] sp_law_home_right := by
  refine DefV.mk' T.f_law_home_right sc_law_home_right (fun _ _ _ _ _ _ us hl => match us, hl with | [_, _, _], _ => rfl) (fun f cdv A outer s H E hgd hr hcd => ⟨_, (s_cons (s_if (PW.pt (w_or (t_not (t_val (v_isi "tuple" (by decide) rfl T.b_isinstance (by decide +kernel) rfl T.b_tuple (by decide +kernel) (v_var 0)))) (w_or (t_cmp (ov_ne hr.units) (v_callB cv_len rfl T.b_len (by decide +kernel) (a_cons (v_var 0) a_nil)) v_int) (w_or1 (t_not (t_val (v_call (ok_law_within T) (hr.mono (by decide)) hgd rfl (a_cons (v_sub (v_var 0) v_int) (a_cons v_int a_nil))))))))) (s_one (s_ret v_bl)) s_nil)
      (s_cons (s_if (t_cmp (ov_eqS hr.units0) (v_sub (v_var 0) v_int) v_str) (s_one (s_ret (v_cmp ov_in (v_sub (v_var 0) v_int) (v_var 1)))) s_nil)
      (s_one (s_ret (v_and (v_cmp (ov_eqS hr.units0) (v_sub (v_var 0) v_int) v_str) (v_one (v_cmp ov_lt (v_sub (v_var 0) v_int) (v_var 2)))))))), ?_⟩)
  intro ds S Q hl h
  unfold sp_law_home_right at h
  split at h
  · rename_i x pl b
    obtain ⟨pegs, rfl, fx, k⟩ := h
    have h3 := fin_same k
    cases x with
    | ref a => simp [fine, sml] at fx
    | tup ds =>
      obtain ⟨dl, dok⟩ := fine_tup fx
      walk_at "VX"
      by_cases c0 : ds.length = 2
      · obtain ⟨p, q, rfl⟩ := len2 c0
        have pok := dok p (by simp)
        have qok := dok q (by simp)
        simp?! only [sp_law_within]
        refine ⟨qok.1, ?_⟩
        have nr : noRef S p := by have := pok.1; cases p <;> first | (simp [sml] at this; done) | trivial
        by_cases c1 : isWithin q 0 3 = true
        · obtain ⟨i, rfl⟩ : ∃ i, q = .int i := by cases q <;> first | exact ⟨_, rfl⟩ | (simp [isWithin] at c1)
          rw [if_neg (by rw [c1]; decide)]
          refine ⟨nr, ?_⟩
          cases p with
          | str z =>
            have hh : homeR pegs b (.tup [.str z, .int i]) = (if z = "peg" then decide (i ∈ pegs) else decide (z = "bin") && decide (i < b)) := by
              show ((decide (0 ≤ i) && decide (i ≤ 3)) && _) = _
              rw [show (decide (0 ≤ i) && decide (i ≤ 3)) = true from c1, Bool.true_and]
            rw [hh] at h3
            simp?! only [inF_is]
            by_cases e1 : z = "peg"
            · rw [if_pos (decide_eq_true e1)]
              rw [if_pos e1] at h3
              exact ⟨rfl, flat_intsR _, h3⟩
            · rw [if_neg (by simpa using e1)]
              rw [if_neg e1] at h3
              by_cases e2 : z = "bin"
              · rw [if_pos (decide_eq_true e2)]
                rw [decide_eq_true e2, Bool.true_and] at h3
                exact h3
              · rw [if_neg (by simpa using e2)]
                rw [decide_eq_false e2, Bool.false_and] at h3
                exact h3
          | ref a => simp [fine, sml] at pok
          | _ => walk_at "VX"; exact h3
        · have c1 : isWithin q 0 3 = false := by simpa using c1
          rw [if_pos (by rw [c1]; rfl)]
          have : homeR pegs b (.tup [p, q]) = false := by
            unfold homeR
            split
            · rename_i s n e
              injection e with e
              injection e with e1 e2
              injection e2 with e2 _
              subst e2
              rw [show (decide (0 ≤ n) && decide (n ≤ 3)) = false from c1, Bool.false_and]
            · rfl
          rw [this] at h3
          exact h3
      · rw [if_pos (by simp; omega)]
        have : homeR pegs b (.tup ds) = false := by
          unfold homeR
          split
          · rename_i s n e
            injection e with e
            subst e
            exact (c0 rfl).elim
          · rfl
        rw [this] at h3
        exact h3
    | _ => walk_at "VX"; exact h3
  · exact h.elim
abbrev s_law_part_right : Stmt := top 51
abbrev n_law_part_right : List Str := ["_law_sign", "_law_thing", "_law_one_here", "_law_many"]
theorem sc_law_part_right : FnScope n_law_part_right ["_law_sign", "_law_thing", "_law_one_here", "_law_many"] (defScope s_law_part_right) := ⟨rfl, rfl, rfl, by decide +kernel, rfl, by decide +kernel, by decide +kernel⟩
def sp_law_part_right : VSp := fun ds S Q => match ds with
  | [.str s, x, .tup [t, g, .tup kl, .int b, .tup ls], .int many] => ∃ (c : Nat) (ks : List Int), s = ⟨#[c]⟩ ∧ c ∈ [104, 103, 110, 97, 107, 116, 100] ∧ kl = ks.map D.int ∧ fine x ∧ ks.length ≤ 900 ∧ Q (.bl (partR c x ks b ls.length many)) S
  | _ => False
theorem ok_law_part_right (T : Tx K w mg) : DefV P w K mg base 3 "_law_part_right" ["_law_sign", "_law_thing", "_law_one_here", "_law_many"] sp_law_part_right := by
  refine DefV.mk' T.f_law_part_right sc_law_part_right (fun _ _ _ _ _ _ us hl => match us, hl with | [_, _, _, _], _ => rfl) (fun f cdv A outer s H E hgd hr hcd => ⟨_, (s_cons (s_if (t_cmp (ov_eqS hr.units0) (v_var 0) v_str) (s_one (s_ret (v_call (ok_law_home_right T) (hr.mono (by decide)) hgd rfl (a_cons (v_var 1) (a_cons (v_tup (a_cons v_int (a_cons v_int (a_cons v_int (a_cons v_int a_nil))))) (a_cons (v_sub (v_var 2) v_int) a_nil)))))) s_nil)
      (s_cons (s_if (t_cmp (ov_eqS hr.units0) (v_var 0) v_str) (s_one (s_ret (v_call (ok_law_home_right T) (hr.mono (by decide)) hgd rfl (a_cons (v_var 1) (a_cons (v_op ov_add (v_tup (a_cons v_int a_nil)) (v_sub (v_var 2) v_int)) (a_cons (v_sub (v_var 2) v_int) a_nil)))))) s_nil)
      (s_cons (s_if (t_cmp (ov_eqS hr.units0) (v_var 0) v_str) (s_one (s_ret (v_and (v_isi "int" (by decide) rfl T.b_isinstance (by decide +kernel) rfl T.b_int (by decide +kernel) (v_var 1)) (v_one (v_not (v_isi "bool" (by decide) rfl T.b_isinstance (by decide +kernel) rfl T.b_bool (by decide +kernel) (v_var 1))))))) s_nil)
      (s_one (s_ret (v_call (ok_law_within T) (hr.mono (by decide)) hgd rfl (a_cons (v_var 1) (a_cons (v_dsub (units1 hr.units) (v_dictS (vs_cons v_int (vs_cons v_int (vs_cons (v_op ov_sub (v_callB cv_len rfl T.b_len (by decide +kernel) (a_cons (v_sub (v_var 2) v_int) a_nil)) v_int) (vs_cons (v_op ov_sub (v_var 3) v_int) vs_nil)))) (by decide +kernel) rfl rfl (by simp) (by decide) (by decide)) (v_var 0)) a_nil)))))))), ?_⟩)
  intro ds S Q hl h
  unfold sp_law_part_right at h
  split at h
  · rename_i s x t g kl b ls many
    obtain ⟨c, ks, rfl, hc, rfl, fx, kl, k⟩ := h
    have h3 := fin_same k
    have tl : ∀ m : Int, VL.Fin Q (.bl (isWithin x 0 m)) S → (match [x, .int m] with
      | [d, .int m] => sml d = true ∧ VL.Fin Q (.bl (isWithin d 0 m)) S
      | _ => False) := fun m h => ⟨fx.1, h⟩
    simp only [List.mem_cons, List.not_mem_nil, or_false] at hc
    rcases hc with rfl | rfl | rfl | rfl | rfl | rfl | rfl
    all_goals simp?! only [sp_law_home_right, sp_law_within]
    · rw [if_neg (by decide +kernel), if_pos (by decide +kernel)]
      exact ⟨sz (by rw [List.length_map]; omega), 0 :: ks, rfl, fx, h3⟩
    · rw [if_pos (by decide +kernel)]
      exact ⟨[0, 1, 2, 3], rfl, fx, h3⟩
    · rw [if_neg (by decide +kernel), if_neg (by decide +kernel), if_pos (by decide +kernel)]
      refine ⟨tyn_sml fx.1 S, ?_⟩
      cases x with
      | ref a => simp [fine, sml] at fx
      | _ => walk_at "VX"; first | exact h3 | exact ⟨tyn_sml fx.1 S, h3⟩
    · rw [if_neg (by decide +kernel), if_neg (by decide +kernel), if_neg (by decide +kernel)]
      exact tl 3 h3
    · rw [if_neg (by decide +kernel), if_neg (by decide +kernel), if_neg (by decide +kernel)]
      exact tl 2 h3
    · rw [if_neg (by decide +kernel), if_neg (by decide +kernel), if_neg (by decide +kernel)]
      exact tl _ h3
    · rw [if_neg (by decide +kernel), if_neg (by decide +kernel), if_neg (by decide +kernel)]
      exact tl _ h3
  · exact h.elim
abbrev s_law_line_right : Stmt := top 52
abbrev n_law_line_right : List Str := ["_law_line_here", "_law_at", "_law_one_here", "_law_many", "_law_sign", "_law_part_here"]
theorem sc_law_line_right : FnScope n_law_line_right ["_law_line_here", "_law_at", "_law_one_here", "_law_many"] (defScope s_law_line_right) := ⟨rfl, rfl, rfl, by decide +kernel, rfl, by decide +kernel, by decide +kernel⟩
def sp_law_line_right : VSp := fun ds S Q => match ds with
  | [l, .int i, .tup [t, g, .tup kl, .int b, .tup ls], .int many] => ∃ ks : List Int, kl = ks.map D.int ∧ fine l ∧ ks.length ≤ 900 ∧ Q (.bl (lineR l i ks b ls.length many)) S
  | _ => False
theorem words_tab : eighteen = lineTab.map (·.1) := rfl
theorem shape_tab16 : ∀ e ∈ lineTab, shapeD e.1 = .str ⟨(codesR e.1).toArray⟩ := by
  intro e he
  by_cases hc : e.1 = "call"
  · rw [hc]; rfl
  · rw [shape_tab2 e he hc]
    have : codesR e.1 = e.2.map (·.1) := by
      unfold codesR
      rw [if_neg hc]
      have : ∀ e ∈ lineTab, lineTab.lookup e.1 = some e.2 := by decide +kernel
      rw [this e he]; rfl
    rw [this]
theorem codes_len : ∀ e ∈ lineTab, (codesR e.1).length ≤ 3 ∧ ∀ c ∈ codesR e.1, c ∈ [104, 103, 110, 97, 107, 116, 100] := by decide +kernel
def fPartR (ks : List Int) (b n many : Int) (d : D) : Bool := match d with
  | .tup [.str ⟨#[c]⟩, x] => partR c x ks b n many
  | _ => false
theorem partsR_zip {ks : List Int} {b n many : Int} : ∀ (cs : List Nat) (r : List D), (zipD (signD cs) r).all (fPartR ks b n many) = partsR ks b n many cs r
  | [], r => by simp [zipD, signD, partsR]
  | c :: cs, [] => by simp [zipD, signD, partsR]
  | c :: cs, d :: r => by
    have ih := partsR_zip (ks := ks) (b := b) (n := n) (many := many) cs r
    have : zipD (signD (c :: cs)) (d :: r) = .tup [.str ⟨#[c]⟩, d] :: zipD (signD cs) r := by simp [zipD, signD]
    rw [this, List.all_cons, ih]
    rfl
theorem ok_law_line_right (T : Tx K w mg) : DefV P w K mg base 4 "_law_line_right" ["_law_line_here", "_law_at", "_law_one_here", "_law_many"] sp_law_line_right := by
  refine DefV.mk' T.f_law_line_right sc_law_line_right (fun _ _ _ _ _ _ us hl => match us, hl with | [_, _, _, _], _ => rfl) (fun f cdv A outer s H E hgd hr hcd => ⟨_, (s_cut (s_if (PW.pt (w_or (t_not (t_val (v_isi "tuple" (by decide) rfl T.b_isinstance (by decide +kernel) rfl T.b_tuple (by decide +kernel) (v_var 0)))) (w_or (t_cmp (ov_eqT0 hr.units0) (v_var 0) (v_tup a_nil)) (w_or1 (t_not (t_val (v_isi "str" (by decide) rfl T.b_isinstance (by decide +kernel) rfl T.b_str (by decide +kernel) (v_sub (v_var 0) v_int)))))))) (s_one (s_ret v_bl)) s_nil)
      (s_cut (s_if (PW.pt (w_or (t_cmp ov_notin (v_sub (v_var 0) v_int) (v_call0 (ok_law_words T) (hr.mono (by decide)) hgd rfl)) (w_or1 (t_cmp (ov_ne hr.units) (v_callB cv_len rfl T.b_len (by decide +kernel) (a_cons (v_var 0) a_nil)) (v_op ov_add v_int (v_callB cv_len rfl T.b_len (by decide +kernel) (a_cons (v_call (ok_law_shape T) (hr.mono (by decide)) hgd rfl (a_cons (v_sub (v_var 0) v_int) a_nil)) a_nil))))))) (s_one (s_ret v_bl)) s_nil)
      (s_cut (s_if (PW.pt (w_and (t_cmp ov_notin (v_sub (v_var 0) v_int) (v_tup (a_cons v_str (a_cons v_str a_nil)))) (w_and1 (t_cmp (ov_eq hr.units) (v_op ov_add (v_var 1) v_int) (v_callB cv_len rfl T.b_len (by decide +kernel) (a_cons (v_sub (v_var 2) v_int) a_nil)))))) (s_one (s_ret v_bl)) s_nil)
      (s_one (s_ret (v_callB (cv_all rfl) rfl T.b_all (by decide +kernel) (a_cons (v_lc (c := (.many [4, 5])) (own := [("_law_sign", 4), ("_law_part_here", 5)]) recR_frz (by simp [CT.within]) rfl sc_law_line_right.nd (i_zip rfl T.b_zip (v_call (ok_law_shape T) (hr.mono (by decide)) hgd rfl (a_cons (v_sub (v_var 0) v_int) a_nil)) (v_slc (v_var 0) (o_some v_int) o_none)) (blkOk_by (N := n_law_line_right) (sc := defScope s_law_line_right) (by decide +kernel)) (fun _ _ _ _ _ => (pg_tup rfl (pgs_cons (pg_name (i := 4) sc_law_line_right.nd rfl (by first | exact Or.inl rfl | exact Or.inr rfl)) (pgs_cons (pg_name (i := 5) sc_law_line_right.nd rfl (by first | exact Or.inl rfl | exact Or.inr rfl)) pgs_nil)))) (fun _ _ _ _ _ => ts_nil) (fun _ _ _ _ _ => (v_call (ok_law_part_right T) (hr.mono (by decide)) hgd rfl (a_cons (v_var 4) (a_cons (v_var 5) (a_cons (v_var 2) (a_cons (v_var 3) a_nil))))))) a_nil))))))), ?_⟩)
  intro ds S Q hl h
  unfold sp_law_line_right at h
  split at h
  · rename_i l i t g kl b ls many
    obtain ⟨ks, rfl, fl, k9, k⟩ := h
    have h3 := fin_same k
    refine mCut_of (fun ρ' S' => ∃ w r, l = .tup (.str w :: r) ∧ S' = S ∧ ∃ z4 z5, ρ' = [some (.tup (.str w :: r)), some (.int i), some (.tup [t, g, .tup (ks.map .int), .int b, .tup ls]), some (.int many), z4, z5]) ?_ (fun ρ3 S3 h => ?_)
    · cases l with
      | tup ds =>
        obtain ⟨dl, dok⟩ := fine_tup fl
        cases ds with
        | nil => walk_at "VX"; exact h3
        | cons p r =>
          have pok := dok p (by simp)
          walk_at "VX"
          rw [if_neg (by simp)]
          refine ⟨tyn_sml pok.1 _, ?_⟩
          cases p with
          | str w => walk_at "VX"; exact ⟨w, r, rfl, _, _, rfl⟩
          | ref a => simp [fine, sml] at pok
          | _ => walk_at "VX"; exact h3
      | ref a => simp [fine, sml] at fl
      | _ => walk_at "VX"; exact h3
    obtain ⟨w, r, rfl, rfl, z4, z5, rfl⟩ := h
    obtain ⟨dl, dok⟩ := fine_tup fl
    have hin : inF (.str w) (eighteen.map D.str) = decide (w ∈ eighteen) := inF_strs eighteen
    have hflat : (eighteen.map D.str).all flatD = true := by decide +kernel
    refine mCut_of (fun ρ' S' => (∃ es, lineTab.lookup w = some es ∧ r.length = (codesR w).length) ∧ S' = S3 ∧ ∃ z4 z5, ρ' = [some (.tup (.str w :: r)), some (.int i), some (.tup [t, g, .tup (ks.map .int), .int b, .tup ls]), some (.int many), z4, z5]) ?_ (fun ρ4 S4 h => ?_)
    · simp?! only [sp_law_words, flatD, hin, hflat, sp_law_shape]
      cases he : lineTab.lookup w with
      | none =>
        have nm : w ∉ eighteen := by rw [words_tab]; exact look_none he
        rw [decide_eq_false nm]
        have : lineR (.tup (.str w :: r)) i ks b ls.length many = false := by simp only [lineR, he, Option.isSome_none, Bool.false_and]
        rw [this] at h3
        exact h3
      | some es =>
        have mem := look_mem he
        have nm : w ∈ eighteen := by rw [words_tab]; exact List.mem_map_of_mem (f := Prod.fst) mem
        have c3 := (codes_len _ mem).1
        have hcl : ((⟨(codesR w).toArray⟩ : Str)).length = (codesR w).length := by simp [Str.length]
        rw [decide_eq_true nm, shape_tab16 _ mem, if_neg (by decide)]
        show _ ∧ _
        rw [hcl]
        refine ⟨Nat.le_trans c3 (by decide), ?_⟩
        by_cases le : r.length = (codesR w).length
        · rw [if_neg (by simp; omega)]
          exact ⟨⟨es, rfl, le⟩, _, _, rfl⟩
        · rw [if_pos (by simp; omega)]
          have : lineR (.tup (.str w :: r)) i ks b ls.length many = false := by simp only [lineR, he, decide_eq_false le, Bool.false_and, Bool.and_false]
          rw [this] at h3
          exact h3
    obtain ⟨⟨es, he, rl⟩, rfl, z4, z5, rfl⟩ := h
    have mem := look_mem he
    obtain ⟨c3, cin⟩ := codes_len _ mem
    have lr : lineR (.tup (.str w :: r)) i ks b ls.length many = ((decide (w = "go" ∨ w = "back") || !decide (i + 1 = ls.length)) && partsR ks b ls.length many (codesR w) r) := by
      simp only [lineR, he, Option.isSome_some, decide_eq_true rl, Bool.true_and]
    rw [lr] at h3
    refine mCut_of (fun ρ' S' => (decide (w = "go" ∨ w = "back") || !decide (i + 1 = (ls.length : Int))) = true ∧ S' = S4 ∧ ∃ z4 z5, ρ' = [some (.tup (.str w :: r)), some (.int i), some (.tup [t, g, .tup (ks.map .int), .int b, .tup ls]), some (.int many), z4, z5]) ?_ (fun ρ5 S5 h => ?_)
    · simp?! only [flatD]
      have ig : inF (.str w) [D.str "go", D.str "back"] = decide (w = "go" ∨ w = "back") := by
        have : inF (.str w) ((["go", "back"] : List Str).map D.str) = decide (w ∈ (["go", "back"] : List Str)) := inF_strs _
        rw [show [D.str "go", D.str "back"] = (["go", "back"] : List Str).map D.str from rfl, this]
        exact decide_eq_decide.mpr (by simp)
      rw [ig]
      refine ⟨by decide +kernel, ?_⟩
      by_cases e1 : w = "go" ∨ w = "back"
      · rw [if_neg (by rw [decide_eq_true e1]; decide)]
        exact ⟨by rw [decide_eq_true e1]; rfl, _, _, rfl⟩
      · rw [if_pos (by rw [decide_eq_false e1]; rfl)]
        by_cases e2 : i + 1 = (ls.length : Int)
        · rw [if_pos (decide_eq_true e2)]
          rw [decide_eq_false e1, decide_eq_true e2] at h3
          exact h3
        · rw [if_neg (by simpa using e2)]
          exact ⟨by rw [decide_eq_false e2]; simp, _, _, rfl⟩
    obtain ⟨e0, rfl, z4, z5, rfl⟩ := h
    rw [e0, Bool.true_and] at h3
    walk_at "VX"
    have hcl : ((⟨(codesR w).toArray⟩ : Str)).length = (codesR w).length := by simp [Str.length]
    have hsg : sgnD ⟨(codesR w).toArray⟩ = signD (codesR w) := by simp [sgnD, signD]
    refine mLc_of (zipD (signD (codesR w)) r) (fun d => [.bl (fPartR ks b ls.length many d)]) (kp := fun _ => True) (S1 := S5) (fun Qi h => ?_) (by rw [zip_len]; exact Nat.le_trans (Nat.min_le_left _ _) (by simp only [signD, List.length_map]; exact Nat.le_trans c3 (by decide))) trivial (fun d hd J hJ => ?_) ?_
    · simp?! only [sp_law_shape, cut_one, shape_tab16 _ mem, hsg]
      exact h
    · obtain ⟨c, x, rfl, hc, hx⟩ := sign_mem hd
      simp?! only [sp_law_part_right]
      exact ⟨c, ks, rfl, cin c hc, rfl, dok x (List.mem_cons_of_mem _ hx), k9, hJ⟩
    rw [flat_bl]
    simp?! only [rdR_lst, rdL_lst, bls_map]
    rw [all_id, partsR_zip]
    exact h3
  · exact h.elim
abbrev s_law_def_right : Stmt := top 55
abbrev n_law_def_right : List Str := ["_law_one_here", "_law_many", "_law_at", "_law_line_here"]
theorem sc_law_def_right : FnScope n_law_def_right ["_law_one_here", "_law_many"] (defScope s_law_def_right) := ⟨rfl, rfl, rfl, by decide +kernel, rfl, by decide +kernel, by decide +kernel⟩
def sp_law_def_right : VSp := fun ds S Q => match ds with
  | [d, .int many] => fine d ∧ Q (.bl (defB d && callsB many d)) S
  | _ => False
def fLineR (ks : List Int) (b n many : Int) (d : D) : Bool := match d with
  | .tup [.int i, l] => lineR l i ks b n many
  | _ => false
theorem linesR_enum {ks : List Int} {b n many : Int} : ∀ (ls : List D) (i : Nat), (((ls.zipIdx i).map fun p => D.tup [.int (p.2 : Nat), p.1]).all (fLineR ks b n many)) = linesR ks b n many i ls
  | [], i => rfl
  | l :: ls, i => by
    have ih := linesR_enum (ks := ks) (b := b) (n := n) (many := many) ls (i + 1)
    rw [List.zipIdx_cons, List.map_cons, List.all_cons, ih]; rfl
theorem enum_mem16 {ds : List D} {d : D} (h : d ∈ enumD ds) : ∃ (i : Nat) (l : D), d = .tup [.int i, l] ∧ l ∈ ds := by
  unfold enumD at h
  obtain ⟨⟨l, i⟩, hm, rfl⟩ := List.mem_map.mp h
  exact ⟨i, l, rfl, (List.mem_zipIdx hm).2.2 ▸ List.getElem_mem _⟩
theorem len5 {ds : List D} (hn : ds.length = 5) : ∃ a b c e f, ds = [a, b, c, e, f] := by
  match ds, hn with
  | [a, b, c, e, f], _ => exact ⟨a, b, c, e, f, rfl⟩
theorem defB_5 {ds : List D} (hn : ds.length ≠ 5) : defB (.tup ds) = false := by
  match ds, hn with
  | [], _ => rfl
  | [_], _ => rfl
  | [_, _], _ => rfl
  | [_, _, _], _ => rfl
  | [_, _, _, _], _ => rfl
  | [_, _, _, _, _], hn => exact absurd rfl hn
  | _ :: _ :: _ :: _ :: _ :: _ :: _, _ => rfl
theorem defB_is {t g kp bn ln : D} : defB (.tup [t, g, kp, bn, ln]) = ((signsB t 4 && signsB g 1 && keepsB kp) && (isWithin bn 0 4 && linesB ln) && (match kp, bn, ln with
    | .tup ks, .int b, .tup ls => rightB ks b ls.length 0 ls
    | _, _, _ => false)) := rfl
theorem ok_law_def_right (T : Tx K w mg) : DefV P w K mg base 5 "_law_def_right" ["_law_one_here", "_law_many"] sp_law_def_right := by
  refine DefV.mk' T.f_law_def_right sc_law_def_right (fun _ _ _ _ _ _ us hl => match us, hl with | [_, _], _ => rfl) (fun f cdv A outer s H E hgd hr hcd => ⟨_, (s_cut (s_if (PW.pt (w_or (t_not (t_val (v_isi "tuple" (by decide) rfl T.b_isinstance (by decide +kernel) rfl T.b_tuple (by decide +kernel) (v_var 0)))) (w_or1 (t_cmp (ov_ne hr.units) (v_callB cv_len rfl T.b_len (by decide +kernel) (a_cons (v_var 0) a_nil)) v_int)))) (s_one (s_ret v_bl)) s_nil)
      (s_cut (s_if (PW.pt (w_or (t_not (t_val (v_call (ok_law_signs_right T) (hr.mono (by decide)) hgd rfl (a_cons (v_sub (v_var 0) v_int) (a_cons v_int a_nil))))) (w_or1 (t_not (t_val (v_call (ok_law_signs_right T) (hr.mono (by decide)) hgd rfl (a_cons (v_sub (v_var 0) v_int) (a_cons v_int a_nil)))))))) (s_one (s_ret v_bl)) s_nil)
      (s_cut (s_if (PW.pt (w_or (t_not (t_val (v_call (ok_law_keeps_right T) (hr.mono (by decide)) hgd rfl (a_cons (v_sub (v_var 0) v_int) a_nil)))) (w_or (t_not (t_val (v_call (ok_law_within T) (hr.mono (by decide)) hgd rfl (a_cons (v_sub (v_var 0) v_int) (a_cons v_int a_nil))))) (w_or1 (t_not (t_val (v_isi "tuple" (by decide) rfl T.b_isinstance (by decide +kernel) rfl T.b_tuple (by decide +kernel) (v_sub (v_var 0) v_int)))))))) (s_one (s_ret v_bl)) s_nil)
      (s_cut (s_if (t_not (t_chain ov_le ov_le v_int (v_callB cv_len rfl T.b_len (by decide +kernel) (a_cons (v_sub (v_var 0) v_int) a_nil)) v_int)) (s_one (s_ret v_bl)) s_nil)
      (s_one (s_ret (v_callB (cv_all rfl) rfl T.b_all (by decide +kernel) (a_cons (v_lc (c := (.many [2, 3])) (own := [("_law_at", 2), ("_law_line_here", 3)]) recR_frz (by simp [CT.within]) rfl sc_law_def_right.nd (i_enu rfl T.b_enumerate (v_sub (v_var 0) v_int)) (blkOk_by (N := n_law_def_right) (sc := defScope s_law_def_right) (by decide +kernel)) (fun _ _ _ _ _ => (pg_tup rfl (pgs_cons (pg_name (i := 2) sc_law_def_right.nd rfl (by first | exact Or.inl rfl | exact Or.inr rfl)) (pgs_cons (pg_name (i := 3) sc_law_def_right.nd rfl (by first | exact Or.inl rfl | exact Or.inr rfl)) pgs_nil)))) (fun _ _ _ _ _ => ts_nil) (fun _ _ _ _ _ => (v_call (ok_law_line_right T) (hr.mono (by decide)) hgd rfl (a_cons (v_var 3) (a_cons (v_var 2) (a_cons (v_var 0) (a_cons (v_var 1) a_nil))))))) a_nil)))))))), ?_⟩)
  intro ds S Q hl h
  unfold sp_law_def_right at h
  split at h
  · rename_i d many
    obtain ⟨fd, k⟩ := h
    have h3 := fin_same k
    have no : defB d = false → VL.Fin Q (.bl false) S := fun z => by rw [z, Bool.false_and] at h3; exact h3
    refine mCut_of (fun ρ' S' => (∃ t g kp bn ln, d = .tup [t, g, kp, bn, ln]) ∧ S' = S ∧ ∃ z2 z3, ρ' = [some (d), some (.int many), z2, z3]) ?_ (fun ρ3 S3 h => ?_)
    · cases d with
      | tup ds =>
        walk_at "VX"
        by_cases c : ds.length = 5
        · rw [if_neg (by simp; omega)]
          obtain ⟨a, b, c', e, f, rfl⟩ := len5 c
          exact ⟨⟨a, b, c', e, f, rfl⟩, _, _, rfl⟩
        · rw [if_pos (by simp; omega)]
          exact no (defB_5 c)
      | ref a => simp [fine, sml] at fd
      | _ => walk_at "VX"; exact no rfl
    obtain ⟨⟨t, g, kp, bn, ln, rfl⟩, rfl, z2, z3, rfl⟩ := h
    obtain ⟨_, dok⟩ := fine_tup fd
    have f0 := dok t (by simp)
    have f1 := dok g (by simp)
    have f2 := dok kp (by simp)
    have f3 := dok bn (by simp)
    have f4 := dok ln (by simp)
    rw [defB_is] at no
    refine mCut_of (fun ρ' S' => (signsB t 4 = true ∧ signsB g 1 = true) ∧ S' = S3 ∧ ∃ z2 z3, ρ' = [some (.tup [t, g, kp, bn, ln]), some (.int many), z2, z3]) ?_ (fun ρ4 S4 h => ?_)
    · simp?! only [sp_law_signs_right]
      refine ⟨f0, ?_⟩
      by_cases c1 : signsB t 4 = true
      · rw [if_neg (by rw [c1]; decide)]
        refine ⟨f1, ?_⟩
        by_cases c2 : signsB g 1 = true
        · rw [if_neg (by rw [c2]; decide)]
          exact ⟨⟨c1, c2⟩, _, _, rfl⟩
        · rw [if_pos (by simpa using c2)]
          exact no (by rw [show signsB g 1 = false by simpa using c2]; simp)
      · rw [if_pos (by simpa using c1)]
        exact no (by rw [show signsB t 4 = false by simpa using c1]; simp)
    obtain ⟨⟨c1, c2⟩, rfl, z2, z3, rfl⟩ := h
    refine mCut_of (fun ρ' S' => (keepsB kp = true ∧ isWithin bn 0 4 = true ∧ ∃ ls, ln = .tup ls) ∧ S' = S4 ∧ ∃ z2 z3, ρ' = [some (.tup [t, g, kp, bn, ln]), some (.int many), z2, z3]) ?_ (fun ρ5 S5 h => ?_)
    · simp?! only [sp_law_keeps_right, sp_law_within]
      refine ⟨f2, ?_⟩
      by_cases c3 : keepsB kp = true
      · rw [if_neg (by rw [c3]; decide)]
        refine ⟨f3.1, ?_⟩
        by_cases c4 : isWithin bn 0 4 = true
        · rw [if_neg (by rw [c4]; decide)]
          cases ln with
          | tup ls => walk_at "VX"; exact ⟨⟨c3, c4, ls, rfl⟩, _, _, rfl⟩
          | ref a => simp [fine, sml] at f4
          | _ => walk_at "VX"; first | exact no (by simp [linesB]) | exact ⟨by simp, no (by simp [linesB])⟩
        · rw [if_pos (by simpa using c4)]
          exact no (by rw [show isWithin bn 0 4 = false by simpa using c4]; simp)
      · rw [if_pos (by simpa using c3)]
        exact no (by rw [show keepsB kp = false by simpa using c3]; simp)
    obtain ⟨⟨c3, c4, ls, rfl⟩, rfl, z2, z3, rfl⟩ := h
    refine mCut_of (fun ρ' S' => (1 ≤ ls.length ∧ ls.length ≤ 24) ∧ S' = S5 ∧ ∃ z2 z3, ρ' = [some (.tup [t, g, kp, bn, .tup ls]), some (.int many), z2, z3]) ?_ (fun ρ6 S6 h => ?_)
    · walk_at "VX"
      have ln0 : linesB (.tup ls) = ((decide (1 ≤ ls.length) && decide (ls.length ≤ 24)) && ls.all lineD) := rfl
      by_cases a1 : 1 ≤ ls.length
      · rw [if_pos (decide_eq_true (by omega))]
        by_cases a2 : ls.length ≤ 24
        · rw [if_neg (by simp; omega)]
          exact ⟨⟨a1, a2⟩, _, _, rfl⟩
        · rw [if_pos (by simp; omega)]
          exact no (by rw [ln0, decide_eq_false a2]; simp)
      · rw [if_neg (by simp; omega)]
        exact no (by rw [ln0, decide_eq_false a1]; simp)
    obtain ⟨⟨l1, l24⟩, rfl, z2, z3, rfl⟩ := h
    obtain ⟨kp, rfl⟩ : ∃ ks, kp = .tup ks := by cases kp <;> first | exact ⟨_, rfl⟩ | (simp [keepsB] at c3)
    obtain ⟨b, rfl⟩ : ∃ i, bn = .int i := by cases bn <;> first | exact ⟨_, rfl⟩ | (simp [isWithin] at c4)
    have c3' := c3
    rw [keepsB_all, Bool.and_eq_true] at c3'
    obtain ⟨e1, _⟩ := keepP_ints c3'.1
    obtain ⟨kl, _⟩ := fine_tup f2
    obtain ⟨_, lok⟩ := fine_tup f4
    generalize intsOf kp = ks at e1
    subst e1
    have k3 : ks.length ≤ 3 := by
      have r := c3'.2
      rw [rise_is, decide_eq_true_eq] at r
      refine sub_len2 (b := [1, 2, 3]) (r.imp fun h => Int.ne_of_lt h) fun a ha => ?_
      have := (keepP_ints c3'.1).2 a (by rw [intsOf_map]; exact ha)
      simp only [List.mem_cons, List.not_mem_nil, or_false]
      omega
    have tot : (defB (.tup [t, g, .tup (ks.map D.int), .int b, .tup ls]) && callsB many (.tup [t, g, .tup (ks.map D.int), .int b, .tup ls])) = linesR ks b ls.length many 0 ls := by
      rw [linesR_is ls 0 (by simp), defB_is, c1, c2, c3, c4]
      have ln0 : linesB (.tup ls) = ((decide (1 ≤ ls.length) && decide (ls.length ≤ 24)) && ls.all lineD) := rfl
      rw [ln0, decide_eq_true l1, decide_eq_true l24]
      show (((true && true && true) && (true && ((true && true) && ls.all lineD)) && rightB (ks.map D.int) b ls.length 0 ls) && ls.all (calledB many)) = _
      cases ls.all lineD <;> cases rightB (ks.map D.int) b ls.length 0 ls <;> cases ls.all (calledB many) <;> rfl
    rw [tot] at h3
    walk_at "VX"
    refine mLc_of (enumD ls) (fun d => [.bl (fLineR ks b ls.length many d)]) (kp := fun _ => True) (S1 := S6) (fun Qi h => ?_) (by simp only [enumD, List.length_map, List.length_zipIdx]; exact sz (by omega)) trivial (fun d hd J hJ => ?_) ?_
    · walk_at "VX"; exact h
    · obtain ⟨i, l, rfl, hm⟩ := enum_mem16 hd
      simp?! only [sp_law_line_right]
      exact ⟨ks, rfl, lok l hm, by omega, hJ⟩
    rw [flat_bl]
    simp?! only [rdR_lst, rdL_lst, bls_map]
    rw [all_id]
    show VL.Fin Q (.bl (((ls.zipIdx 0).map fun p => D.tup [.int (p.2 : Nat), p.1]).all (fLineR ks b ls.length many))) S6
    rw [linesR_enum]
    exact h3
  · exact h.elim
abbrev s_law_due : Stmt := top 56
abbrev n_law_due : List Str := ["_law_thing", "_law_one_here"]
theorem sc_law_due : FnScope n_law_due ["_law_thing"] (defScope s_law_due) := ⟨rfl, rfl, rfl, by decide +kernel, rfl, by decide +kernel, by decide +kernel⟩
def sp_law_due : VSp := fun ds S Q => match ds with
  | [d] => fine d ∧ Q (.bl (progB d)) S
  | _ => False
theorem ok_law_due (T : Tx K w mg) : DefV P w K mg base 6 "_law_due" ["_law_thing"] sp_law_due := by
  refine DefV.mk' T.f_law_due sc_law_due (fun _ _ _ _ _ _ us hl => match us, hl with | [_], _ => rfl) (fun f cdv A outer s H E hgd hr hcd => ⟨_, (s_cut (s_if (PW.pt (w_or (t_not (t_val (v_isi "tuple" (by decide) rfl T.b_isinstance (by decide +kernel) rfl T.b_tuple (by decide +kernel) (v_var 0)))) (w_or1 (t_not (t_chain ov_le ov_le v_int (v_callB cv_len rfl T.b_len (by decide +kernel) (a_cons (v_var 0) a_nil)) v_int))))) (s_one (s_ret v_bl)) s_nil)
      (s_one (s_ret (v_callB (cv_all rfl) rfl T.b_all (by decide +kernel) (a_cons (v_lc (c := (.one 1)) (own := [("_law_one_here", 1)]) recR_frz (by simp [CT.within]) rfl sc_law_due.nd (i_seq (v_var 0)) (blkOk_by (N := n_law_due) (sc := defScope s_law_due) (by decide +kernel)) (fun _ _ _ _ _ => (pg_name (i := 1) sc_law_due.nd rfl (by first | exact Or.inl rfl | exact Or.inr rfl))) (fun _ _ _ _ _ => ts_nil) (fun _ _ _ _ _ => (v_call (ok_law_def_right T) (hr.mono (by decide)) hgd rfl (a_cons (v_var 1) (a_cons (v_callB cv_len rfl T.b_len (by decide +kernel) (a_cons (v_var 0) a_nil)) a_nil))))) a_nil))))), ?_⟩)
  intro ds S Q hl h
  obtain ⟨d, rfl⟩ := len1 hl
  obtain ⟨fd, k⟩ := h
  have h3 := fin_same k
  refine mCut_of (fun ρ' S' => (∃ ps, d = .tup ps ∧ 1 ≤ ps.length ∧ ps.length ≤ 6) ∧ S' = S ∧ ∃ z1, ρ' = [some (d), z1]) ?_ (fun ρ3 S3 h => ?_)
  · cases d with
    | tup ds =>
      walk_at "VX"
      have no : (decide (1 ≤ ds.length) && decide (ds.length ≤ 6)) = false → VL.Fin Q (.bl false) S := fun z => by rw [prog_is, z, Bool.false_and] at h3; exact h3
      by_cases a1 : 1 ≤ ds.length
      · rw [if_pos (decide_eq_true (by omega))]
        by_cases a2 : ds.length ≤ 6
        · rw [if_neg (by simp; omega)]
          exact ⟨⟨ds, rfl, a1, a2⟩, _, rfl⟩
        · rw [if_pos (by simp; omega)]
          exact no (by rw [decide_eq_false a2]; simp)
      · rw [if_neg (by simp; omega)]
        exact no (by rw [decide_eq_false a1]; simp)
    | ref a => simp [fine, sml] at fd
    | _ => walk_at "VX"; exact h3
  obtain ⟨⟨ps, rfl, l1, l6⟩, rfl, z1, rfl⟩ := h
  obtain ⟨_, dok⟩ := fine_tup fd
  walk_at "VX"
  refine mLc_of ps (fun d => [.bl (defB d && callsB ps.length d)]) (kp := fun _ => True) (S1 := S3) (fun Qi h => ?_) (sz (by omega)) trivial (fun d hd J hJ => ?_) ?_
  · walk_at "VX"; exact h
  · simp?! only [sp_law_def_right]
    exact ⟨dok d hd, hJ⟩
  rw [flat_bl]
  simp?! only [rdR_lst, rdL_lst, bls_map]
  rw [all_id]
  rw [prog_is, decide_eq_true l1, decide_eq_true l6] at h3
  exact h3
abbrev s_parts_of : Stmt := top 20
abbrev n_parts_of : List Str := ["line", "part", "word", "rest", "other", "one"]
theorem sc_parts_of : FnScope n_parts_of ["line", "part"] (defScope s_parts_of) := ⟨rfl, rfl, rfl, by decide +kernel, rfl, by decide +kernel, by decide +kernel⟩
def sp_parts_of : VSp := fun ds S Q => match ds with
  | [.tup (.str w :: r), .str p] => (∃ es, lineTab.lookup w = some es ∧ es.length = r.length) ∧ Q (.lst (partsW w r p)) S
  | _ => False
def fPick (p : Str) (d : D) : List D := match d with
  | .tup [.str q, x] => if q = p then [x] else []
  | _ => []
theorem pick_flat {p : Str} : ∀ {es : List (Nat × Str)} {r : List D}, (zipD (strsOf es) r).flatMap (fPick p) = pickL p es r
  | [], _ => by simp [zipD, strsOf, pickL]
  | _ :: _, [] => by simp [zipD, strsOf, pickL]
  | e :: es, d :: r => by
    have ih := pick_flat (p := p) (es := es) (r := r)
    simp only [zipD, strsOf, List.map_cons, List.zip_cons_cons, List.flatMap_cons] at ih ⊢
    rw [ih]
    simp only [fPick, pickL]
    split <;> rfl
theorem ok_parts_of (T : Tx K w mg) : DefV P w K mg base 1 "parts_of" ["line", "part"] sp_parts_of := by
  refine DefV.mk' T.f_parts_of sc_parts_of (fun _ _ _ _ _ _ us hl => match us, hl with | [_, _], _ => rfl) (fun f cdv A outer s H E hgd hr hcd => ⟨_, (s_cons (s_star (i := 2) (j := 3) (v_var 0) (pg_star rfl (pg_name (i := 2) sc_parts_of.nd rfl (by first | exact Or.inl rfl | exact Or.inr rfl)) (pg_name (i := 3) sc_parts_of.nd rfl (by first | exact Or.inl rfl | exact Or.inr rfl))))
      (s_one (s_ret (v_lc (c := (.many [4, 5])) (own := [("other", 4), ("one", 5)]) recR_frz (by simp [CT.within]) rfl sc_parts_of.nd (i_zip rfl T.b_zip (v_ksub rfl (T.c_PARTS) (v_var 2)) (v_var 3)) (blkOk_by (N := n_parts_of) (sc := defScope s_parts_of) (by decide +kernel)) (fun _ _ _ _ _ => (pg_tup rfl (pgs_cons (pg_name (i := 4) sc_parts_of.nd rfl (by first | exact Or.inl rfl | exact Or.inr rfl)) (pgs_cons (pg_name (i := 5) sc_parts_of.nd rfl (by first | exact Or.inl rfl | exact Or.inr rfl)) pgs_nil)))) (fun _ _ _ _ _ => (ts_one (t_cmp (ov_eq hr.units) (v_var 4) (v_var 1)))) (fun _ _ _ _ _ => (v_var 5)))))), ?_⟩)
  intro ds S Q hl h
  unfold sp_parts_of at h
  split at h
  · rename_i w r p
    obtain ⟨⟨es, he, len⟩, k⟩ := h
    have tok := table_ok _ (look_mem he)
    have hr : r.length ≤ 3 := by have : es.length ≤ 3 := tok.2; omega
    simp?! only [parts_look, he, Option.map_some]
    refine ⟨by omega, ?_⟩
    refine mLc_of (zipD (strsOf es) r) (fPick p) (kp := fun _ => True) (S1 := S) (fun Qi h => ?_) ?_ trivial (fun d hd J hJ => ?_) ?_
    · simp?! only [parts_look, he, Option.map_some]; exact h
    · refine Nat.le_trans (?_ : _ ≤ 1000) (by decide)
      simp only [zipD, List.length_map, List.length_zip]; omega
    · obtain ⟨q, x, rfl, hx⟩ := zip_mem hd
      walk_at "VX"
      by_cases e : q = p
      · subst e
        simp only [fPick, if_true] at hJ
        rw [if_pos (by simp)]
        exact hJ
      · simp only [fPick, e, if_false] at hJ
        rw [if_neg (by simpa using e)]
        exact hJ
    · rw [pick_flat]
      have : partsW w r p = pickL p es r := by unfold partsW; rw [he]; rfl
      rw [← this]
      exact fin_same k
  · exact h.elim
abbrev s_are_signs : Stmt := top 27
abbrev n_are_signs : List Str := ["thing", "many", "sign"]
theorem sc_are_signs : FnScope n_are_signs ["thing", "many"] (defScope s_are_signs) := ⟨rfl, rfl, rfl, by decide +kernel, rfl, by decide +kernel, by decide +kernel⟩
def sp_are_signs : VSp := fun ds S Q => match ds with
  | [d, .int m] => tyn d S ≠ "?" ∧ short d = true ∧ Q (.bl (signsB d m)) S
  | _ => False
def fSign (d : D) : List D := match d with
  | .str ⟨#[c]⟩ => [.bl (decide (c ∈ [110, 98, 45]))]
  | _ => [.bl false]
theorem sign_flat : ∀ cs : List Nat, (cs.map fun c => D.str ⟨#[c]⟩).flatMap fSign = (cs.map fun c => decide (c ∈ [110, 98, 45])).map D.bl
  | [] => rfl
  | c :: cs => by
    rw [List.map_cons, List.flatMap_cons, sign_flat cs, List.map_cons, List.map_cons]
    rfl
theorem ok_are_signs (T : Tx K w mg) : DefV P w K mg base 1 "are_signs" ["thing", "many"] sp_are_signs := by
  refine DefV.mk' T.f_are_signs sc_are_signs (fun _ _ _ _ _ _ us hl => match us, hl with | [_, _], _ => rfl) (fun f cdv A outer s H E hgd hr hcd => ⟨_, (s_one (s_ret (v_and (v_isi "str" (by decide) rfl T.b_isinstance (by decide +kernel) rfl T.b_str (by decide +kernel) (v_var 0)) (v_and (v_cmp (ov_eq hr.units) (v_callB cv_len rfl T.b_len (by decide +kernel) (a_cons (v_var 0) a_nil)) (v_var 1)) (v_one (v_callB (cv_all rfl) rfl T.b_all (by decide +kernel) (a_cons (v_lc (c := (.one 2)) (own := [("sign", 2)]) recR_frz (by simp [CT.within]) rfl sc_are_signs.nd (i_str (v_var 0)) (blkOk_by (N := n_are_signs) (sc := defScope s_are_signs) (by decide +kernel)) (fun _ _ _ _ _ => (pg_name (i := 2) sc_are_signs.nd rfl (by first | exact Or.inl rfl | exact Or.inr rfl))) (fun _ _ _ _ _ => ts_nil) (fun _ _ _ _ _ => (v_cmp ov_in (v_var 2) (v_gstr rfl T.c_SIGNS)))) a_nil))))))), ?_⟩)
  intro ds S Q hl h
  unfold sp_are_signs at h
  split at h
  · rename_i d m
    obtain ⟨h1, h2, h3⟩ := h
    have h3 := fin_same h3
    cases d with
    | str s =>
      have hs : s.length < 1000 := by simpa only [short, decide_eq_true_eq] using h2
      walk_at "VX"
      refine ⟨sz (by omega), ?_⟩
      by_cases e : (s.length : Int) = m
      · have eq : signsB (.str s) m = s.cps.toList.all fun c => decide (c ∈ [110, 98, 45]) := by simp only [signsB, e, decide_true, Bool.true_and]
        rw [eq] at h3
        rw [if_pos (by simpa using e)]
        refine mLc_of (sgnD s) fSign (kp := fun _ => True) (S1 := S) (fun Qi h => ?_) (by rw [sgn_len]; exact sz (by omega)) trivial (fun d hd J hJ => ?_) ?_
        · walk_at "VX"; exact h
        · obtain ⟨c, hc, rfl⟩ := List.mem_map.mp hd
          simp?! only [nb_cps]
          exact hJ
        · rw [show (sgnD s).flatMap fSign = _ from sign_flat s.cps.toList]
          simp?! only [rdR_lst, rdL_lst, bls_map]
          rw [List.all_map]
          exact h3
      · have eq : signsB (.str s) m = false := by simp only [signsB, e, decide_false, Bool.false_and]
        rw [eq] at h3
        rw [if_neg (by simpa using e)]
        exact h3
    | ref a =>
      rcases tyn_ref a S with e | e | e
      · simp?! only [e]; exact h3
      · simp?! only [e]; exact h3
      · exact absurd e h1
    | _ => walk_at "VX"; exact h3
  · exact h.elim
abbrev s_is_whole : Stmt := top 3
abbrev n_is_whole : List Str := ["thing"]
theorem sc_is_whole : FnScope n_is_whole ["thing"] (defScope s_is_whole) := ⟨rfl, rfl, rfl, by decide +kernel, rfl, by decide +kernel, by decide +kernel⟩
def sp_is_whole : VSp := fun ds S Q => match ds with
  | [d] => tyn d S ≠ "?" ∧ Q (.bl (isWhole d)) S
  | _ => False
theorem ok_is_whole (T : Tx K w mg) : DefV P w K mg base 1 "is_whole" ["thing"] sp_is_whole := by
  refine DefV.mk' T.f_is_whole sc_is_whole (fun _ _ _ _ _ _ us hl => match us, hl with | [_], _ => rfl) (fun f cdv A outer s H E hgd hr hcd => ⟨_, (s_one (s_ret (v_and (v_isi "int" (by decide) rfl T.b_isinstance (by decide +kernel) rfl T.b_int (by decide +kernel) (v_var 0)) (v_one (v_not (v_isi "bool" (by decide) rfl T.b_isinstance (by decide +kernel) rfl T.b_bool (by decide +kernel) (v_var 0))))))), ?_⟩)
  intro ds S Q hl h
  obtain ⟨d, rfl⟩ := len1 hl
  obtain ⟨h1, h2⟩ := h
  cases d with
  | ref a =>
    simp only [mRet, mAndV, mIsi, mVar, startD, gv, List.map_cons, List.map_nil, List.cons_append]
    refine ⟨h1, ?_⟩
    rcases tyn_ref a S with e | e | e <;> simp_all [isT, isWhole, fin_same]
  | _ => walk_at "VX"; simp_all [isT, isWhole, fin_same]
abbrev s_is_within : Stmt := top 4
abbrev n_is_within : List Str := ["thing", "least", "most"]
theorem sc_is_within : FnScope n_is_within ["thing", "least", "most"] (defScope s_is_within) := ⟨rfl, rfl, rfl, by decide +kernel, rfl, by decide +kernel, by decide +kernel⟩
def sp_is_within : VSp := fun ds S Q => match ds with
  | [d, .int a, .int b] => tyn d S ≠ "?" ∧ Q (.bl (isWithin d a b)) S
  | _ => False
theorem ok_is_within (T : Tx K w mg) : DefV P w K mg base 2 "is_within" ["thing", "least", "most"] sp_is_within := by
  refine DefV.mk' T.f_is_within sc_is_within (fun _ _ _ _ _ _ us hl => match us, hl with | [_, _, _], _ => rfl) (fun f cdv A outer s H E hgd hr hcd => ⟨_, (s_one (s_ret (v_and (v_call (ok_is_whole T) (hr.mono (by decide)) hgd rfl (a_cons (v_var 0) a_nil)) (v_one (v_chain ov_le ov_le (v_var 1) (v_var 0) (v_var 2)))))), ?_⟩)
  intro ds S Q hl h
  obtain ⟨d, x, y, rfl⟩ := len3 hl
  unfold sp_is_within at h
  split at h
  · rename_i d a b e
    cases e
    obtain ⟨h1, h2⟩ := h
    simp?! only [sp_is_whole]
    refine ⟨h1, ?_⟩
    have h3 := fin_same h2
    cases d <;> simp only [isWhole, isWithin, if_true, Bool.false_eq_true, if_false] at h3 ⊢ <;> try exact h3
    rename_i i
    by_cases h : a ≤ i
    · simp_all
    · have e : decide (a ≤ i) = false := decide_eq_false h
      rw [e] at h3 ⊢
      exact h3
  · exact h.elim
abbrev s_are_keeps : Stmt := top 28
abbrev n_are_keeps : List Str := ["thing", "one", "other", "peg"]
theorem sc_are_keeps : FnScope n_are_keeps ["thing"] (defScope s_are_keeps) := ⟨rfl, rfl, rfl, by decide +kernel, rfl, by decide +kernel, by decide +kernel⟩
def sp_are_keeps : VSp := fun ds S Q => match ds with
  | [d] => sml d = true ∧ short d = true ∧ Q (.bl (keepsB d)) S
  | _ => False
def fWith (a b : Int) (d : D) : List D := [.bl (isWithin d a b)]
theorem with_flat (a b : Int) : ∀ ds : List D, ds.flatMap (fWith a b) = (ds.map fun p => isWithin p a b).map D.bl
  | [] => rfl
  | d :: ds => by rw [List.flatMap_cons, with_flat a b ds]; rfl
def fLt (d : D) : List D := match d with
  | .tup [.int a, .int b] => [.bl (decide (a < b))]
  | _ => []
theorem rise_flat : ∀ {ds : List D}, (∀ d ∈ ds, isWhole d = true) → ∃ bs : List Bool, ((zipD ds (ds.drop 1)).flatMap fLt) = bs.map D.bl ∧ bs.all id = riseB ds
  | [], _ => ⟨[], rfl, rfl⟩
  | [a], _ => ⟨[], by simp [zipD], by cases a <;> rfl⟩
  | a :: b :: r, h => by
    obtain ⟨bs, h1, h2⟩ := rise_flat (ds := b :: r) (fun d hd => h d (List.mem_cons_of_mem _ hd))
    have ha := h a (by simp)
    have hb := h b (by simp)
    cases a <;> try (cases ha; done)
    cases b <;> try (cases hb; done)
    rename_i i j
    refine ⟨decide (i < j) :: bs, ?_, ?_⟩
    · simp only [zipD, List.drop_succ_cons, List.drop_zero, List.zip_cons_cons, List.map_cons, List.flatMap_cons] at h1 ⊢
      rw [h1]; rfl
    · simp only [List.all_cons, id, riseB, h2]
theorem within_whole {d : D} {a b : Int} (h : isWithin d a b = true) : isWhole d = true := by cases d <;> first | rfl | exact absurd h Bool.false_ne_true
theorem zip_drop {ds : List D} {d : D} (h : d ∈ zipD ds (ds.drop 1)) : ∃ a b, d = .tup [a, b] ∧ a ∈ ds ∧ b ∈ ds := by
  simp only [zipD, List.mem_map] at h
  obtain ⟨⟨a, b⟩, hm, rfl⟩ := h
  exact ⟨a, b, rfl, (List.of_mem_zip hm).1, List.mem_of_mem_drop (List.of_mem_zip hm).2⟩
theorem ok_are_keeps (T : Tx K w mg) : DefV P w K mg base 3 "are_keeps" ["thing"] sp_are_keeps := by
  refine DefV.mk' T.f_are_keeps sc_are_keeps (fun _ _ _ _ _ _ us hl => match us, hl with | [_], _ => rfl) (fun f cdv A outer s H E hgd hr hcd => ⟨_, (s_cons (s_if (PW.pt (w_or (t_not (t_val (v_isi "tuple" (by decide) rfl T.b_isinstance (by decide +kernel) rfl T.b_tuple (by decide +kernel) (v_var 0)))) (w_or1 (t_not (t_val (v_callB (cv_all rfl) rfl T.b_all (by decide +kernel) (a_cons (v_lc (c := (.one 3)) (own := [("peg", 3)]) recR_frz (by simp [CT.within]) rfl sc_are_keeps.nd (i_seq (v_var 0)) (blkOk_by (N := n_are_keeps) (sc := defScope s_are_keeps) (by decide +kernel)) (fun _ _ _ _ _ => (pg_name (i := 3) sc_are_keeps.nd rfl (by first | exact Or.inl rfl | exact Or.inr rfl))) (fun _ _ _ _ _ => ts_nil) (fun _ _ _ _ _ => (v_call (ok_is_within T) (hr.mono (by decide)) hgd rfl (a_cons (v_var 3) (a_cons v_int (a_cons (v_op ov_sub (v_gint rfl T.c_PEGS) v_int) a_nil)))))) a_nil))))))) (s_one (s_ret v_bl)) s_nil)
      (s_one (s_ret (v_callB (cv_all rfl) rfl T.b_all (by decide +kernel) (a_cons (v_lc (c := (.many [1, 2])) (own := [("one", 1), ("other", 2)]) recR_frz (by simp [CT.within]) rfl sc_are_keeps.nd (i_zip rfl T.b_zip (v_var 0) (v_slc (v_var 0) (o_some v_int) o_none)) (blkOk_by (N := n_are_keeps) (sc := defScope s_are_keeps) (by decide +kernel)) (fun _ _ _ _ _ => (pg_tup rfl (pgs_cons (pg_name (i := 1) sc_are_keeps.nd rfl (by first | exact Or.inl rfl | exact Or.inr rfl)) (pgs_cons (pg_name (i := 2) sc_are_keeps.nd rfl (by first | exact Or.inl rfl | exact Or.inr rfl)) pgs_nil)))) (fun _ _ _ _ _ => ts_nil) (fun _ _ _ _ _ => (v_cmp ov_lt (v_var 1) (v_var 2)))) a_nil))))), ?_⟩)
  intro ds S Q hl h
  unfold sp_are_keeps at h
  split at h
  · rename_i d
    obtain ⟨h1, h2, h3⟩ := h
    have h3 := fin_same h3
    have ty : tyn d S ≠ "?" := sml_tyn h1
    cases d with
    | tup ds =>
      obtain ⟨hl3, hsh⟩ := short_tup h2
      have hsm := sml_tup h1
      walk_at "VX"
      refine mLc_of ds (fWith 1 3) (kp := fun _ => True) (S1 := S) (fun Qi h => ?_) (sz (by omega)) trivial (fun d hd J hJ => ?_) ?_
      · walk_at "VX"; exact h
      · simp?! only [sp_is_within]
        exact ⟨sml_tyn (hsm d hd), hJ⟩
      · rw [with_flat]
        simp?! only [rdR_lst, rdL_lst, bls_map]
        rw [List.all_map]
        by_cases hw : ds.all (fun p => isWithin p 1 3) = true
        · have eq : keepsB (.tup ds) = riseB ds := by simp only [keepsB, hw, Bool.true_and]
          rw [eq] at h3
          rw [if_neg (by simpa using hw)]
          have wh : ∀ d ∈ ds, isWhole d = true := fun d hd => within_whole (List.all_eq_true.mp hw d hd)
          obtain ⟨bs, b1, b2⟩ := rise_flat wh
          refine mLc_of (zipD ds (ds.drop 1)) fLt (kp := fun _ => True) (S1 := S) (fun Qi h => ?_) (by rw [zip_len]; exact sz (by omega)) trivial (fun d hd J hJ => ?_) ?_
          · simp?! only [cut_tail]; exact h
          · obtain ⟨a, b, rfl, ha, hb⟩ := zip_drop hd
            have ha := wh a ha
            have hb := wh b hb
            cases a <;> try (cases ha; done)
            cases b <;> try (cases hb; done)
            walk_at "VX"
            exact hJ
          · rw [b1]
            simp?! only [rdR_lst, rdL_lst, bls_map]
            rw [b2]; exact h3
        · have eq : keepsB (.tup ds) = false := by simp only [keepsB, hw, Bool.false_and]
          rw [eq] at h3
          rw [if_pos (by simpa using hw)]
          exact h3
    | ref a => simp [sml] at h1
    | _ => walk_at "VX"; exact h3
  · exact h.elim
abbrev s_is_home : Stmt := top 5
abbrev n_is_home : List Str := ["thing"]
theorem sc_is_home : FnScope n_is_home ["thing"] (defScope s_is_home) := ⟨rfl, rfl, rfl, by decide +kernel, rfl, by decide +kernel, by decide +kernel⟩
def sp_is_home : VSp := fun ds S Q => match ds with
  | [d] => kindly S d ∧ Q (.bl (isHome d)) S
  | _ => False
theorem ok_is_home (T : Tx K w mg) : DefV P w K mg base 3 "is_home" ["thing"] sp_is_home := by
  refine DefV.mk' T.f_is_home sc_is_home (fun _ _ _ _ _ _ us hl => match us, hl with | [_], _ => rfl) (fun f cdv A outer s H E hgd hr hcd => ⟨_, (s_cons (s_if (PW.pt (w_or (t_not (t_val (v_isi "tuple" (by decide) rfl T.b_isinstance (by decide +kernel) rfl T.b_tuple (by decide +kernel) (v_var 0)))) (w_or1 (t_cmp (ov_ne hr.units) (v_callB cv_len rfl T.b_len (by decide +kernel) (a_cons (v_var 0) a_nil)) v_int)))) (s_one (s_ret v_bl)) s_nil)
      (s_cons (s_if (t_cmp (ov_eqS hr.units0) (v_sub (v_var 0) v_int) v_str) (s_one (s_ret (v_call (ok_is_within T) (hr.mono (by decide)) hgd rfl (a_cons (v_sub (v_var 0) v_int) (a_cons v_int (a_cons (v_op ov_sub (v_gint rfl T.c_PEGS) v_int) a_nil)))))) s_nil)
      (s_one (s_ret (v_and (v_cmp (ov_eqS hr.units0) (v_sub (v_var 0) v_int) v_str) (v_one (v_call (ok_is_within T) (hr.mono (by decide)) hgd rfl (a_cons (v_sub (v_var 0) v_int) (a_cons v_int (a_cons (v_op ov_sub (v_gint rfl T.c_BINS) v_int) a_nil)))))))))), ?_⟩)
  intro ds S Q hl h
  obtain ⟨d, rfl⟩ := len1 hl
  obtain ⟨h1, h2⟩ := h
  have h3 := fin_same h2
  cases d with
  | tup ds =>
    match ds, h1, h3 with
    | [], h1, h3 => walk_at "VX"; exact h3
    | [a], h1, h3 => walk_at "VX"; simpa [isHome] using h3
    | a :: b :: c :: r, h1, h3 =>
      walk_at "VX"
      rw [if_pos (by simp; omega)]
      simpa [isHome] using h3
    | [a, b], h1, h3 =>
      obtain ⟨ha, hna⟩ := h1 a (by simp)
      obtain ⟨hb, hnb⟩ := h1 b (by simp)
      simp?! only [sp_is_within]
      refine ⟨hna, ?_⟩
      cases a with
      | str z =>
        walk_at "VX"
        by_cases e1 : z = Str.ofString "peg"
        · subst e1
          walk_at "VX"
          refine ⟨hb, ?_⟩
          cases b <;> simp_all [isHome, isWithin]
        · simp?! only [e1]
          by_cases e2 : z = Str.ofString "bin"
          · subst e2
            walk_at "VX"
            refine ⟨hb, ?_⟩
            cases b <;> simp_all [isHome, isWithin]
          · simp?! only [e2]
            cases b <;> simp_all [isHome, isWithin]
      | ref a =>
        simp only [isS, Bool.false_eq_true, if_false]
        exact ⟨hna, by cases b <;> exact h3⟩
      | _ => walk_at "VX"; cases b <;> exact h3
  | ref a =>
    rcases tyn_ref a S with e | e | e
    · simp?! only [e]; exact h3
    · simp?! only [e]; exact h3
    · exact absurd e h1
  | _ => walk_at "VX"; exact h3
abbrev s_is_part : Stmt := top 18
abbrev n_is_part : List Str := ["part", "thing"]
theorem sc_is_part : FnScope n_is_part ["part", "thing"] (defScope s_is_part) := ⟨rfl, rfl, rfl, by decide +kernel, rfl, by decide +kernel, by decide +kernel⟩
def sp_is_part : VSp := fun ds S Q => match ds with
  | [.str p, d] => sml d = true ∧ Q (.bl (partB p d)) S
  | _ => False
theorem ok_is_part (T : Tx K w mg) : DefV P w K mg base 4 "is_part" ["part", "thing"] sp_is_part := by
  refine DefV.mk' T.f_is_part sc_is_part (fun _ _ _ _ _ _ us hl => match us, hl with | [_, _], _ => rfl) (fun f cdv A outer s H E hgd hr hcd => ⟨_, (s_cons (s_if (t_cmp ov_in (v_var 0) (v_tup (a_cons (v_gstr rfl T.c_WRITTEN) (a_cons (v_gstr rfl T.c_READ) a_nil)))) (s_one (s_ret (v_call (ok_is_home T) (hr.mono (by decide)) hgd rfl (a_cons (v_var 1) a_nil)))) s_nil)
      (s_cons (s_if (t_cmp (ov_eq hr.units) (v_var 0) (v_gstr rfl T.c_NUMBER)) (s_one (s_ret (v_call (ok_is_whole T) (hr.mono (by decide)) hgd rfl (a_cons (v_var 1) a_nil)))) s_nil)
      (s_cons (s_if (t_cmp (ov_eq hr.units) (v_var 0) (v_gstr rfl T.c_FEW)) (s_one (s_ret (v_call (ok_is_within T) (hr.mono (by decide)) hgd rfl (a_cons (v_var 1) (a_cons v_int (a_cons (v_gint rfl T.c_MOST_OF_A_BOX) a_nil)))))) s_nil)
      (s_cons (s_if (t_cmp (ov_eq hr.units) (v_var 0) (v_gstr rfl T.c_FIELD)) (s_one (s_ret (v_call (ok_is_within T) (hr.mono (by decide)) hgd rfl (a_cons (v_var 1) (a_cons v_int (a_cons (v_gint rfl T.c_LAST_FIELD) a_nil)))))) s_nil)
      (s_one (s_ret (v_and (v_call (ok_is_whole T) (hr.mono (by decide)) hgd rfl (a_cons (v_var 1) a_nil)) (v_one (v_cmp ov_ge (v_var 1) v_int))))))))), ?_⟩)
  intro ds S Q hl h
  unfold sp_is_part at h
  split at h
  · rename_i p d
    obtain ⟨h1, h2⟩ := h
    have h3 := fin_same h2
    have ty : tyn d S ≠ "?" := sml_tyn h1
    simp?! only [flatD, List.all_cons, List.all_nil, inF, List.any_cons, List.any_nil, eqF, sp_is_home, sp_is_whole, sp_is_within]
    have c : ∀ z : Str, (z == p) = decide (p = z) := fun z => by rw [Bool.beq_eq_decide_eq]; exact decide_eq_decide.mpr eq_comm
    simp only [c]
    unfold partB at h3
    by_cases e1 : p = "written" ∨ p = "read"
    · rw [if_pos e1] at h3; rw [if_pos (by simpa using e1)]; exact ⟨sml_kindly h1, h3⟩
    rw [if_neg e1] at h3; rw [if_neg (by simpa using e1)]
    by_cases e2 : p = "number"
    · rw [if_pos e2] at h3; rw [if_pos (by simpa using e2)]; exact ⟨ty, h3⟩
    rw [if_neg e2] at h3; rw [if_neg (by simpa using e2)]
    by_cases e4 : p = "few"
    · rw [if_pos e4] at h3; rw [if_pos (by simpa using e4)]; exact ⟨ty, h3⟩
    rw [if_neg e4] at h3; rw [if_neg (by simpa using e4)]
    by_cases e5 : p = "field"
    · rw [if_pos e5] at h3; rw [if_pos (by simpa using e5)]; exact ⟨ty, h3⟩
    rw [if_neg e5] at h3; rw [if_neg (by simpa using e5)]
    refine ⟨ty, ?_⟩
    cases d <;> exact h3
  · exact h.elim
abbrev s_is_line : Stmt := top 19
abbrev n_is_line : List Str := ["thing", "parts", "word", "rest", "part", "one"]
theorem sc_is_line : FnScope n_is_line ["thing"] (defScope s_is_line) := ⟨rfl, rfl, rfl, by decide +kernel, rfl, by decide +kernel, by decide +kernel⟩
def sp_is_line : VSp := fun ds S Q => match ds with
  | [d] => sml d = true ∧ (∀ es, d = .tup es → es.length < 1000) ∧ Q (.bl (lineD d)) S
  | _ => False
theorem ok_is_line (T : Tx K w mg) : DefV P w K mg base 5 "is_line" ["thing"] sp_is_line := by
  refine DefV.mk' T.f_is_line sc_is_line (fun _ _ _ _ _ _ us hl => match us, hl with | [_], _ => rfl) (fun f cdv A outer s H E hgd hr hcd => ⟨_, (s_cons (s_if (PW.pt (w_or (t_not (t_val (v_isi "tuple" (by decide) rfl T.b_isinstance (by decide +kernel) rfl T.b_tuple (by decide +kernel) (v_var 0)))) (w_or (t_cmp (ov_eqT0 hr.units0) (v_var 0) (v_tup a_nil)) (w_or (t_not (t_val (v_isi "str" (by decide) rfl T.b_isinstance (by decide +kernel) rfl T.b_str (by decide +kernel) (v_sub (v_var 0) v_int)))) (w_or1 (t_knotin rfl (T.c_PARTS) (v_sub (v_var 0) v_int))))))) (s_one (s_ret v_bl)) s_nil)
      (s_cons (s_star (i := 2) (j := 3) (v_var 0) (pg_star rfl (pg_name (i := 2) sc_is_line.nd rfl (by first | exact Or.inl rfl | exact Or.inr rfl)) (pg_name (i := 3) sc_is_line.nd rfl (by first | exact Or.inl rfl | exact Or.inr rfl))))
      (s_cons (s_set 1 sc_is_line.nd rfl (by first | exact Or.inl rfl | exact Or.inr rfl) (v_ksub rfl (T.c_PARTS) (v_var 2)))
      (s_one (s_ret (v_and (v_cmp (ov_eq hr.units) (v_callB cv_len rfl T.b_len (by decide +kernel) (a_cons (v_var 1) a_nil)) (v_callB cv_len rfl T.b_len (by decide +kernel) (a_cons (v_var 3) a_nil))) (v_one (v_callB (cv_all rfl) rfl T.b_all (by decide +kernel) (a_cons (v_lc (c := (.many [4, 5])) (own := [("part", 4), ("one", 5)]) recR_frz (by simp [CT.within]) rfl sc_is_line.nd (i_zip rfl T.b_zip (v_var 1) (v_var 3)) (blkOk_by (N := n_is_line) (sc := defScope s_is_line) (by decide +kernel)) (fun _ _ _ _ _ => (pg_tup rfl (pgs_cons (pg_name (i := 4) sc_is_line.nd rfl (by first | exact Or.inl rfl | exact Or.inr rfl)) (pgs_cons (pg_name (i := 5) sc_is_line.nd rfl (by first | exact Or.inl rfl | exact Or.inr rfl)) pgs_nil)))) (fun _ _ _ _ _ => ts_nil) (fun _ _ _ _ _ => (v_call (ok_is_part T) (hr.mono (by decide)) hgd rfl (a_cons (v_var 4) (a_cons (v_var 5) a_nil))))) a_nil))))))))), ?_⟩)
  intro ds S Q hl h
  obtain ⟨d, rfl⟩ := len1 hl
  obtain ⟨h1, hlen, h2⟩ := h
  have h3 := fin_same h2
  have ty : tyn d S ≠ "?" := sml_tyn h1
  cases d with
  | tup ds =>
    match ds, h1, h3, hlen with
    | [], h1, h3, _ => walk_at "VX"; exact h3
    | a :: r, h1, h3, hlen =>
      have hr1 : (a :: r).length < 1000 := hlen _ rfl
      have hsm : smlL (a :: r) = true := by simpa only [sml] using h1
      have ha : sml a = true := smlL_mem hsm (by simp)
      walk_at "VX"
      rw [if_neg (by simp)]
      refine ⟨sml_tyn ha, ?_⟩
      cases a with
      | str z =>
        simp?! only [parts_look]
        cases e : lineTab.lookup z with
        | none =>
          have : lineD (.tup (.str z :: r)) = false := by simp only [lineD, e]
          rw [this] at h3
          simp?! only [Option.map_none, Option.isSome_none]
          exact h3
        | some es =>
          have hl3 : lineD (.tup (.str z :: r)) = fitsAll es r := by simp only [lineD, e]
          have tok := table_ok _ (look_mem e)
          rw [hl3] at h3
          simp?! only [Option.map_some, Option.isSome_some]
          refine ⟨by simp at hr1; omega, ?_⟩
          by_cases le : es.length = r.length
          · have le2 : (((strsOf es).length : Nat) : Int) = ((r.length : Nat) : Int) := by simp only [strsOf, List.length_map]; omega
            rw [if_pos (decide_eq_true le2)]
            refine mLc_of (zipD (strsOf es) r) fP (kp := fun _ => True) (S1 := S) (fun Qi h => ?_) ?_ trivial (fun d hd J hJ => ?_) ?_
            · walk_at "VX"; exact h
            · refine Nat.le_trans (?_ : _ ≤ 1000) (by decide)
              simp only [zipD, List.length_map, List.length_zip]
              simp at hr1
              omega
            · obtain ⟨p, x, rfl, hx⟩ := zip_mem hd
              simp?! only [sp_is_part]
              exact ⟨smlL_mem hsm (List.mem_cons_of_mem _ hx), hJ⟩
            · obtain ⟨bs, b1, b2⟩ := parts_bls le tok.1
              simp?! only [b1, b2]
              exact h3
          · have le2 : ¬ (((strsOf es).length : Nat) : Int) = ((r.length : Nat) : Int) := by simp only [strsOf, List.length_map]; omega
            rw [if_neg (by simpa using le2)]
            rw [fits_len le] at h3
            exact h3
      | ref a => simp [sml] at ha
      | _ => walk_at "VX"; exact h3
  | ref a => simp [sml] at h1
  | _ => walk_at "VX"; exact h3
abbrev s_are_lines : Stmt := top 29
abbrev n_are_lines : List Str := ["thing", "one"]
theorem sc_are_lines : FnScope n_are_lines ["thing"] (defScope s_are_lines) := ⟨rfl, rfl, rfl, by decide +kernel, rfl, by decide +kernel, by decide +kernel⟩
def sp_are_lines : VSp := fun ds S Q => match ds with
  | [d] => sml d = true ∧ short d = true ∧ Q (.bl (linesB d)) S
  | _ => False
def fLine (d : D) : List D := [.bl (lineD d)]
theorem line_flat : ∀ ds : List D, ds.flatMap fLine = (ds.map lineD).map D.bl
  | [] => rfl
  | d :: ds => by rw [List.flatMap_cons, line_flat ds]; rfl
theorem ok_are_lines (T : Tx K w mg) : DefV P w K mg base 6 "are_lines" ["thing"] sp_are_lines := by
  refine DefV.mk' T.f_are_lines sc_are_lines (fun _ _ _ _ _ _ us hl => match us, hl with | [_], _ => rfl) (fun f cdv A outer s H E hgd hr hcd => ⟨_, (s_one (s_ret (v_and (v_isi "tuple" (by decide) rfl T.b_isinstance (by decide +kernel) rfl T.b_tuple (by decide +kernel) (v_var 0)) (v_and (v_chain ov_le ov_le v_int (v_callB cv_len rfl T.b_len (by decide +kernel) (a_cons (v_var 0) a_nil)) (v_gint rfl T.c_MOST_LINES)) (v_one (v_callB (cv_all rfl) rfl T.b_all (by decide +kernel) (a_cons (v_lc (c := (.one 1)) (own := [("one", 1)]) recR_frz (by simp [CT.within]) rfl sc_are_lines.nd (i_seq (v_var 0)) (blkOk_by (N := n_are_lines) (sc := defScope s_are_lines) (by decide +kernel)) (fun _ _ _ _ _ => (pg_name (i := 1) sc_are_lines.nd rfl (by first | exact Or.inl rfl | exact Or.inr rfl))) (fun _ _ _ _ _ => ts_nil) (fun _ _ _ _ _ => (v_call (ok_is_line T) (hr.mono (by decide)) hgd rfl (a_cons (v_var 1) a_nil)))) a_nil))))))), ?_⟩)
  intro ds S Q hl h
  unfold sp_are_lines at h
  split at h
  · rename_i d
    obtain ⟨h1, h2, h3⟩ := h
    have h3 := fin_same h3
    cases d with
    | tup ds =>
      obtain ⟨hl3, hsh⟩ := short_tup h2
      have hsm := sml_tup h1
      walk_at "VX"
      have e0 : ∀ a b : Bool, decide ((1 : Int) ≤ (ds.length : Int)) = decide (1 ≤ ds.length) := fun _ _ => decide_eq_decide.mpr (by omega)
      have e1 : decide ((ds.length : Int) ≤ 24) = decide (ds.length ≤ 24) := decide_eq_decide.mpr (by omega)
      simp only [e0 true true, e1]
      by_cases hn : (decide (1 ≤ ds.length) && decide (ds.length ≤ 24)) = true
      · have eq : linesB (.tup ds) = ds.all lineD := by simp only [linesB, hn, Bool.true_and]
        rw [eq] at h3
        simp only [Bool.and_eq_true] at hn
        rw [if_pos hn.1, if_pos hn.2]
        refine mLc_of ds fLine (kp := fun _ => True) (S1 := S) (fun Qi h => ?_) (sz (by omega)) trivial (fun d hd J hJ => ?_) ?_
        · walk_at "VX"; exact h
        · simp?! only [sp_is_line]
          exact ⟨hsm d hd, fun es e => by subst e; exact (short_tup (hsh _ hd)).1, hJ⟩
        · rw [line_flat]
          simp?! only [rdR_lst, rdL_lst, bls_map]
          rw [List.all_map]
          exact h3
      · have eq : linesB (.tup ds) = false := by simp only [linesB, hn, Bool.false_and]
        rw [eq] at h3
        by_cases h4 : decide (1 ≤ ds.length) = true
        · have h5 : ¬ decide (ds.length ≤ 24) = true := fun z => hn (by rw [h4, z]; rfl)
          rw [if_pos h4, if_neg h5]; exact h3
        · rw [if_neg h4]; exact h3
    | ref a => simp [sml] at h1
    | _ => walk_at "VX"; exact h3
  · exact h.elim
abbrev s_next_lines : Stmt := top 22
abbrev n_next_lines : List Str := ["line", "at"]
theorem sc_next_lines : FnScope n_next_lines ["line", "at"] (defScope s_next_lines) := ⟨rfl, rfl, rfl, by decide +kernel, rfl, by decide +kernel, by decide +kernel⟩
def sp_next_lines : VSp := fun ds S Q => match ds with
  | [.tup (.str w :: ps), .int at_] => ∃ ns, nextN w ps at_ = some ns ∧ Q (.lst (ns.map D.int)) S
  | _ => False
theorem ok_next_lines (T : Tx K w mg) : DefV P w K mg base 1 "next_lines" ["line", "at"] sp_next_lines := by
  refine DefV.mk' T.f_next_lines sc_next_lines (fun _ _ _ _ _ _ us hl => match us, hl with | [_, _], _ => rfl) (fun f cdv A outer s H E hgd hr hcd => ⟨_, (s_cons (s_if (t_cmp (ov_eqS hr.units0) (v_sub (v_var 0) v_int) v_str) (s_one (s_ret (v_lst a_nil))) s_nil)
      (s_cons (s_if (t_cmp (ov_eqS hr.units0) (v_sub (v_var 0) v_int) v_str) (s_one (s_ret (v_lst (a_cons (v_sub (v_var 0) v_int) a_nil)))) s_nil)
      (s_cons (s_if (t_cmp ov_in (v_sub (v_var 0) v_int) (v_gtup rfl T.c_CHOOSING)) (s_one (s_ret (v_sort2 rfl (kds_codeIn hcd) rfl T.b_sorted (v_op ov_add (v_var 1) v_int) (v_sub (v_var 0) (v_neg v_int))))) s_nil)
      (s_one (s_ret (v_lst (a_cons (v_op ov_add (v_var 1) v_int) a_nil))))))), ?_⟩)
  intro ds S Q hl h
  unfold sp_next_lines at h
  split at h
  · rename_i w ps at_
    obtain ⟨ns, hn, k⟩ := h
    have k' := fin_same k
    simp?! only [flatD, List.all_cons, List.all_nil, inF, List.any_cons, List.any_nil, eqF]
    have c : ∀ z : Str, (z == w) = decide (w = z) := fun z => by rw [Bool.beq_eq_decide_eq]; exact decide_eq_decide.mpr eq_comm
    simp only [c]
    unfold nextN at hn
    by_cases e1 : w = "back"
    · rw [if_pos e1] at hn; cases hn; rw [if_pos (decide_eq_true e1)]; exact k'
    rw [if_neg e1] at hn; rw [if_neg (by simpa using e1)]
    by_cases e2 : w = "go"
    · rw [if_pos e2] at hn; rw [if_pos (decide_eq_true e2)]
      split at hn
      · rename_i i r
        cases hn
        walk_at "VX"
        exact k'
      · cases hn
    rw [if_neg e2] at hn; rw [if_neg (by simpa using e2)]
    by_cases e3 : w = "if" ∨ w = "ifnone" ∨ w = "same"
    · rw [if_pos e3] at hn; rw [if_pos (by simpa using e3)]
      split at hn
      · rename_i i el
        cases hn
        rw [atI_end el]
        exact fin_frz k
      · cases hn
    · rw [if_neg e3] at hn; cases hn; rw [if_neg (by simpa using e3)]; exact k'
  · exact h.elim
abbrev s_stays_within : Stmt := top 30
abbrev n_stays_within : List Str := ["line", "at", "many", "other"]
theorem sc_stays_within : FnScope n_stays_within ["line", "at", "many"] (defScope s_stays_within) := ⟨rfl, rfl, rfl, by decide +kernel, rfl, by decide +kernel, by decide +kernel⟩
def sp_stays_within : VSp := fun ds S Q => match ds with
  | [l, .int at_, .int many] => lineD l = true ∧ Q (.bl (stayB l at_ many)) S
  | _ => False
def fLess (many : Int) (d : D) : List D := [.bl (ltI many d)]
theorem less_flat (many : Int) : ∀ ds : List D, ds.flatMap (fLess many) = (ds.map (ltI many)).map D.bl
  | [] => rfl
  | d :: ds => by rw [List.flatMap_cons, less_flat many ds]; rfl
theorem goal_int {w : Str} {r : List D} {es : List (Nat × Str)} (he : lineTab.lookup w = some es) (hf : fitsAll es r = true) {p : Str} (hp : p = "goal" ∨ p = "called") {d : D} (h : d ∈ partsW w r p) : ∃ i : Int, d = .int i ∧ 0 ≤ i := by
  have := (parts_fit he hf h).1
  rcases hp with rfl | rfl
  · exact isFrom_ex this
  · exact isFrom_ex this
theorem ok_stays_within (T : Tx K w mg) : DefV P w K mg base 2 "stays_within" ["line", "at", "many"] sp_stays_within := by
  refine DefV.mk' T.f_stays_within sc_stays_within (fun _ _ _ _ _ _ us hl => match us, hl with | [_, _, _], _ => rfl) (fun f cdv A outer s H E hgd hr hcd => ⟨_, (s_one (s_ret (v_callB (cv_all rfl) rfl T.b_all (by decide +kernel) (a_cons (v_lc (c := (.one 3)) (own := [("other", 3)]) recR_frz (by simp [CT.within]) rfl sc_stays_within.nd (i_seq (v_op ov_add (v_call (ok_next_lines T) (hr.mono (by decide)) hgd rfl (a_cons (v_var 0) (a_cons (v_var 1) a_nil))) (v_call (ok_parts_of T) (hr.mono (by decide)) hgd rfl (a_cons (v_var 0) (a_cons (v_gstr rfl T.c_GOAL) a_nil))))) (blkOk_by (N := n_stays_within) (sc := defScope s_stays_within) (by decide +kernel)) (fun _ _ _ _ _ => (pg_name (i := 3) sc_stays_within.nd rfl (by first | exact Or.inl rfl | exact Or.inr rfl))) (fun _ _ _ _ _ => ts_nil) (fun _ _ _ _ _ => (v_cmp ov_lt (v_var 3) (v_var 2)))) a_nil)))), ?_⟩)
  intro ds S Q hl h
  unfold sp_stays_within at h
  split at h
  · rename_i l at_ many
    obtain ⟨h1, h3⟩ := h
    have h3 := fin_same h3
    obtain ⟨w, r, es, rfl, he, hf⟩ := lineD_ex h1
    obtain ⟨ns, hn, hnl, _⟩ := next_ex he hf at_
    have eq : stayB (.tup (.str w :: r)) at_ many = (ns.map D.int ++ partsW w r "goal").all (ltI many) := by simp only [stayB, hn]
    rw [eq] at h3
    simp?! only [sp_next_lines, sp_parts_of]
    refine mLc_of (ns.map D.int ++ partsW w r "goal") (fLess many) (kp := fun _ => True) (S1 := S) (fun Qi h => ?_) ?_ trivial (fun d hd J hJ => ?_) ?_
    · simp?! only [sp_next_lines, sp_parts_of]
      exact ⟨ns, hn, ⟨es, he, fits_length hf⟩, sz (by rw [List.length_map]; have := partsW_len w r "goal"; omega), h⟩
    · rw [List.length_append, List.length_map]
      exact sz (by have := partsW_len w r "goal"; omega)
    · have : ∃ i : Int, d = .int i := by
        rcases List.mem_append.mp hd with h | h
        · obtain ⟨i, _, rfl⟩ := List.mem_map.mp h; exact ⟨i, rfl⟩
        · obtain ⟨i, rfl, _⟩ := goal_int he hf (.inl rfl) h; exact ⟨i, rfl⟩
      obtain ⟨i, rfl⟩ := this
      walk_at "VX"
      exact hJ
    · rw [less_flat]
      simp?! only [rdR_lst, rdL_lst, bls_map]
      rw [List.all_map]
      exact h3
  · exact h.elim
abbrev s_writes : Stmt := top 21
abbrev n_writes : List Str := ["line"]
theorem sc_writes : FnScope n_writes ["line"] (defScope s_writes) := ⟨rfl, rfl, rfl, by decide +kernel, rfl, by decide +kernel, by decide +kernel⟩
def sp_writes : VSp := fun ds S Q => match ds with
  | [.tup (.str w :: r)] => (∃ es, lineTab.lookup w = some es ∧ es.length = r.length) ∧ Q (.lst (writesW w r)) S
  | _ => False
theorem ok_writes (T : Tx K w mg) : DefV P w K mg base 2 "writes" ["line"] sp_writes := by
  refine DefV.mk' T.f_writes sc_writes (fun _ _ _ _ _ _ us hl => match us, hl with | [_], _ => rfl) (fun f cdv A outer s H E hgd hr hcd => ⟨_, (s_cons (s_if (t_cmp (ov_eqS hr.units0) (v_sub (v_var 0) v_int) v_str) (s_one (s_ret (v_lst (a_cons (v_tup (a_cons v_str (a_cons v_int a_nil))) a_nil)))) s_nil)
      (s_one (s_ret (v_call (ok_parts_of T) (hr.mono (by decide)) hgd rfl (a_cons (v_var 0) (a_cons (v_gstr rfl T.c_WRITTEN) a_nil)))))), ?_⟩)
  intro ds S Q hl h
  unfold sp_writes at h
  split at h
  · rename_i w r
    obtain ⟨he, h3⟩ := h
    have h3 := fin_same h3
    simp?! only [sp_parts_of]
    unfold writesW at h3
    by_cases e : w = "call"
    · rw [if_pos e] at h3; rw [if_pos (by simpa using e)]; exact h3
    · rw [if_neg e] at h3; rw [if_neg (by simpa using e)]; exact ⟨he, h3⟩
  · exact h.elim
abbrev s_has_own_homes : Stmt := top 31
abbrev n_has_own_homes : List Str := ["line", "keeps", "bins", "homes", "word", "k"]
theorem sc_has_own_homes : FnScope n_has_own_homes ["line", "keeps", "bins"] (defScope s_has_own_homes) := ⟨rfl, rfl, rfl, by decide +kernel, rfl, by decide +kernel, by decide +kernel⟩
def sp_has_own_homes : VSp := fun ds S Q => match ds with
  | [l, .tup ks, .int bins] => lineD l = true ∧ (∀ k ∈ ks, isWhole k = true) ∧ Q (.bl (ownB l ks bins)) S
  | _ => False
def fHome (x : Str) (g : D → Bool) (d : D) : List D := match d with
  | .tup [.str s, .int _] => if s = x then [.bl (g d)] else []
  | _ => []
theorem home_flat {x : Str} {g : D → Bool} (hg : ∀ s k, s ≠ x → g (.tup [.str s, .int k]) = true) : ∀ {ds : List D}, (∀ d ∈ ds, isHome d = true) → ∃ bs : List Bool, ds.flatMap (fHome x g) = bs.map D.bl ∧ bs.all id = ds.all g
  | [], _ => ⟨[], rfl, rfl⟩
  | d :: ds, h => by
    obtain ⟨bs, h1, h2⟩ := home_flat hg (ds := ds) (fun e he => h e (List.mem_cons_of_mem _ he))
    obtain ⟨b, k, rfl, _, _⟩ := isHome_ex (h d (by simp))
    generalize (if b then ("peg" : Str) else "bin") = s
    rw [List.flatMap_cons, h1]
    by_cases e : s = x
    · exact ⟨g (.tup [.str s, .int k]) :: bs, by simp [fHome, e], by simp [h2]⟩
    · exact ⟨bs, by simp [fHome, e], by simp [h2, hg s k e]⟩
theorem homes_of {w : Str} {r : List D} {es : List (Nat × Str)} (he : lineTab.lookup w = some es) (hf : fitsAll es r = true) {p : Str} (hp : p = "read" ∨ p = "written") {d : D} (h : d ∈ partsW w r p) : isHome d = true := by
  have := (parts_fit he hf h).1
  rcases hp with rfl | rfl
  · exact this
  · exact this
theorem flat_ints {ks : List D} (h : ∀ k ∈ ks, isWhole k = true) : ks.all flatD = true := List.all_eq_true.mpr fun k hk => by
  have := h k hk
  cases k <;> first | rfl | exact absurd this Bool.false_ne_true
theorem ok_has_own_homes (T : Tx K w mg) : DefV P w K mg base 3 "has_own_homes" ["line", "keeps", "bins"] sp_has_own_homes := by
  refine DefV.mk' T.f_has_own_homes sc_has_own_homes (fun _ _ _ _ _ _ us hl => match us, hl with | [_, _, _], _ => rfl) (fun f cdv A outer s H E hgd hr hcd => ⟨_, (s_cons (s_set 3 sc_has_own_homes.nd rfl (by first | exact Or.inl rfl | exact Or.inr rfl) (v_op ov_add (v_call (ok_parts_of T) (hr.mono (by decide)) hgd rfl (a_cons (v_var 0) (a_cons (v_gstr rfl T.c_READ) a_nil))) (v_call (ok_parts_of T) (hr.mono (by decide)) hgd rfl (a_cons (v_var 0) (a_cons (v_gstr rfl T.c_WRITTEN) a_nil)))))
      (s_cons (s_if (t_not (t_val (v_callB (cv_all rfl) rfl T.b_all (by decide +kernel) (a_cons (v_lc (c := (.many [4, 5])) (own := [("word", 4), ("k", 5)]) recR_frz (by simp [CT.within]) rfl sc_has_own_homes.nd (i_seq (v_var 3)) (blkOk_by (N := n_has_own_homes) (sc := defScope s_has_own_homes) (by decide +kernel)) (fun _ _ _ _ _ => (pg_tup rfl (pgs_cons (pg_name (i := 4) sc_has_own_homes.nd rfl (by first | exact Or.inl rfl | exact Or.inr rfl)) (pgs_cons (pg_name (i := 5) sc_has_own_homes.nd rfl (by first | exact Or.inl rfl | exact Or.inr rfl)) pgs_nil)))) (fun _ _ _ _ _ => (ts_one (t_cmp (ov_eqS hr.units0) (v_var 4) v_str))) (fun _ _ _ _ _ => (v_cmp ov_lt (v_var 5) (v_var 2)))) a_nil)))) (s_one (s_ret v_bl)) s_nil)
      (s_one (s_ret (v_callB (cv_all rfl) rfl T.b_all (by decide +kernel) (a_cons (v_lc (c := (.many [4, 5])) (own := [("word", 4), ("k", 5)]) recR_frz (by simp [CT.within]) rfl sc_has_own_homes.nd (i_seq (v_call (ok_writes T) (hr.mono (by decide)) hgd rfl (a_cons (v_var 0) a_nil))) (blkOk_by (N := n_has_own_homes) (sc := defScope s_has_own_homes) (by decide +kernel)) (fun _ _ _ _ _ => (pg_tup rfl (pgs_cons (pg_name (i := 4) sc_has_own_homes.nd rfl (by first | exact Or.inl rfl | exact Or.inr rfl)) (pgs_cons (pg_name (i := 5) sc_has_own_homes.nd rfl (by first | exact Or.inl rfl | exact Or.inr rfl)) pgs_nil)))) (fun _ _ _ _ _ => (ts_one (t_cmp (ov_eqS hr.units0) (v_var 4) v_str))) (fun _ _ _ _ _ => (v_or (v_cmp (ov_eq hr.units) (v_var 5) v_int) (v_one (v_cmp ov_in (v_var 5) (v_var 1)))))) a_nil)))))), ?_⟩)
  intro ds S Q hl h
  unfold sp_has_own_homes at h
  split at h
  · rename_i l ks bins
    obtain ⟨h1, hk, h3⟩ := h
    have h3 := fin_same h3
    obtain ⟨w, r, es, rfl, he, hf⟩ := lineD_ex h1
    have hes : ∃ es, lineTab.lookup w = some es ∧ es.length = r.length := ⟨es, he, fits_length hf⟩
    have l1 := partsW_len w r "read"
    have l2 := partsW_len w r "written"
    simp?! only [sp_parts_of]
    refine ⟨hes, hes, sz (by omega), ?_⟩
    have hh : ∀ d ∈ partsW w r "read" ++ partsW w r "written", isHome d = true := fun d hd => (List.mem_append.mp hd).elim (homes_of he hf (.inl rfl)) (homes_of he hf (.inr rfl))
    have hw : ∀ d ∈ writesW w r, isHome d = true := by
      intro d hd
      unfold writesW at hd
      split at hd
      · simp only [List.mem_cons, List.not_mem_nil, or_false] at hd; subst hd; decide +kernel
      · exact homes_of he hf (.inr rfl) hd
    have lw : (writesW w r).length ≤ 3 := by unfold writesW; split; exact Nat.le_trans (Nat.le_refl 1) (by decide); exact l2
    refine mLc_of (partsW w r "read" ++ partsW w r "written") (fHome "bin" (binIn bins)) (kp := fun _ => True) (S1 := S) (fun Qi h => ?_) (by rw [List.length_append]; exact sz (by omega)) trivial (fun d hd J hJ => ?_) ?_
    · walk_at "VX"; exact h
    · obtain ⟨b, k, rfl, k0, k1⟩ := isHome_ex (hh d hd)
      walk_at "VX"
      cases b with
      | true => rw [if_neg (by decide +kernel)]; exact hJ
      | false =>
        rw [if_pos (by decide +kernel)]
        simp only [fHome, Bool.false_eq_true, if_false, if_true, binIn, decide_true, Bool.not_true, Bool.false_or] at hJ
        exact hJ
    · obtain ⟨bs, b1, b2⟩ := home_flat (x := "bin") (g := binIn bins) (fun s k hs => by simp only [binIn, hs, decide_false, Bool.not_false, Bool.true_or]) hh
      rw [b1]
      simp?! only [rdR_lst, rdL_lst, bls_map]
      rw [b2]
      by_cases hb : (partsW w r "read" ++ partsW w r "written").all (binIn bins) = true
      · have eq : ownB (.tup (.str w :: r)) ks bins = (writesW w r).all (pegIn ks) := by simp only [ownB, hb, Bool.true_and]
        rw [eq] at h3
        rw [if_neg (by rw [hb]; decide)]
        refine mLc_of (writesW w r) (fHome "peg" (pegIn ks)) (kp := fun _ => True) (S1 := S) (fun Qi h => ?_) (sz (by omega)) trivial (fun d hd J hJ => ?_) ?_
        · simp?! only [sp_writes]; exact ⟨hes, h⟩
        · obtain ⟨b, k, rfl, k0, k1⟩ := isHome_ex (hw d hd)
          walk_at "VX"
          cases b with
          | false => rw [if_neg (by decide +kernel)]; exact hJ
          | true =>
            rw [if_pos (by decide +kernel)]
            simp only [fHome, if_true, pegIn, decide_true, Bool.not_true, Bool.false_or] at hJ
            by_cases k2 : k = 0
            · subst k2; exact hJ
            · rw [if_neg (by simpa using k2)]
              simp only [k2, decide_false, Bool.false_or] at hJ
              exact ⟨rfl, flat_ints hk, hJ⟩
        · obtain ⟨bs, b1, b2⟩ := home_flat (x := "peg") (g := pegIn ks) (fun s k hs => by simp only [pegIn, hs, decide_false, Bool.not_false, Bool.true_or]) hw
          rw [b1]
          simp?! only [rdR_lst, rdL_lst, bls_map]
          rw [b2]; exact h3
      · have eq : ownB (.tup (.str w :: r)) ks bins = false := by simp only [ownB, hb, Bool.false_and]
        rw [eq] at h3
        rw [if_pos (by rw [Bool.eq_false_iff.mpr hb]; rfl)]
        exact h3
  · exact h.elim
abbrev s_is_def : Stmt := top 32
abbrev n_is_def : List Str := ["thing", "many", "is_right", "takes", "gives", "keeps", "bins", "lines", "at", "line"]
theorem sc_is_def : FnScope n_is_def ["thing"] (defScope s_is_def) := ⟨rfl, rfl, rfl, by decide +kernel, rfl, by decide +kernel, by decide +kernel⟩
def sp_is_def : VSp := fun ds S Q => match ds with
  | [d] => sml d = true ∧ short d = true ∧ Q (.bl (defB d)) S
  | _ => False
def rightOf (ks : List D) (bins many : Int) (d : D) : List D := match d with
  | .tup [.int i, l] => [.bl (stayB l i many && ownB l ks bins)]
  | _ => []
theorem right_flat (ks : List D) (bins many : Int) : ∀ (ls : List D) (i : Nat), ∃ bs : List Bool, ((ls.zipIdx i).map fun p => D.tup [.int (p.2 : Nat), p.1]).flatMap (rightOf ks bins many) = bs.map D.bl ∧ bs.all id = rightB ks bins many i ls
  | [], i => ⟨[], rfl, rfl⟩
  | l :: ls, i => by
    obtain ⟨bs, h1, h2⟩ := right_flat ks bins many ls (i + 1)
    refine ⟨(stayB l i many && ownB l ks bins) :: bs, ?_, ?_⟩
    · simp only [List.zipIdx_cons, List.map_cons, List.flatMap_cons, h1, rightOf]; rfl
    · simp only [List.all_cons, h2, id, rightB]
theorem keeps_whole {d : D} (h : keepsB d = true) : ∃ ks, d = .tup ks ∧ ∀ k ∈ ks, isWhole k = true := by
  cases d with
  | tup ks =>
    simp only [keepsB, Bool.and_eq_true, List.all_eq_true] at h
    exact ⟨ks, rfl, fun k hk => by have := h.1 k hk; cases k <;> first | rfl | exact absurd this Bool.false_ne_true⟩
  | _ => cases h
theorem within_int {d : D} {a b : Int} (h : isWithin d a b = true) : ∃ i, d = .int i ∧ a ≤ i ∧ i ≤ b := by
  cases d <;> simp only [isWithin, Bool.false_eq_true, Bool.and_eq_true, decide_eq_true_eq] at h
  exact ⟨_, rfl, h⟩
theorem lines_all {d : D} (h : linesB d = true) : ∃ ls, d = .tup ls ∧ 1 ≤ ls.length ∧ ls.length ≤ 24 ∧ ∀ l ∈ ls, lineD l = true := by
  cases d with
  | tup ls =>
    simp only [linesB, Bool.and_eq_true, List.all_eq_true, decide_eq_true_eq] at h
    exact ⟨ls, rfl, h.1.1, h.1.2, h.2⟩
  | _ => cases h
theorem enum_mem {ds : List D} {d : D} (h : d ∈ enumD ds) : ∃ (i : Nat) (l : D), d = .tup [.int i, l] ∧ l ∈ ds := by
  unfold enumD at h
  obtain ⟨⟨l, i⟩, hm, rfl⟩ := List.mem_map.mp h
  exact ⟨i, l, rfl, (List.mem_zipIdx hm).2.2 ▸ List.getElem_mem _⟩
theorem ok_is_def (T : Tx K w mg) : DefV P w K mg base 7 "is_def" ["thing"] sp_is_def := by
  refine DefV.mk' T.f_is_def sc_is_def (fun _ _ _ _ _ _ us hl => match us, hl with | [_], _ => rfl) (fun f cdv A outer s H E hgd hr hcd => ⟨_, (s_cons (s_if (PW.pt (w_or (t_not (t_val (v_isi "tuple" (by decide) rfl T.b_isinstance (by decide +kernel) rfl T.b_tuple (by decide +kernel) (v_var 0)))) (w_or1 (t_cmp (ov_ne hr.units) (v_callB cv_len rfl T.b_len (by decide +kernel) (a_cons (v_var 0) a_nil)) v_int)))) (s_one (s_ret v_bl)) s_nil)
      (s_cons (s_unp (is := [3, 4, 5, 6, 7]) (v_var 0) (pg_tup rfl (pgs_cons (pg_name (i := 3) sc_is_def.nd rfl (by first | exact Or.inl rfl | exact Or.inr rfl)) (pgs_cons (pg_name (i := 4) sc_is_def.nd rfl (by first | exact Or.inl rfl | exact Or.inr rfl)) (pgs_cons (pg_name (i := 5) sc_is_def.nd rfl (by first | exact Or.inl rfl | exact Or.inr rfl)) (pgs_cons (pg_name (i := 6) sc_is_def.nd rfl (by first | exact Or.inl rfl | exact Or.inr rfl)) (pgs_cons (pg_name (i := 7) sc_is_def.nd rfl (by first | exact Or.inl rfl | exact Or.inr rfl)) pgs_nil)))))))
      (s_cons (s_if (PW.pt (w_or (t_not (t_val (v_call (ok_are_signs T) (hr.mono (by decide)) hgd rfl (a_cons (v_var 3) (a_cons (v_gint rfl T.c_PEGS) a_nil))))) (w_or (t_not (t_val (v_call (ok_are_signs T) (hr.mono (by decide)) hgd rfl (a_cons (v_var 4) (a_cons v_int a_nil))))) (w_or1 (t_not (t_val (v_call (ok_are_keeps T) (hr.mono (by decide)) hgd rfl (a_cons (v_var 5) a_nil)))))))) (s_one (s_ret v_bl)) s_nil)
      (s_cons (s_if (PW.pt (w_or (t_not (t_val (v_call (ok_is_within T) (hr.mono (by decide)) hgd rfl (a_cons (v_var 6) (a_cons v_int (a_cons (v_gint rfl T.c_BINS) a_nil)))))) (w_or1 (t_not (t_val (v_call (ok_are_lines T) (hr.mono (by decide)) hgd rfl (a_cons (v_var 7) a_nil))))))) (s_one (s_ret v_bl)) s_nil)
      (s_cons (s_set 1 sc_is_def.nd rfl (by first | exact Or.inl rfl | exact Or.inr rfl) (v_callB cv_len rfl T.b_len (by decide +kernel) (a_cons (v_var 7) a_nil)))
      (s_cons (s_setLc (i := 2) (c := (.many [8, 9])) (own := [("at", 8), ("line", 9)]) recR_frz (by simp [CT.within]) rfl sc_is_def.nd rfl rfl (sw_true rfl rfl rfl (by decide +kernel)) (i_enu rfl T.b_enumerate (v_var 7)) (blkOk_by (N := n_is_def) (sc := defScope s_is_def) (by decide +kernel)) (fun _ _ _ _ _ => (pg_tup rfl (pgs_cons (pg_name (i := 8) sc_is_def.nd rfl (by first | exact Or.inl rfl | exact Or.inr rfl)) (pgs_cons (pg_name (i := 9) sc_is_def.nd rfl (by first | exact Or.inl rfl | exact Or.inr rfl)) pgs_nil)))) (fun _ _ _ _ _ => ts_nil) (fun _ _ _ _ _ => (v_and (v_call (ok_stays_within T) (hr.mono (by decide)) hgd rfl (a_cons (v_var 9) (a_cons (v_var 8) (a_cons (v_var 1) a_nil)))) (v_one (v_call (ok_has_own_homes T) (hr.mono (by decide)) hgd rfl (a_cons (v_var 9) (a_cons (v_var 5) (a_cons (v_var 6) a_nil))))))))
      (s_one (s_ret (v_callB (cv_all rfl) rfl T.b_all (by decide +kernel) (a_cons (v_var 2) a_nil)))))))))), ?_⟩)
  intro ds S Q hl h
  unfold sp_is_def at h
  split at h
  · rename_i d
    obtain ⟨h1, h2, h3⟩ := h
    have h3 := fin_same h3
    have ty : tyn d S ≠ "?" := sml_tyn h1
    cases d with
    | tup ds =>
      have len5 : ∀ {ds : List D}, ds.length ≠ 5 → defB (.tup ds) = false := by
        intro ds hn
        match ds, hn with
        | [], _ => rfl
        | [_], _ => rfl
        | [_, _], _ => rfl
        | [_, _, _], _ => rfl
        | [_, _, _, _], _ => rfl
        | [_, _, _, _, _], hn => exact absurd rfl hn
        | _ :: _ :: _ :: _ :: _ :: _ :: _, _ => rfl
      by_cases hn : ds.length = 5
      · obtain ⟨takes, gives, keeps, bins, lines, rfl⟩ : ∃ a b c e f, ds = [a, b, c, e, f] := by
          match ds, hn with
          | [a, b, c, e, f], _ => exact ⟨a, b, c, e, f, rfl⟩
        have hsh := (short_tup h2).2
        have hsm := sml_tup h1
        have s1 := hsm takes (by simp); have s2 := hsm gives (by simp); have s3 := hsm keeps (by simp); have s4 := hsm bins (by simp); have s5 := hsm lines (by simp)
        have q1 := hsh takes (by simp); have q2 := hsh gives (by simp); have q3 := hsh keeps (by simp); have q5 := hsh lines (by simp)
        simp?! only [sp_are_signs, sp_are_keeps]
        refine ⟨sml_tyn s1, q1, ?_⟩
        by_cases t1 : signsB takes 4 = true
        case neg =>
          rw [if_pos (by rw [Bool.eq_false_iff.mpr t1]; rfl)]
          have eq : defB (.tup [takes, gives, keeps, bins, lines]) = false := by simp only [defB, Bool.eq_false_iff.mpr t1, Bool.false_and]
          rw [eq] at h3; exact h3
        rw [if_neg (by rw [t1]; decide)]
        refine ⟨sml_tyn s2, q2, ?_⟩
        by_cases t2 : signsB gives 1 = true
        case neg =>
          rw [if_pos (by rw [Bool.eq_false_iff.mpr t2]; rfl)]
          have eq : defB (.tup [takes, gives, keeps, bins, lines]) = false := by simp only [defB, Bool.eq_false_iff.mpr t2, Bool.and_false, Bool.false_and]
          rw [eq] at h3; exact h3
        rw [if_neg (by rw [t2]; decide)]
        refine ⟨s3, q3, ?_⟩
        by_cases t3 : keepsB keeps = true
        case neg =>
          rw [if_pos (by rw [Bool.eq_false_iff.mpr t3]; rfl)]
          have eq : defB (.tup [takes, gives, keeps, bins, lines]) = false := by simp only [defB, Bool.eq_false_iff.mpr t3, Bool.and_false, Bool.false_and]
          rw [eq] at h3; exact h3
        rw [if_neg (by rw [t3]; decide)]
        simp?! only [sp_is_within, sp_are_lines]
        refine ⟨sml_tyn s4, ?_⟩
        by_cases t4 : isWithin bins 0 4 = true
        case neg =>
          rw [if_pos (by rw [Bool.eq_false_iff.mpr t4]; rfl)]
          have eq : defB (.tup [takes, gives, keeps, bins, lines]) = false := by simp only [defB, Bool.eq_false_iff.mpr t4, Bool.and_false, Bool.false_and]
          rw [eq] at h3; exact h3
        rw [if_neg (by rw [t4]; decide)]
        refine ⟨s5, q5, ?_⟩
        by_cases t5 : linesB lines = true
        case neg =>
          rw [if_pos (by rw [Bool.eq_false_iff.mpr t5]; rfl)]
          have eq : defB (.tup [takes, gives, keeps, bins, lines]) = false := by simp only [defB, Bool.eq_false_iff.mpr t5, Bool.and_false, Bool.false_and]
          rw [eq] at h3; exact h3
        rw [if_neg (by rw [t5]; decide)]
        obtain ⟨ks, rfl, hks⟩ := keeps_whole t3
        obtain ⟨b, rfl, _, _⟩ := within_int t4
        obtain ⟨ls, rfl, l1, l2, hls⟩ := lines_all t5
        have eq : defB (.tup [takes, gives, .tup ks, .int b, .tup ls]) = rightB ks b ls.length 0 ls := by simp only [defB, t1, t2, t3, t4, t5, Bool.true_and]
        rw [eq] at h3
        walk_at "VX"
        refine mLc_of (enumD ls) (rightOf ks b ls.length) (kp := fun _ => True) (S1 := S) (fun Qi h => ?_) ?_ trivial (fun d hd J hJ => ?_) ?_
        · walk_at "VX"; exact h
        · simp only [enumD, List.length_map, List.length_zipIdx]; exact sz (by omega)
        · obtain ⟨i, l, rfl, hm⟩ := enum_mem hd
          simp?! only [sp_stays_within, sp_has_own_homes]
          refine ⟨hls l hm, ?_⟩
          simp only [rightOf] at hJ
          by_cases u1 : stayB l i ls.length = true
          · rw [u1] at hJ ⊢; exact ⟨hls l hm, hks, hJ⟩
          · rw [Bool.eq_false_iff.mpr u1] at hJ ⊢; exact hJ
        · obtain ⟨bs, b1, b2⟩ := right_flat ks b ls.length ls 0
          unfold enumD
          rw [b1]
          simp?! only [rdR_lst, rdL_lst, bls_map]
          rw [b2]; exact h3
      · walk_at "VX"
        have hn' : ¬ (ds.length : Int) = 5 := by omega
        rw [if_pos (by simpa using hn')]
        rw [len5 hn] at h3
        exact h3
    | ref a => simp [sml] at h1
    | _ => walk_at "VX"; exact h3
  · exact h.elim
abbrev s_is_program : Stmt := top 33
abbrev n_is_program : List Str := ["thing", "one", "line", "d"]
theorem sc_is_program : FnScope n_is_program ["thing"] (defScope s_is_program) := ⟨rfl, rfl, rfl, by decide +kernel, rfl, by decide +kernel, by decide +kernel⟩
def sp_is_program : VSp := fun ds S Q => match ds with
  | [d] => sml d = true ∧ short d = true ∧ Q (.bl (progB d)) S
  | _ => False
def fDef (d : D) : List D := [.bl (defB d)]
theorem def_flat : ∀ ds : List D, ds.flatMap fDef = (ds.map defB).map D.bl
  | [] => rfl
  | d :: ds => by rw [List.flatMap_cons, def_flat ds]; rfl
theorem def_ex {d : D} (h : defB d = true) : ∃ t g ks b ls, d = .tup [.str t, .str g, .tup ks, .int b, .tup ls] ∧ signsB (.str t) 4 = true ∧ signsB (.str g) 1 = true ∧ keepsB (.tup ks) = true ∧ (0 ≤ b ∧ b ≤ 4) ∧ linesB (.tup ls) = true ∧ rightB ks b ls.length 0 ls = true := by
  cases d with
  | tup ds =>
    match ds, h with
    | [takes, gives, keeps, bins, lines], h =>
      simp only [defB, Bool.and_eq_true] at h
      obtain ⟨⟨⟨⟨h1, h2⟩, h3⟩, h4, h5⟩, h6⟩ := h
      obtain ⟨ks, rfl, _⟩ := keeps_whole h3
      obtain ⟨b, rfl, b0, b1⟩ := within_int h4
      obtain ⟨ls, rfl, _⟩ := lines_all h5
      cases takes <;> try (cases h1; done)
      cases gives <;> try (cases h2; done)
      exact ⟨_, _, ks, b, ls, rfl, h1, h2, h3, ⟨b0, b1⟩, h5, h6⟩
  | _ => cases h
def fCall (many : Int) (l : D) : List D := match l with
  | .tup (.str w :: r) => (partsW w r "called").map fun d => .bl (ltI many d)
  | _ => []
def fCalls (many : Int) (d : D) : List D := match d with
  | .tup [_, _, _, _, .tup ls] => ls.flatMap (fCall many)
  | _ => []
theorem call_bls (many : Int) : ∀ {ls : List D}, (∀ l ∈ ls, lineD l = true) → ∃ bs : List Bool, ls.flatMap (fCall many) = bs.map D.bl ∧ bs.all id = ls.all (calledB many) ∧ bs.length ≤ 3 * ls.length
  | [], _ => ⟨[], rfl, rfl, by simp⟩
  | l :: ls, h => by
    obtain ⟨bs, h1, h2, h3⟩ := call_bls many (ls := ls) (fun e he => h e (List.mem_cons_of_mem _ he))
    obtain ⟨w, r, es, rfl, he, hf⟩ := lineD_ex (h l (by simp))
    refine ⟨(partsW w r "called").map (ltI many) ++ bs, ?_, ?_, ?_⟩
    · rw [List.flatMap_cons, h1, List.map_append, List.map_map]; rfl
    · rw [List.all_append, h2, List.all_map]; rfl
    · have := partsW_len w r "called"
      simp only [List.length_append, List.length_map, List.length_cons]; omega
theorem calls_bls (many : Int) : ∀ {ds : List D}, (∀ d ∈ ds, defB d = true) → ∃ bs : List Bool, ds.flatMap (fCalls many) = bs.map D.bl ∧ bs.all id = ds.all (callsB many) ∧ bs.length ≤ 72 * ds.length
  | [], _ => ⟨[], rfl, rfl, by simp⟩
  | d :: ds, h => by
    obtain ⟨bs, h1, h2, h3⟩ := calls_bls many (ds := ds) (fun e he => h e (List.mem_cons_of_mem _ he))
    obtain ⟨t, g, ks, b, ls, rfl, _, _, _, _, hl, _⟩ := def_ex (h d (by simp))
    obtain ⟨ls', e, l1, l2, hls⟩ := lines_all hl
    cases e
    obtain ⟨cs, c1, c2, c3⟩ := call_bls many hls
    refine ⟨cs ++ bs, ?_, ?_, ?_⟩
    · rw [List.flatMap_cons, h1, List.map_append, ← c1]; rfl
    · rw [List.all_append, h2, c2]; rfl
    · simp only [List.length_append, List.length_cons]; omega
theorem ok_is_program (T : Tx K w mg) : DefV P w K mg base 8 "is_program" ["thing"] sp_is_program := by
  refine DefV.mk' T.f_is_program sc_is_program (fun _ _ _ _ _ _ us hl => match us, hl with | [_], _ => rfl) (fun f cdv A outer s H E hgd hr hcd => ⟨_, (s_cons (s_if (PW.pt (w_or (t_not (t_val (v_isi "tuple" (by decide) rfl T.b_isinstance (by decide +kernel) rfl T.b_tuple (by decide +kernel) (v_var 0)))) (w_or (t_not (t_chain ov_le ov_le v_int (v_callB cv_len rfl T.b_len (by decide +kernel) (a_cons (v_var 0) a_nil)) (v_gint rfl T.c_MOST_DEFS))) (w_or1 (t_not (t_val (v_callB (cv_all rfl) rfl T.b_all (by decide +kernel) (a_cons (v_lc (c := (.one 1)) (own := [("one", 1)]) recR_frz (by simp [CT.within]) rfl sc_is_program.nd (i_seq (v_var 0)) (blkOk_by (N := n_is_program) (sc := defScope s_is_program) (by decide +kernel)) (fun _ _ _ _ _ => (pg_name (i := 1) sc_is_program.nd rfl (by first | exact Or.inl rfl | exact Or.inr rfl))) (fun _ _ _ _ _ => ts_nil) (fun _ _ _ _ _ => (v_call (ok_is_def T) (hr.mono (by decide)) hgd rfl (a_cons (v_var 1) a_nil)))) a_nil)))))))) (s_one (s_ret v_bl)) s_nil)
      (s_one (s_ret (v_callB (cv_all rfl) rfl T.b_all (by decide +kernel) (a_cons (v_lc3 (c := (.one 1)) (c1 := (.one 2)) (vs1 := [2, 3]) (c2 := (.one 3)) (vs2 := [3]) (own := [("one", 1), ("line", 2), ("d", 3)]) (fun _ => recA_frz) (by simp [CT.within]) (by simp [CT.within]) (by simp [CT.within]) (by simp) (by simp) rfl sc_is_program.nd (blkOk_by (N := n_is_program) (sc := defScope s_is_program) (by decide +kernel)) (i_seq (v_var 0)) (fun _ _ _ _ _ => (pg_name (i := 1) sc_is_program.nd rfl (by first | exact Or.inl rfl | exact Or.inr rfl))) (fun _ _ _ _ _ => ts_nil) (fun _ _ _ _ _ => (i_seq (v_sub (v_var 1) v_int))) (fun _ _ _ _ _ => (pg_name (i := 2) sc_is_program.nd rfl (by first | exact Or.inl rfl | exact Or.inr rfl))) (fun _ _ _ _ _ => ts_nil) (fun _ _ _ _ _ => (i_seq (v_call (ok_parts_of T) (hr.mono (by decide)) hgd rfl (a_cons (v_var 2) (a_cons (v_gstr rfl T.c_CALLED) a_nil))))) (fun _ _ _ _ _ => (pg_name (i := 3) sc_is_program.nd rfl (by first | exact Or.inl rfl | exact Or.inr rfl))) (fun _ _ _ _ _ => ts_nil) (fun _ _ _ _ _ => (v_cmp ov_lt (v_var 3) (v_callB cv_len rfl T.b_len (by decide +kernel) (a_cons (v_var 0) a_nil))))) a_nil))))), ?_⟩)
  intro ds S Q hl h
  unfold sp_is_program at h
  split at h
  · rename_i d
    obtain ⟨h1, h2, h3⟩ := h
    have h3 := fin_same h3
    cases d with
    | tup ds =>
      obtain ⟨hl3, hsh⟩ := short_tup h2
      have hsm := sml_tup h1
      walk_at "VX"
      have e0 : decide ((1 : Int) ≤ (ds.length : Int)) = decide (1 ≤ ds.length) := decide_eq_decide.mpr (by omega)
      have e1 : decide ((ds.length : Int) ≤ 6) = decide (ds.length ≤ 6) := decide_eq_decide.mpr (by omega)
      simp only [e0, e1]
      by_cases n1 : decide (1 ≤ ds.length) = true
      case neg =>
        have eq : progB (.tup ds) = false := by simp only [progB, Bool.eq_false_iff.mpr n1, Bool.false_and]
        rw [eq] at h3
        rw [if_neg n1]; exact h3
      rw [if_pos n1]
      by_cases n2 : decide (ds.length ≤ 6) = true
      case neg =>
        have eq : progB (.tup ds) = false := by simp only [progB, Bool.eq_false_iff.mpr n2, Bool.false_and, Bool.and_false]
        rw [eq] at h3
        rw [Bool.eq_false_iff.mpr n2]; exact h3
      rw [n2]
      walk_at "VX"
      refine mLc_of ds fDef (kp := fun _ => True) (S1 := S) (fun Qi h => ?_) (sz (by omega)) trivial (fun d hd J hJ => ?_) ?_
      · walk_at "VX"; exact h
      · simp?! only [sp_is_def]
        exact ⟨hsm d hd, hsh d hd, hJ⟩
      · rw [def_flat]
        simp?! only [rdR_lst, rdL_lst, bls_map]
        rw [List.all_map]
        by_cases n3 : ds.all defB = true
        case neg =>
          have eq : progB (.tup ds) = false := by simp only [progB, Bool.eq_false_iff.mpr n3, Bool.false_and, Bool.and_false]
          rw [eq] at h3
          rw [show (id ∘ defB) = defB from rfl, Bool.eq_false_iff.mpr n3]; exact h3
        rw [show (id ∘ defB) = defB from rfl, n3]
        have eq : progB (.tup ds) = ds.all (callsB ds.length) := by simp only [progB, n1, n2, n3, Bool.true_and]
        rw [eq] at h3
        have all : ∀ d ∈ ds, defB d = true := List.all_eq_true.mp n3
        obtain ⟨bs, b1, b2, b3⟩ := calls_bls ds.length all
        have hd6 : ds.length ≤ 6 := of_decide_eq_true n2
        walk_at "VX"
        refine turns_flat (fCalls ds.length) 1000 ?_ trivial (fun d hd acc hN J hJ => ?_) ?_
        · rw [b1, List.length_map]; simp only [List.length_nil]; omega
        · obtain ⟨t, g, ks, b, ls, rfl, _, _, _, _, hl, _⟩ := def_ex (all d hd)
          obtain ⟨ls', e, l1, l2, hls⟩ := lines_all hl
          cases e
          walk_at "VX"
          refine turns_flat (fCall ds.length) 1000 hN trivial (fun l hm acc hN J hJ => ?_) hJ
          obtain ⟨w, r, es, rfl, he, hf⟩ := lineD_ex (hls l hm)
          simp?! only [sp_parts_of]
          refine ⟨⟨es, he, fits_length hf⟩, ?_⟩
          refine turns_flat (fun d => [.bl (ltI ds.length d)]) 1000 ?_ trivial (fun x hx acc hN J hJ => ?_) ?_
          · simp only [fCall, List.length_map] at hN
            rw [flat_one, List.length_map]; exact hN
          · obtain ⟨i, rfl, _⟩ := goal_int he hf (.inr rfl) hx
            walk_at "VX"
            simp only [List.length_cons, List.length_nil] at hN
            exact ⟨sz (by omega), hJ⟩
          · rw [flat_one]; exact hJ
        · rw [b1]
          simp?! only [rdR_lst, rdL_lst, bls_map]
          rw [b2]; exact h3
    | ref a => simp [sml] at h1
    | _ => walk_at "VX"; exact h3
  · exact h.elim
abbrev s_law : Stmt := top 57
abbrev n_law : List Str := ["_law_script", "_law_k", "_law_pot_here", "_law_program_here", "_law_turn", "_law_thing", "_law_further", "_law_shown"]
theorem sc_law : FnScope n_law ["_law_script"] (defScope s_law) := ⟨rfl, rfl, rfl, by decide +kernel, rfl, by decide +kernel, by decide +kernel⟩
def sp_law : VSp := fun ds S Q => match ds with
  | [.ro ds] => (∃ ns : List Int, ds = ns.map D.int ∧ ns.length < 64) ∧ ∀ S', Q (.bl true) S'
  | _ => False
theorem law_end : ∀ ns : List Int, ns.length ≤ 63 → ∀ Q : D → Store → Prop, (∀ S, Q (.bl true) S) → sp_law [.ro (ns.map D.int)] (fun _ => none) Q :=
  fun ns h Q k => ⟨⟨ns, rfl, by omega⟩, k⟩
theorem ok_law (T : Tx K w mg) : DefV P w K mg base 11 "law" ["_law_script"] sp_law := by
  refine DefV.mk' T.f_law sc_law (fun _ _ _ _ _ _ us hl => match us, hl with | [_], _ => rfl) (fun f cdv A outer s H E hgd hr hcd => ⟨_, (s_cons (s_for (c := (.one 1)) PassesOwn.never rfl (i_rng1 rfl T.b_range (v_callB (cv_max2 rfl) rfl T.b_max (by decide +kernel) (a_cons v_int (a_cons (v_callB (cv_min2 rfl) rfl T.b_min (by decide +kernel) (a_cons (v_callB cv_len rfl T.b_len (by decide +kernel) (a_cons (v_var 0) a_nil)) (a_cons v_int a_nil))) a_nil))) (pi_range1 rfl T.b_range (pa_cons (v_callB (cv_max2 rfl) rfl T.b_max (by decide +kernel) (a_cons v_int (a_cons (v_callB (cv_min2 rfl) rfl T.b_min (by decide +kernel) (a_cons (v_callB cv_len rfl T.b_len (by decide +kernel) (a_cons (v_var 0) a_nil)) (a_cons v_int a_nil))) a_nil))) pa_nil))) (pg_name (i := 1) sc_law.nd rfl (by first | exact Or.inl rfl | exact Or.inr rfl))
      (s_cons (s_set 2 sc_law.nd rfl (by first | exact Or.inl rfl | exact Or.inr rfl) (v_call (ok_law_pot T) (hr.mono (by decide)) hgd rfl (a_cons (v_var 0) (a_cons (v_var 1) a_nil))))
      (s_cons (s_set 3 sc_law.nd rfl (by first | exact Or.inl rfl | exact Or.inr rfl) (v_call (ok_law_program T) (hr.mono (by decide)) hgd rfl (a_cons (v_var 2) a_nil)))
      (s_hold (s_if (PW.pt (w_or (t_not (t_val (v_call (ok_law_due T) (hr.mono (by decide)) hgd rfl (a_cons (v_var 3) a_nil)))) (w_or1 (t_cmp ov_isnotB (v_call (ok_is_program T) (hr.mono (by decide)) hgd rfl (a_cons (v_var 3) a_nil)) v_bl)))) (s_one (s_ret v_bl)) s_nil)
      (s_hold (s_for (c := (.one 4)) PassesOwn.never rfl (i_rng1 rfl T.b_range v_int (pi_range1 rfl T.b_range (pa_cons v_int pa_nil))) (pg_name (i := 4) sc_law.nd rfl (by first | exact Or.inl rfl | exact Or.inr rfl))
      (s_hold (s_set 5 sc_law.nd rfl (by first | exact Or.inl rfl | exact Or.inr rfl) (v_call (ok_law_otherwise T) (hr.mono (by decide)) hgd rfl (a_cons (v_var 2) (a_cons (v_var 3) (a_cons v_int a_nil)))))
      (s_hold (s_for (c := (.one 6)) PassesOwn.never rfl (i_rng1 rfl T.b_range (v_call (ok_law_take T) (hr.mono (by decide)) hgd rfl (a_cons (v_var 2) (a_cons v_int a_nil))) (pi_range1 rfl T.b_range (pa_cons (v_call (ok_law_take T) (hr.mono (by decide)) hgd rfl (a_cons (v_var 2) (a_cons v_int a_nil))) pa_nil))) (pg_name (i := 6) sc_law.nd rfl (by first | exact Or.inl rfl | exact Or.inr rfl))
      (s_hold (s_set 5 sc_law.nd rfl (by first | exact Or.inl rfl | exact Or.inr rfl) (v_call (ok_law_otherwise T) (hr.mono (by decide)) hgd rfl (a_cons (v_var 2) (a_cons (v_var 5) (a_cons v_int a_nil))))) s_nil))
      (s_hold (s_set 7 sc_law.nd rfl (by first | exact Or.inl rfl | exact Or.inr rfl) (v_callB (cv_reprW hgd hr.units) rfl T.b_repr (by decide +kernel) (a_cons (v_var 5) a_nil)))
      (s_hold (s_if (PW.pt (w_or (t_cmp (ov_ne hr.units) (v_lst (a_cons (v_call (ok_is_program T) (hr.mono (by decide)) hgd rfl (a_cons (v_var 5) a_nil)) (a_cons (v_call (ok_is_program T) (hr.mono (by decide)) hgd rfl (a_cons (v_var 5) a_nil)) a_nil))) (v_op ov_mulL (v_lst (a_cons (v_call (ok_law_due T) (hr.mono (by decide)) hgd rfl (a_cons (v_var 5) a_nil)) a_nil)) v_int)) (w_or1 (t_cmp (ov_ne hr.units) (v_callB (cv_reprW hgd hr.units) rfl T.b_repr (by decide +kernel) (a_cons (v_var 5) a_nil)) (v_var 7))))) (s_one (s_ret v_bl)) s_nil)
      (s_hold (s_if (t_not (t_val (v_isi "bool" (by decide) rfl T.b_isinstance (by decide +kernel) rfl T.b_bool (by decide +kernel) (v_call (ok_is_program T) (hr.mono (by decide)) hgd rfl (a_cons (v_var 5) a_nil))))) (s_one (s_ret v_bl)) s_nil) s_nil)))))) s_nil)))))
      (s_one (s_ret v_bl))), ?_⟩)
  intro ds S Q hl h
  unfold sp_law at h
  split at h
  · rename_i ds
    obtain ⟨⟨ns, rfl, hn⟩, k⟩ := h
    walk_at "VX"
    refine mFor_rng 0 (if (if (6 : Int) < (ns.length : Int) then (6 : Int) else (ns.length : Int)) > 1 then (if (6 : Int) < (ns.length : Int) then (6 : Int) else (ns.length : Int)) else 1).toNat (fun i ρ2 S2 => ∃ z1 z2 z3 z4 z5 z6 z7, ρ2 = [some (D.ro (ns.map D.int)), z1, z2, z3, z4, z5, z6, z7]) (kp := fun _ => True) (S1 := S) (fun Qi h => ?_) ⟨_, _, _, _, _, _, _, rfl⟩ (fun _ _ _ _ => trivial) (fun i ρ2 S2 hi h => ?_) (fun ρ2 S2 h => ?_)
    · simp?! only [List.length_map]
      refine ⟨?_, ?_, h⟩ <;> split <;> (try split) <;> omega
    · obtain ⟨z1, z2, z3, z4, z5, z6, z7, rfl⟩ := h
      simp?! only [sp_law_pot, sp_law_program]
      refine ⟨⟨ns, rfl⟩, by omega, ?_, fun p S3 n3 p3 b3 => ⟨p3, fun code S5 hcode p5 b5 => ?_⟩⟩
      · revert hi; split <;> (try split) <;> omega
      obtain ⟨hcode, ty⟩ := hcode
      have fc : fine code := okN_fine (by omega) (by omega) code ty
      rw [mHold_e]
      simp?! only [sp_law_due, sp_is_program]
      refine ⟨fc, ?_⟩
      rw [hcode.ok, if_neg (by decide)]
      refine ⟨fc.1, fc.2.1, ?_⟩
      rw [if_neg (by decide)]
      have cc : VL.cnt code ≤ 400000 := hcode.sm.2.1
      have dc : dep code ≤ 5 := hcode.sm.2.2
      rw [mHold_e]
      walk_at "VX"
      refine mFor_rng 0 8 (fun i ρ3 S6 => Pot S6 p ∧ ∃ z1 z4 z5 z6 z7, ρ3 = [some (D.ro (ns.map D.int)), z1, some (.ref p), some (code), z4, z5, z6, z7]) (kp := fun _ => True) (S1 := S5) (fun Qi h => ?_) ⟨p5, _, _, _, _, _, rfl⟩ (fun _ _ _ _ => trivial) (fun i ρ3 S6 hi h => ?_) (fun ρ3 S6 h => ?_)
      · walk_at "VX"; exact h
      · obtain ⟨p6, z1, z4, z5, z6, z7, rfl⟩ := h
        walk_at "VX"
        rw [mHold_e]
        simp?! only [sp_law_otherwise, spr_law_otherwise]
        refine ⟨10000000000000000000000000000000000000000, 24, p6, ty, by omega, by omega, by omega, by decide, fun d1 S7 B1 p7 b7 => ?_⟩
        rw [mHold_e, mSeq_e]
        refine mFor_draw ?_
        simp?! only [sp_law_take]
        refine ⟨p7, by decide, fun r S8 r0 r3 p8 b8 => ⟨by omega, by omega, ?_⟩⟩
        refine mFor_rng 0 r.toNat (fun j ρ4 S9 => Pot S9 p ∧ ∃ d, Bent (11000000000000000000000000000000000000000 + j * 1000000000000000000000000000000000000000) (48 * 2 ^ j) (802000 * 2 ^ j - 1000) (7 + 2 * j) d ∧ ∃ z1 z4 z6 z7, ρ4 = [some (D.ro (ns.map D.int)), z1, some (.ref p), some (code), z4, some (d), z6, z7]) (kp := fun _ => True) (S1 := S8) (fun Qi h => ?_) ⟨p8, d1, B1.mono (hc := by simp; omega), _, _, _, _, rfl⟩ (fun _ _ _ _ => trivial) (fun j ρ4 S9 hj h => ?_) (fun ρ4 S9 h => ?_)
        · exact h
        · obtain ⟨p9, d, B, z1, z4, z6, z7, rfl⟩ := h
          have j1 : j = 0 ∨ j = 1 := by omega
          walk_at "VX"
          rw [mHold_e]
          simp?! only [sp_law_otherwise, spr_law_otherwise]
          refine ⟨_, _, p9, B.ok, ?_, ?_, ?_, by decide, fun d2 S10 B2 p10 b10 => ⟨p10, d2, ?_, _, _, _, _, rfl⟩⟩
          · rcases j1 with rfl | rfl <;> simp
          · rcases j1 with rfl | rfl <;> simp
          · rcases j1 with rfl | rfl <;> simp
          · have cn := B.cn
            have de := B.de
            rcases j1 with rfl | rfl
            · exact B2.mono (hL := by simp) (hc := by simp at cn ⊢; omega)
            · exact B2.mono (hL := by simp) (hc := by simp at cn ⊢; omega)
        obtain ⟨p9, d, B, z1, z4, z6, z7, rfl⟩ := h
        have B9 : Bent 13000000000000000000000000000000000000000 192 3207000 11 d := by
          have : r.toNat = 0 ∨ r.toNat = 1 ∨ r.toNat = 2 := by omega
          rcases this with e | e | e <;> rw [e] at B <;> exact B.mono (hL := by simp) (hc := by simp)
        have fd := okN_fine (by omega) (by omega) d B9.ok
        have rv : ∀ S, rsv S d = d := fun S => by
          have := B9.ok
          cases d <;> first | rfl | (simp [okN] at this; done)
        have ft : fitW d := fitW_of fd.1 (Nat.le_trans B9.cn (by omega)) (Nat.le_trans B9.de (by omega))
        walk_at "VX"
        rw [mHold_e]
        walk_at "VX"
        rw [rv]
        refine ⟨ft, ?_⟩
        rw [mHold_e]
        simp?! only [sp_is_program, sp_law_due]
        refine ⟨fd.1, fd.2.1, fd.1, fd.2.1, fd, ?_⟩
        have fl : [[D.bl (progB d)], [D.bl (progB d)]].flatten = [D.bl (progB d), D.bl (progB d)] := rfl
        rw [fl]
        have oq : ∀ (b : Bool) (S : Store), okq S (.lst [.bl b, .bl b]) ∧ eqq S (.lst [.bl b, .bl b]) (.lst [.bl b, .bl b]) = true := fun b S => by
          refine ⟨okq_of rfl (by cases b <;> decide +kernel), ?_⟩
          unfold eqq
          simp only [rsv]
          cases b <;> decide +kernel
        obtain ⟨o1, o2⟩ := oq (progB d) S9
        refine ⟨o1, o1, ?_⟩
        rw [if_neg (by rw [o2]; decide), rv]
        refine ⟨ft, ?_⟩
        rw [if_neg (by simp)]
        rw [mHold_e]
        simp?! only [sp_is_program]
        refine ⟨fd.1, fd.2.1, ?_⟩
        exact ⟨p9, _, _, _, _, _, rfl⟩
      · obtain ⟨p6, z1, z4, z5, z6, z7, rfl⟩ := h
        walk_at "VX"
        exact ⟨_, _, _, _, _, _, _, rfl⟩
    · obtain ⟨z1, z2, z3, z4, z5, z6, z7, rfl⟩ := h
      walk_at "VX"
      exact fin_same (k _)
  · exact h.elim
end
theorem tx_mk {K : PySem.W.Frag} {w : World} {h : Heap} {mg : Str → Option Value} (X : K.In h) (G : h.Ns mainGlobals mg)
    {f0 : Addr} {oc0 kV0 dc0 pm0 cd0 ct0 : Value} {od0 an0 : Option Addr} {sl0 : Array (Option Value)} (a0 : PySem.W.nsIn K mainGlobals "_law_pot" = some (some (.ref f0))) (l0 : K.lookup f0 = some ⟨oc0, od0, .func (PySem.W.fnOf "_law_pot" "_law_pot" (defArgs s_law_pot) (defBody s_law_pot) (defScope s_law_pot) .none kV0 dc0 pm0 an0 cd0 ct0), sl0⟩) (c0 : PySem.W.codeIn K cd0 "_law_pot" = true) (k0 : PySem.W.keepIn K (.ref f0) = true)
    {f1 : Addr} {oc1 kV1 dc1 pm1 cd1 ct1 : Value} {od1 an1 : Option Addr} {sl1 : Array (Option Value)} (a1 : PySem.W.nsIn K mainGlobals "_law_take" = some (some (.ref f1))) (l1 : K.lookup f1 = some ⟨oc1, od1, .func (PySem.W.fnOf "_law_take" "_law_take" (defArgs s_law_take) (defBody s_law_take) (defScope s_law_take) .none kV1 dc1 pm1 an1 cd1 ct1), sl1⟩) (c1 : PySem.W.codeIn K cd1 "_law_take" = true) (k1 : PySem.W.keepIn K (.ref f1) = true)
    {f2 : Addr} {oc2 kV2 dc2 pm2 cd2 ct2 : Value} {od2 an2 : Option Addr} {sl2 : Array (Option Value)} (a2 : PySem.W.nsIn K mainGlobals "_law_one" = some (some (.ref f2))) (l2 : K.lookup f2 = some ⟨oc2, od2, .func (PySem.W.fnOf "_law_one" "_law_one" (defArgs s_law_one) (defBody s_law_one) (defScope s_law_one) .none kV2 dc2 pm2 an2 cd2 ct2), sl2⟩) (c2 : PySem.W.codeIn K cd2 "_law_one" = true) (k2 : PySem.W.keepIn K (.ref f2) = true)
    {f3 : Addr} {oc3 kV3 dc3 pm3 cd3 ct3 : Value} {od3 an3 : Option Addr} {sl3 : Array (Option Value)} (a3 : PySem.W.nsIn K mainGlobals "_law_words" = some (some (.ref f3))) (l3 : K.lookup f3 = some ⟨oc3, od3, .func (PySem.W.fnOf "_law_words" "_law_words" (defArgs s_law_words) (defBody s_law_words) (defScope s_law_words) .none kV3 dc3 pm3 an3 cd3 ct3), sl3⟩) (c3 : PySem.W.codeIn K cd3 "_law_words" = true) (k3 : PySem.W.keepIn K (.ref f3) = true)
    {f4 : Addr} {oc4 kV4 dc4 pm4 cd4 ct4 : Value} {od4 an4 : Option Addr} {sl4 : Array (Option Value)} (a4 : PySem.W.nsIn K mainGlobals "_law_home" = some (some (.ref f4))) (l4 : K.lookup f4 = some ⟨oc4, od4, .func (PySem.W.fnOf "_law_home" "_law_home" (defArgs s_law_home) (defBody s_law_home) (defScope s_law_home) .none kV4 dc4 pm4 an4 cd4 ct4), sl4⟩) (c4 : PySem.W.codeIn K cd4 "_law_home" = true) (k4 : PySem.W.keepIn K (.ref f4) = true)
    {f5 : Addr} {oc5 kV5 dc5 pm5 cd5 ct5 : Value} {od5 an5 : Option Addr} {sl5 : Array (Option Value)} (a5 : PySem.W.nsIn K mainGlobals "_law_part" = some (some (.ref f5))) (l5 : K.lookup f5 = some ⟨oc5, od5, .func (PySem.W.fnOf "_law_part" "_law_part" (defArgs s_law_part) (defBody s_law_part) (defScope s_law_part) .none kV5 dc5 pm5 an5 cd5 ct5), sl5⟩) (c5 : PySem.W.codeIn K cd5 "_law_part" = true) (k5 : PySem.W.keepIn K (.ref f5) = true)
    {f6 : Addr} {oc6 kV6 dc6 pm6 cd6 ct6 : Value} {od6 an6 : Option Addr} {sl6 : Array (Option Value)} (a6 : PySem.W.nsIn K mainGlobals "_law_shape" = some (some (.ref f6))) (l6 : K.lookup f6 = some ⟨oc6, od6, .func (PySem.W.fnOf "_law_shape" "_law_shape" (defArgs s_law_shape) (defBody s_law_shape) (defScope s_law_shape) .none kV6 dc6 pm6 an6 cd6 ct6), sl6⟩) (c6 : PySem.W.codeIn K cd6 "_law_shape" = true) (k6 : PySem.W.keepIn K (.ref f6) = true)
    {f7 : Addr} {oc7 kV7 dc7 pm7 cd7 ct7 : Value} {od7 an7 : Option Addr} {sl7 : Array (Option Value)} (a7 : PySem.W.nsIn K mainGlobals "_law_line" = some (some (.ref f7))) (l7 : K.lookup f7 = some ⟨oc7, od7, .func (PySem.W.fnOf "_law_line" "_law_line" (defArgs s_law_line) (defBody s_law_line) (defScope s_law_line) .none kV7 dc7 pm7 an7 cd7 ct7), sl7⟩) (c7 : PySem.W.codeIn K cd7 "_law_line" = true) (k7 : PySem.W.keepIn K (.ref f7) = true)
    {f8 : Addr} {oc8 kV8 dc8 pm8 cd8 ct8 : Value} {od8 an8 : Option Addr} {sl8 : Array (Option Value)} (a8 : PySem.W.nsIn K mainGlobals "_law_def" = some (some (.ref f8))) (l8 : K.lookup f8 = some ⟨oc8, od8, .func (PySem.W.fnOf "_law_def" "_law_def" (defArgs s_law_def) (defBody s_law_def) (defScope s_law_def) .none kV8 dc8 pm8 an8 cd8 ct8), sl8⟩) (c8 : PySem.W.codeIn K cd8 "_law_def" = true) (k8 : PySem.W.keepIn K (.ref f8) = true)
    {f9 : Addr} {oc9 kV9 dc9 pm9 cd9 ct9 : Value} {od9 an9 : Option Addr} {sl9 : Array (Option Value)} (a9 : PySem.W.nsIn K mainGlobals "_law_program" = some (some (.ref f9))) (l9 : K.lookup f9 = some ⟨oc9, od9, .func (PySem.W.fnOf "_law_program" "_law_program" (defArgs s_law_program) (defBody s_law_program) (defScope s_law_program) .none kV9 dc9 pm9 an9 cd9 ct9), sl9⟩) (c9 : PySem.W.codeIn K cd9 "_law_program" = true) (k9 : PySem.W.keepIn K (.ref f9) = true)
    {f10 : Addr} {oc10 kV10 dc10 pm10 cd10 ct10 : Value} {od10 an10 : Option Addr} {sl10 : Array (Option Value)} (a10 : PySem.W.nsIn K mainGlobals "_law_odd_tuple" = some (some (.ref f10))) (l10 : K.lookup f10 = some ⟨oc10, od10, .func (PySem.W.fnOf "_law_odd_tuple" "_law_odd_tuple" (defArgs s_law_odd_tuple) (defBody s_law_odd_tuple) (defScope s_law_odd_tuple) .none kV10 dc10 pm10 an10 cd10 ct10), sl10⟩) (c10 : PySem.W.codeIn K cd10 "_law_odd_tuple" = true) (k10 : PySem.W.keepIn K (.ref f10) = true)
    {f11 : Addr} {oc11 kV11 dc11 pm11 cd11 ct11 : Value} {od11 an11 : Option Addr} {sl11 : Array (Option Value)} (a11 : PySem.W.nsIn K mainGlobals "_law_odd_text" = some (some (.ref f11))) (l11 : K.lookup f11 = some ⟨oc11, od11, .func (PySem.W.fnOf "_law_odd_text" "_law_odd_text" (defArgs s_law_odd_text) (defBody s_law_odd_text) (defScope s_law_odd_text) .none kV11 dc11 pm11 an11 cd11 ct11), sl11⟩) (c11 : PySem.W.codeIn K cd11 "_law_odd_text" = true) (k11 : PySem.W.keepIn K (.ref f11) = true)
    {f12 : Addr} {oc12 kV12 dc12 pm12 cd12 ct12 : Value} {od12 an12 : Option Addr} {sl12 : Array (Option Value)} (a12 : PySem.W.nsIn K mainGlobals "_law_odd_number" = some (some (.ref f12))) (l12 : K.lookup f12 = some ⟨oc12, od12, .func (PySem.W.fnOf "_law_odd_number" "_law_odd_number" (defArgs s_law_odd_number) (defBody s_law_odd_number) (defScope s_law_odd_number) .none kV12 dc12 pm12 an12 cd12 ct12), sl12⟩) (c12 : PySem.W.codeIn K cd12 "_law_odd_number" = true) (k12 : PySem.W.keepIn K (.ref f12) = true)
    {f13 : Addr} {oc13 kV13 dc13 pm13 cd13 ct13 : Value} {od13 an13 : Option Addr} {sl13 : Array (Option Value)} (a13 : PySem.W.nsIn K mainGlobals "_law_otherwise" = some (some (.ref f13))) (l13 : K.lookup f13 = some ⟨oc13, od13, .func (PySem.W.fnOf "_law_otherwise" "_law_otherwise" (defArgs s_law_otherwise) (defBody s_law_otherwise) (defScope s_law_otherwise) .none kV13 dc13 pm13 an13 cd13 ct13), sl13⟩) (c13 : PySem.W.codeIn K cd13 "_law_otherwise" = true) (k13 : PySem.W.keepIn K (.ref f13) = true)
    {f14 : Addr} {oc14 kV14 dc14 pm14 cd14 ct14 : Value} {od14 an14 : Option Addr} {sl14 : Array (Option Value)} (a14 : PySem.W.nsIn K mainGlobals "_law_signs_right" = some (some (.ref f14))) (l14 : K.lookup f14 = some ⟨oc14, od14, .func (PySem.W.fnOf "_law_signs_right" "_law_signs_right" (defArgs s_law_signs_right) (defBody s_law_signs_right) (defScope s_law_signs_right) .none kV14 dc14 pm14 an14 cd14 ct14), sl14⟩) (c14 : PySem.W.codeIn K cd14 "_law_signs_right" = true) (k14 : PySem.W.keepIn K (.ref f14) = true)
    {f15 : Addr} {oc15 kV15 dc15 pm15 cd15 ct15 : Value} {od15 an15 : Option Addr} {sl15 : Array (Option Value)} (a15 : PySem.W.nsIn K mainGlobals "_law_within" = some (some (.ref f15))) (l15 : K.lookup f15 = some ⟨oc15, od15, .func (PySem.W.fnOf "_law_within" "_law_within" (defArgs s_law_within) (defBody s_law_within) (defScope s_law_within) .none kV15 dc15 pm15 an15 cd15 ct15), sl15⟩) (c15 : PySem.W.codeIn K cd15 "_law_within" = true) (k15 : PySem.W.keepIn K (.ref f15) = true)
    {f16 : Addr} {oc16 kV16 dc16 pm16 cd16 ct16 : Value} {od16 an16 : Option Addr} {sl16 : Array (Option Value)} (a16 : PySem.W.nsIn K mainGlobals "_law_keeps_right" = some (some (.ref f16))) (l16 : K.lookup f16 = some ⟨oc16, od16, .func (PySem.W.fnOf "_law_keeps_right" "_law_keeps_right" (defArgs s_law_keeps_right) (defBody s_law_keeps_right) (defScope s_law_keeps_right) .none kV16 dc16 pm16 an16 cd16 ct16), sl16⟩) (c16 : PySem.W.codeIn K cd16 "_law_keeps_right" = true) (k16 : PySem.W.keepIn K (.ref f16) = true)
    {f17 : Addr} {oc17 kV17 dc17 pm17 cd17 ct17 : Value} {od17 an17 : Option Addr} {sl17 : Array (Option Value)} (a17 : PySem.W.nsIn K mainGlobals "_law_home_right" = some (some (.ref f17))) (l17 : K.lookup f17 = some ⟨oc17, od17, .func (PySem.W.fnOf "_law_home_right" "_law_home_right" (defArgs s_law_home_right) (defBody s_law_home_right) (defScope s_law_home_right) .none kV17 dc17 pm17 an17 cd17 ct17), sl17⟩) (c17 : PySem.W.codeIn K cd17 "_law_home_right" = true) (k17 : PySem.W.keepIn K (.ref f17) = true)
    {f18 : Addr} {oc18 kV18 dc18 pm18 cd18 ct18 : Value} {od18 an18 : Option Addr} {sl18 : Array (Option Value)} (a18 : PySem.W.nsIn K mainGlobals "_law_part_right" = some (some (.ref f18))) (l18 : K.lookup f18 = some ⟨oc18, od18, .func (PySem.W.fnOf "_law_part_right" "_law_part_right" (defArgs s_law_part_right) (defBody s_law_part_right) (defScope s_law_part_right) .none kV18 dc18 pm18 an18 cd18 ct18), sl18⟩) (c18 : PySem.W.codeIn K cd18 "_law_part_right" = true) (k18 : PySem.W.keepIn K (.ref f18) = true)
    {f19 : Addr} {oc19 kV19 dc19 pm19 cd19 ct19 : Value} {od19 an19 : Option Addr} {sl19 : Array (Option Value)} (a19 : PySem.W.nsIn K mainGlobals "_law_line_right" = some (some (.ref f19))) (l19 : K.lookup f19 = some ⟨oc19, od19, .func (PySem.W.fnOf "_law_line_right" "_law_line_right" (defArgs s_law_line_right) (defBody s_law_line_right) (defScope s_law_line_right) .none kV19 dc19 pm19 an19 cd19 ct19), sl19⟩) (c19 : PySem.W.codeIn K cd19 "_law_line_right" = true) (k19 : PySem.W.keepIn K (.ref f19) = true)
    {f20 : Addr} {oc20 kV20 dc20 pm20 cd20 ct20 : Value} {od20 an20 : Option Addr} {sl20 : Array (Option Value)} (a20 : PySem.W.nsIn K mainGlobals "_law_def_right" = some (some (.ref f20))) (l20 : K.lookup f20 = some ⟨oc20, od20, .func (PySem.W.fnOf "_law_def_right" "_law_def_right" (defArgs s_law_def_right) (defBody s_law_def_right) (defScope s_law_def_right) .none kV20 dc20 pm20 an20 cd20 ct20), sl20⟩) (c20 : PySem.W.codeIn K cd20 "_law_def_right" = true) (k20 : PySem.W.keepIn K (.ref f20) = true)
    {f21 : Addr} {oc21 kV21 dc21 pm21 cd21 ct21 : Value} {od21 an21 : Option Addr} {sl21 : Array (Option Value)} (a21 : PySem.W.nsIn K mainGlobals "_law_due" = some (some (.ref f21))) (l21 : K.lookup f21 = some ⟨oc21, od21, .func (PySem.W.fnOf "_law_due" "_law_due" (defArgs s_law_due) (defBody s_law_due) (defScope s_law_due) .none kV21 dc21 pm21 an21 cd21 ct21), sl21⟩) (c21 : PySem.W.codeIn K cd21 "_law_due" = true) (k21 : PySem.W.keepIn K (.ref f21) = true)
    {f22 : Addr} {oc22 kV22 dc22 pm22 cd22 ct22 : Value} {od22 an22 : Option Addr} {sl22 : Array (Option Value)} (a22 : PySem.W.nsIn K mainGlobals "parts_of" = some (some (.ref f22))) (l22 : K.lookup f22 = some ⟨oc22, od22, .func (PySem.W.fnOf "parts_of" "parts_of" (defArgs s_parts_of) (defBody s_parts_of) (defScope s_parts_of) .none kV22 dc22 pm22 an22 cd22 ct22), sl22⟩) (c22 : PySem.W.codeIn K cd22 "parts_of" = true) (k22 : PySem.W.keepIn K (.ref f22) = true)
    {f23 : Addr} {oc23 kV23 dc23 pm23 cd23 ct23 : Value} {od23 an23 : Option Addr} {sl23 : Array (Option Value)} (a23 : PySem.W.nsIn K mainGlobals "are_signs" = some (some (.ref f23))) (l23 : K.lookup f23 = some ⟨oc23, od23, .func (PySem.W.fnOf "are_signs" "are_signs" (defArgs s_are_signs) (defBody s_are_signs) (defScope s_are_signs) .none kV23 dc23 pm23 an23 cd23 ct23), sl23⟩) (c23 : PySem.W.codeIn K cd23 "are_signs" = true) (k23 : PySem.W.keepIn K (.ref f23) = true)
    {f24 : Addr} {oc24 kV24 dc24 pm24 cd24 ct24 : Value} {od24 an24 : Option Addr} {sl24 : Array (Option Value)} (a24 : PySem.W.nsIn K mainGlobals "is_whole" = some (some (.ref f24))) (l24 : K.lookup f24 = some ⟨oc24, od24, .func (PySem.W.fnOf "is_whole" "is_whole" (defArgs s_is_whole) (defBody s_is_whole) (defScope s_is_whole) .none kV24 dc24 pm24 an24 cd24 ct24), sl24⟩) (c24 : PySem.W.codeIn K cd24 "is_whole" = true) (k24 : PySem.W.keepIn K (.ref f24) = true)
    {f25 : Addr} {oc25 kV25 dc25 pm25 cd25 ct25 : Value} {od25 an25 : Option Addr} {sl25 : Array (Option Value)} (a25 : PySem.W.nsIn K mainGlobals "is_within" = some (some (.ref f25))) (l25 : K.lookup f25 = some ⟨oc25, od25, .func (PySem.W.fnOf "is_within" "is_within" (defArgs s_is_within) (defBody s_is_within) (defScope s_is_within) .none kV25 dc25 pm25 an25 cd25 ct25), sl25⟩) (c25 : PySem.W.codeIn K cd25 "is_within" = true) (k25 : PySem.W.keepIn K (.ref f25) = true)
    {f26 : Addr} {oc26 kV26 dc26 pm26 cd26 ct26 : Value} {od26 an26 : Option Addr} {sl26 : Array (Option Value)} (a26 : PySem.W.nsIn K mainGlobals "are_keeps" = some (some (.ref f26))) (l26 : K.lookup f26 = some ⟨oc26, od26, .func (PySem.W.fnOf "are_keeps" "are_keeps" (defArgs s_are_keeps) (defBody s_are_keeps) (defScope s_are_keeps) .none kV26 dc26 pm26 an26 cd26 ct26), sl26⟩) (c26 : PySem.W.codeIn K cd26 "are_keeps" = true) (k26 : PySem.W.keepIn K (.ref f26) = true)
    {f27 : Addr} {oc27 kV27 dc27 pm27 cd27 ct27 : Value} {od27 an27 : Option Addr} {sl27 : Array (Option Value)} (a27 : PySem.W.nsIn K mainGlobals "is_home" = some (some (.ref f27))) (l27 : K.lookup f27 = some ⟨oc27, od27, .func (PySem.W.fnOf "is_home" "is_home" (defArgs s_is_home) (defBody s_is_home) (defScope s_is_home) .none kV27 dc27 pm27 an27 cd27 ct27), sl27⟩) (c27 : PySem.W.codeIn K cd27 "is_home" = true) (k27 : PySem.W.keepIn K (.ref f27) = true)
    {f28 : Addr} {oc28 kV28 dc28 pm28 cd28 ct28 : Value} {od28 an28 : Option Addr} {sl28 : Array (Option Value)} (a28 : PySem.W.nsIn K mainGlobals "is_part" = some (some (.ref f28))) (l28 : K.lookup f28 = some ⟨oc28, od28, .func (PySem.W.fnOf "is_part" "is_part" (defArgs s_is_part) (defBody s_is_part) (defScope s_is_part) .none kV28 dc28 pm28 an28 cd28 ct28), sl28⟩) (c28 : PySem.W.codeIn K cd28 "is_part" = true) (k28 : PySem.W.keepIn K (.ref f28) = true)
    {f29 : Addr} {oc29 kV29 dc29 pm29 cd29 ct29 : Value} {od29 an29 : Option Addr} {sl29 : Array (Option Value)} (a29 : PySem.W.nsIn K mainGlobals "is_line" = some (some (.ref f29))) (l29 : K.lookup f29 = some ⟨oc29, od29, .func (PySem.W.fnOf "is_line" "is_line" (defArgs s_is_line) (defBody s_is_line) (defScope s_is_line) .none kV29 dc29 pm29 an29 cd29 ct29), sl29⟩) (c29 : PySem.W.codeIn K cd29 "is_line" = true) (k29 : PySem.W.keepIn K (.ref f29) = true)
    {f30 : Addr} {oc30 kV30 dc30 pm30 cd30 ct30 : Value} {od30 an30 : Option Addr} {sl30 : Array (Option Value)} (a30 : PySem.W.nsIn K mainGlobals "are_lines" = some (some (.ref f30))) (l30 : K.lookup f30 = some ⟨oc30, od30, .func (PySem.W.fnOf "are_lines" "are_lines" (defArgs s_are_lines) (defBody s_are_lines) (defScope s_are_lines) .none kV30 dc30 pm30 an30 cd30 ct30), sl30⟩) (c30 : PySem.W.codeIn K cd30 "are_lines" = true) (k30 : PySem.W.keepIn K (.ref f30) = true)
    {f31 : Addr} {oc31 kV31 dc31 pm31 cd31 ct31 : Value} {od31 an31 : Option Addr} {sl31 : Array (Option Value)} (a31 : PySem.W.nsIn K mainGlobals "next_lines" = some (some (.ref f31))) (l31 : K.lookup f31 = some ⟨oc31, od31, .func (PySem.W.fnOf "next_lines" "next_lines" (defArgs s_next_lines) (defBody s_next_lines) (defScope s_next_lines) .none kV31 dc31 pm31 an31 cd31 ct31), sl31⟩) (c31 : PySem.W.codeIn K cd31 "next_lines" = true) (k31 : PySem.W.keepIn K (.ref f31) = true)
    {f32 : Addr} {oc32 kV32 dc32 pm32 cd32 ct32 : Value} {od32 an32 : Option Addr} {sl32 : Array (Option Value)} (a32 : PySem.W.nsIn K mainGlobals "stays_within" = some (some (.ref f32))) (l32 : K.lookup f32 = some ⟨oc32, od32, .func (PySem.W.fnOf "stays_within" "stays_within" (defArgs s_stays_within) (defBody s_stays_within) (defScope s_stays_within) .none kV32 dc32 pm32 an32 cd32 ct32), sl32⟩) (c32 : PySem.W.codeIn K cd32 "stays_within" = true) (k32 : PySem.W.keepIn K (.ref f32) = true)
    {f33 : Addr} {oc33 kV33 dc33 pm33 cd33 ct33 : Value} {od33 an33 : Option Addr} {sl33 : Array (Option Value)} (a33 : PySem.W.nsIn K mainGlobals "writes" = some (some (.ref f33))) (l33 : K.lookup f33 = some ⟨oc33, od33, .func (PySem.W.fnOf "writes" "writes" (defArgs s_writes) (defBody s_writes) (defScope s_writes) .none kV33 dc33 pm33 an33 cd33 ct33), sl33⟩) (c33 : PySem.W.codeIn K cd33 "writes" = true) (k33 : PySem.W.keepIn K (.ref f33) = true)
    {f34 : Addr} {oc34 kV34 dc34 pm34 cd34 ct34 : Value} {od34 an34 : Option Addr} {sl34 : Array (Option Value)} (a34 : PySem.W.nsIn K mainGlobals "has_own_homes" = some (some (.ref f34))) (l34 : K.lookup f34 = some ⟨oc34, od34, .func (PySem.W.fnOf "has_own_homes" "has_own_homes" (defArgs s_has_own_homes) (defBody s_has_own_homes) (defScope s_has_own_homes) .none kV34 dc34 pm34 an34 cd34 ct34), sl34⟩) (c34 : PySem.W.codeIn K cd34 "has_own_homes" = true) (k34 : PySem.W.keepIn K (.ref f34) = true)
    {f35 : Addr} {oc35 kV35 dc35 pm35 cd35 ct35 : Value} {od35 an35 : Option Addr} {sl35 : Array (Option Value)} (a35 : PySem.W.nsIn K mainGlobals "is_def" = some (some (.ref f35))) (l35 : K.lookup f35 = some ⟨oc35, od35, .func (PySem.W.fnOf "is_def" "is_def" (defArgs s_is_def) (defBody s_is_def) (defScope s_is_def) .none kV35 dc35 pm35 an35 cd35 ct35), sl35⟩) (c35 : PySem.W.codeIn K cd35 "is_def" = true) (k35 : PySem.W.keepIn K (.ref f35) = true)
    {f36 : Addr} {oc36 kV36 dc36 pm36 cd36 ct36 : Value} {od36 an36 : Option Addr} {sl36 : Array (Option Value)} (a36 : PySem.W.nsIn K mainGlobals "is_program" = some (some (.ref f36))) (l36 : K.lookup f36 = some ⟨oc36, od36, .func (PySem.W.fnOf "is_program" "is_program" (defArgs s_is_program) (defBody s_is_program) (defScope s_is_program) .none kV36 dc36 pm36 an36 cd36 ct36), sl36⟩) (c36 : PySem.W.codeIn K cd36 "is_program" = true) (k36 : PySem.W.keepIn K (.ref f36) = true)
    {f37 : Addr} {oc37 kV37 dc37 pm37 cd37 ct37 : Value} {od37 an37 : Option Addr} {sl37 : Array (Option Value)} (a37 : PySem.W.nsIn K mainGlobals "law" = some (some (.ref f37))) (l37 : K.lookup f37 = some ⟨oc37, od37, .func (PySem.W.fnOf "law" "law" (defArgs s_law) (defBody s_law) (defScope s_law) .none kV37 dc37 pm37 an37 cd37 ct37), sl37⟩) (c37 : PySem.W.codeIn K cd37 "law" = true) (k37 : PySem.W.keepIn K (.ref f37) = true)
    (b0 : PySem.W.nsIn K mainGlobals "abs" = some none)
    (b1 : PySem.W.nsIn K mainGlobals "all" = some none)
    (b2 : PySem.W.nsIn K mainGlobals "bool" = some none)
    (b3 : PySem.W.nsIn K mainGlobals "enumerate" = some none)
    (b4 : PySem.W.nsIn K mainGlobals "int" = some none)
    (b5 : PySem.W.nsIn K mainGlobals "isinstance" = some none)
    (b6 : PySem.W.nsIn K mainGlobals "len" = some none)
    (b7 : PySem.W.nsIn K mainGlobals "list" = some none)
    (b8 : PySem.W.nsIn K mainGlobals "max" = some none)
    (b9 : PySem.W.nsIn K mainGlobals "min" = some none)
    (b10 : PySem.W.nsIn K mainGlobals "range" = some none)
    (b11 : PySem.W.nsIn K mainGlobals "repr" = some none)
    (b12 : PySem.W.nsIn K mainGlobals "set" = some none)
    (b13 : PySem.W.nsIn K mainGlobals "sorted" = some none)
    (b14 : PySem.W.nsIn K mainGlobals "str" = some none)
    (b15 : PySem.W.nsIn K mainGlobals "tuple" = some none)
    (b16 : PySem.W.nsIn K mainGlobals "zip" = some none)
    {t0 : Tok} (d0 : PySem.W.nsIn K mainGlobals "BINS" = some (some (.int 4 t0)))
    {t1 : Tok} (d1 : PySem.W.nsIn K mainGlobals "CALLED" = some (some (.str "called" t1)))
    {ga2 : Addr} {go2 : Obj} (d2 : PySem.W.nsIn K mainGlobals "CHOOSING" = some (some (.ref ga2))) (dl2 : K.lookup ga2 = some go2) (dt2 : tupC go2 [(.str "if"), (.str "ifnone"), (.str "same")] = true)
    {t3 : Tok} (d3 : PySem.W.nsIn K mainGlobals "FEW" = some (some (.str "few" t3)))
    {t4 : Tok} (d4 : PySem.W.nsIn K mainGlobals "FIELD" = some (some (.str "field" t4)))
    {t5 : Tok} (d5 : PySem.W.nsIn K mainGlobals "GOAL" = some (some (.str "goal" t5)))
    {t6 : Tok} (d6 : PySem.W.nsIn K mainGlobals "LAST_FIELD" = some (some (.int 2 t6)))
    {t7 : Tok} (d7 : PySem.W.nsIn K mainGlobals "MOST_DEFS" = some (some (.int 6 t7)))
    {t8 : Tok} (d8 : PySem.W.nsIn K mainGlobals "MOST_LINES" = some (some (.int 24 t8)))
    {t9 : Tok} (d9 : PySem.W.nsIn K mainGlobals "MOST_OF_A_BOX" = some (some (.int 3 t9)))
    {t10 : Tok} (d10 : PySem.W.nsIn K mainGlobals "NUMBER" = some (some (.str "number" t10)))
    {ga11 : Addr} {ge11 : Array DictEntry} {gn11 : Nat} (d11 : PySem.W.nsIn K mainGlobals "PARTS" = some (some (.ref ga11))) (dl11 : K.lookup ga11 = some ⟨.type "dict", none, .dict ge11 gn11, #[]⟩) (dk11 : PySem.W.KeysLit w.params ge11.toList) (ds11 : (ga11 == sysModules) = false) (dr11 : strKeys ge11.toList = true) {ha11_0 : Addr} {ho11_0 : Obj} {ha11_1 : Addr} {ho11_1 : Obj} {ha11_2 : Addr} {ho11_2 : Obj} {ha11_3 : Addr} {ho11_3 : Obj} {ha11_4 : Addr} {ho11_4 : Obj} {ha11_5 : Addr} {ho11_5 : Obj} {ha11_6 : Addr} {ho11_6 : Obj} {ha11_7 : Addr} {ho11_7 : Obj} {ha11_8 : Addr} {ho11_8 : Obj} {ha11_9 : Addr} {ho11_9 : Obj} {ha11_10 : Addr} {ho11_10 : Obj} {ha11_11 : Addr} {ho11_11 : Obj} {ha11_12 : Addr} {ho11_12 : Obj} {ha11_13 : Addr} {ho11_13 : Obj} {ha11_14 : Addr} {ho11_14 : Obj} {ha11_15 : Addr} {ho11_15 : Obj} {ha11_16 : Addr} {ho11_16 : Obj} {ha11_17 : Addr} {ho11_17 : Obj} (du11 : kvOf ge11.toList = ([("put", .ref ha11_0), ("none", .ref ha11_1), ("copy", .ref ha11_2), ("add", .ref ha11_3), ("less", .ref ha11_4), ("new", .ref ha11_5), ("getn", .ref ha11_6), ("setn", .ref ha11_7), ("getb", .ref ha11_8), ("setb", .ref ha11_9), ("tell", .ref ha11_10), ("go", .ref ha11_11), ("if", .ref ha11_12), ("ifnone", .ref ha11_13), ("same", .ref ha11_14), ("call", .ref ha11_15), ("back", .ref ha11_16), ("rest", .ref ha11_17)] : List (Str × Value))) (hl11_0 : K.lookup ha11_0 = some ho11_0) (ht11_0 : tupC ho11_0 [(.str "written"), (.str "number")] = true) (hl11_1 : K.lookup ha11_1 = some ho11_1) (ht11_1 : tupC ho11_1 [(.str "written")] = true) (hl11_2 : K.lookup ha11_2 = some ho11_2) (ht11_2 : tupC ho11_2 [(.str "written"), (.str "read")] = true) (hl11_3 : K.lookup ha11_3 = some ho11_3) (ht11_3 : tupC ho11_3 [(.str "written"), (.str "read"), (.str "read")] = true) (hl11_4 : K.lookup ha11_4 = some ho11_4) (ht11_4 : tupC ho11_4 [(.str "written"), (.str "read"), (.str "read")] = true) (hl11_5 : K.lookup ha11_5 = some ho11_5) (ht11_5 : tupC ho11_5 [(.str "written"), (.str "few"), (.str "few")] = true) (hl11_6 : K.lookup ha11_6 = some ho11_6) (ht11_6 : tupC ho11_6 [(.str "written"), (.str "read"), (.str "field")] = true) (hl11_7 : K.lookup ha11_7 = some ho11_7) (ht11_7 : tupC ho11_7 [(.str "read"), (.str "field"), (.str "read")] = true) (hl11_8 : K.lookup ha11_8 = some ho11_8) (ht11_8 : tupC ho11_8 [(.str "written"), (.str "read"), (.str "field")] = true) (hl11_9 : K.lookup ha11_9 = some ho11_9) (ht11_9 : tupC ho11_9 [(.str "read"), (.str "field"), (.str "read")] = true) (hl11_10 : K.lookup ha11_10 = some ho11_10) (ht11_10 : tupC ho11_10 [(.str "read")] = true) (hl11_11 : K.lookup ha11_11 = some ho11_11) (ht11_11 : tupC ho11_11 [(.str "goal")] = true) (hl11_12 : K.lookup ha11_12 = some ho11_12) (ht11_12 : tupC ho11_12 [(.str "read"), (.str "goal")] = true) (hl11_13 : K.lookup ha11_13 = some ho11_13) (ht11_13 : tupC ho11_13 [(.str "read"), (.str "goal")] = true) (hl11_14 : K.lookup ha11_14 = some ho11_14) (ht11_14 : tupC ho11_14 [(.str "read"), (.str "read"), (.str "goal")] = true) (hl11_15 : K.lookup ha11_15 = some ho11_15) (ht11_15 : tupC ho11_15 [(.str "called")] = true) (hl11_16 : K.lookup ha11_16 = some ho11_16) (ht11_16 : tupC ho11_16 [] = true) (hl11_17 : K.lookup ha11_17 = some ho11_17) (ht11_17 : tupC ho11_17 [] = true)
    {t12 : Tok} (d12 : PySem.W.nsIn K mainGlobals "PEGS" = some (some (.int 4 t12)))
    {t13 : Tok} (d13 : PySem.W.nsIn K mainGlobals "READ" = some (some (.str "read" t13)))
    {t14 : Tok} (d14 : PySem.W.nsIn K mainGlobals "SIGNS" = some (some (.str "nb-" t14)))
    {t15 : Tok} (d15 : PySem.W.nsIn K mainGlobals "WRITTEN" = some (some (.str "written" t15))) : Tx K w mg :=
  ⟨⟨_, _, PySem.W.mg_of X G a0, fun_mk (st := s_law_pot) l0 c0 k0⟩, ⟨_, _, PySem.W.mg_of X G a1, fun_mk (st := s_law_take) l1 c1 k1⟩, ⟨_, _, PySem.W.mg_of X G a2, fun_mk (st := s_law_one) l2 c2 k2⟩, ⟨_, _, PySem.W.mg_of X G a3, fun_mk (st := s_law_words) l3 c3 k3⟩, ⟨_, _, PySem.W.mg_of X G a4, fun_mk (st := s_law_home) l4 c4 k4⟩, ⟨_, _, PySem.W.mg_of X G a5, fun_mk (st := s_law_part) l5 c5 k5⟩, ⟨_, _, PySem.W.mg_of X G a6, fun_mk (st := s_law_shape) l6 c6 k6⟩, ⟨_, _, PySem.W.mg_of X G a7, fun_mk (st := s_law_line) l7 c7 k7⟩, ⟨_, _, PySem.W.mg_of X G a8, fun_mk (st := s_law_def) l8 c8 k8⟩, ⟨_, _, PySem.W.mg_of X G a9, fun_mk (st := s_law_program) l9 c9 k9⟩, ⟨_, _, PySem.W.mg_of X G a10, fun_mk (st := s_law_odd_tuple) l10 c10 k10⟩, ⟨_, _, PySem.W.mg_of X G a11, fun_mk (st := s_law_odd_text) l11 c11 k11⟩, ⟨_, _, PySem.W.mg_of X G a12, fun_mk (st := s_law_odd_number) l12 c12 k12⟩, ⟨_, _, PySem.W.mg_of X G a13, fun_mk (st := s_law_otherwise) l13 c13 k13⟩, ⟨_, _, PySem.W.mg_of X G a14, fun_mk (st := s_law_signs_right) l14 c14 k14⟩, ⟨_, _, PySem.W.mg_of X G a15, fun_mk (st := s_law_within) l15 c15 k15⟩, ⟨_, _, PySem.W.mg_of X G a16, fun_mk (st := s_law_keeps_right) l16 c16 k16⟩, ⟨_, _, PySem.W.mg_of X G a17, fun_mk (st := s_law_home_right) l17 c17 k17⟩, ⟨_, _, PySem.W.mg_of X G a18, fun_mk (st := s_law_part_right) l18 c18 k18⟩, ⟨_, _, PySem.W.mg_of X G a19, fun_mk (st := s_law_line_right) l19 c19 k19⟩, ⟨_, _, PySem.W.mg_of X G a20, fun_mk (st := s_law_def_right) l20 c20 k20⟩, ⟨_, _, PySem.W.mg_of X G a21, fun_mk (st := s_law_due) l21 c21 k21⟩, ⟨_, _, PySem.W.mg_of X G a22, fun_mk (st := s_parts_of) l22 c22 k22⟩, ⟨_, _, PySem.W.mg_of X G a23, fun_mk (st := s_are_signs) l23 c23 k23⟩, ⟨_, _, PySem.W.mg_of X G a24, fun_mk (st := s_is_whole) l24 c24 k24⟩, ⟨_, _, PySem.W.mg_of X G a25, fun_mk (st := s_is_within) l25 c25 k25⟩, ⟨_, _, PySem.W.mg_of X G a26, fun_mk (st := s_are_keeps) l26 c26 k26⟩, ⟨_, _, PySem.W.mg_of X G a27, fun_mk (st := s_is_home) l27 c27 k27⟩, ⟨_, _, PySem.W.mg_of X G a28, fun_mk (st := s_is_part) l28 c28 k28⟩, ⟨_, _, PySem.W.mg_of X G a29, fun_mk (st := s_is_line) l29 c29 k29⟩, ⟨_, _, PySem.W.mg_of X G a30, fun_mk (st := s_are_lines) l30 c30 k30⟩, ⟨_, _, PySem.W.mg_of X G a31, fun_mk (st := s_next_lines) l31 c31 k31⟩, ⟨_, _, PySem.W.mg_of X G a32, fun_mk (st := s_stays_within) l32 c32 k32⟩, ⟨_, _, PySem.W.mg_of X G a33, fun_mk (st := s_writes) l33 c33 k33⟩, ⟨_, _, PySem.W.mg_of X G a34, fun_mk (st := s_has_own_homes) l34 c34 k34⟩, ⟨_, _, PySem.W.mg_of X G a35, fun_mk (st := s_is_def) l35 c35 k35⟩, ⟨_, _, PySem.W.mg_of X G a36, fun_mk (st := s_is_program) l36 c36 k36⟩, ⟨_, _, PySem.W.mg_of X G a37, fun_mk (st := s_law) l37 c37 k37⟩, PySem.W.mg_none_of X G b0, PySem.W.mg_none_of X G b1, PySem.W.mg_none_of X G b2, PySem.W.mg_none_of X G b3, PySem.W.mg_none_of X G b4, PySem.W.mg_none_of X G b5, PySem.W.mg_none_of X G b6, PySem.W.mg_none_of X G b7, PySem.W.mg_none_of X G b8, PySem.W.mg_none_of X G b9, PySem.W.mg_none_of X G b10, PySem.W.mg_none_of X G b11, PySem.W.mg_none_of X G b12, PySem.W.mg_none_of X G b13, PySem.W.mg_none_of X G b14, PySem.W.mg_none_of X G b15, PySem.W.mg_none_of X G b16, ⟨_, PySem.W.mg_of X G d0⟩, ⟨_, PySem.W.mg_of X G d1⟩, ⟨_, PySem.W.mg_of X G d2, tupC_ok dl2 dt2⟩, ⟨_, PySem.W.mg_of X G d3⟩, ⟨_, PySem.W.mg_of X G d4⟩, ⟨_, PySem.W.mg_of X G d5⟩, ⟨_, PySem.W.mg_of X G d6⟩, ⟨_, PySem.W.mg_of X G d7⟩, ⟨_, PySem.W.mg_of X G d8⟩, ⟨_, PySem.W.mg_of X G d9⟩, ⟨_, PySem.W.mg_of X G d10⟩, kd_mk (PySem.W.mg_of X G d11) dl11 dk11 ds11 dr11 du11 (.cons (kv_tup hl11_0 ht11_0) (.cons (kv_tup hl11_1 ht11_1) (.cons (kv_tup hl11_2 ht11_2) (.cons (kv_tup hl11_3 ht11_3) (.cons (kv_tup hl11_4 ht11_4) (.cons (kv_tup hl11_5 ht11_5) (.cons (kv_tup hl11_6 ht11_6) (.cons (kv_tup hl11_7 ht11_7) (.cons (kv_tup hl11_8 ht11_8) (.cons (kv_tup hl11_9 ht11_9) (.cons (kv_tup hl11_10 ht11_10) (.cons (kv_tup hl11_11 ht11_11) (.cons (kv_tup hl11_12 ht11_12) (.cons (kv_tup hl11_13 ht11_13) (.cons (kv_tup hl11_14 ht11_14) (.cons (kv_tup hl11_15 ht11_15) (.cons (kv_tup hl11_16 ht11_16) (.cons (kv_tup hl11_17 ht11_17) .nil)))))))))))))))))), ⟨_, PySem.W.mg_of X G d12⟩, ⟨_, PySem.W.mg_of X G d13⟩, ⟨_, PySem.W.mg_of X G d14⟩, ⟨_, PySem.W.mg_of X G d15⟩⟩
theorem walk {l : PySem.W.OpenLaw} {q : Program} {loose : List Str} {XP : (Str → Option Value) → Heap → Prop} {YP : World → Heap → Prop} {d : DefRec} {K : Params → PySem.W.Frag} (hn : l.most = some 63) (hdf : d.params.defaults = []) (hd : d.name = "law")
    (hY : ∀ (w : World) (h : Heap), YP w h → (K w.params).In h) (F : ∀ (w : World) (mg : Str → Option Value) (h : Heap), (K w.params).In h → h.Ns mainGlobals mg → Tx (K w.params) w mg) :
    PySem.W.WalkO q loose XP YP l.row.toRowW d [] (fun f vs => PySem.call f vs) :=
  vwalk (n := 63) (k := 11) (x := "_law_script") (sp := sp_law) hn (by decide) hdf ⟨rfl, by decide, by decide⟩ hY (fun w mg h X G base _ _ => by rw [hd]; exact ok_law (F w mg h X G)) law_end
end Lw
open PySem PySem.W PyProof.Rows
set_option maxRecDepth 100000 in
set_option maxHeartbeats 0 in
theorem PySem.Challenge.cw_livepoints_k16_whole_programs_spoilt_any_holds : PySem.Challenge.rw_livepoints_k16_whole_programs_spoilt_any.Holds := by
  w_on; o_law; k_head; (case hw => w_witness2)
  k_fill
  refine Lw.walk (l := PySem.Challenge.rw_livepoints_k16_whole_programs_spoilt_any) rfl rfl rfl (fun w h Y => PySem.W.kIn_of Y) ?F
  case F =>
    intro w mg h KX G
    refine' Lw.tx_mk KX G ?a0 ?l0 ?c0 ?k0 ?a1 ?l1 ?c1 ?k1 ?a2 ?l2 ?c2 ?k2 ?a3 ?l3 ?c3 ?k3 ?a4 ?l4 ?c4 ?k4 ?a5 ?l5 ?c5 ?k5 ?a6 ?l6 ?c6 ?k6 ?a7 ?l7 ?c7 ?k7 ?a8 ?l8 ?c8 ?k8 ?a9 ?l9 ?c9 ?k9 ?a10 ?l10 ?c10 ?k10 ?a11 ?l11 ?c11 ?k11 ?a12 ?l12 ?c12 ?k12 ?a13 ?l13 ?c13 ?k13 ?a14 ?l14 ?c14 ?k14 ?a15 ?l15 ?c15 ?k15 ?a16 ?l16 ?c16 ?k16 ?a17 ?l17 ?c17 ?k17 ?a18 ?l18 ?c18 ?k18 ?a19 ?l19 ?c19 ?k19 ?a20 ?l20 ?c20 ?k20 ?a21 ?l21 ?c21 ?k21 ?a22 ?l22 ?c22 ?k22 ?a23 ?l23 ?c23 ?k23 ?a24 ?l24 ?c24 ?k24 ?a25 ?l25 ?c25 ?k25 ?a26 ?l26 ?c26 ?k26 ?a27 ?l27 ?c27 ?k27 ?a28 ?l28 ?c28 ?k28 ?a29 ?l29 ?c29 ?k29 ?a30 ?l30 ?c30 ?k30 ?a31 ?l31 ?c31 ?k31 ?a32 ?l32 ?c32 ?k32 ?a33 ?l33 ?c33 ?k33 ?a34 ?l34 ?c34 ?k34 ?a35 ?l35 ?c35 ?k35 ?a36 ?l36 ?c36 ?k36 ?a37 ?l37 ?c37 ?k37 ?b0 ?b1 ?b2 ?b3 ?b4 ?b5 ?b6 ?b7 ?b8 ?b9 ?b10 ?b11 ?b12 ?b13 ?b14 ?b15 ?b16 ?d0 ?d1 ?d2 ?dl2 ?dt2 ?d3 ?d4 ?d5 ?d6 ?d7 ?d8 ?d9 ?d10 ?d11 ?dl11 ?dk11 ?ds11 ?dr11 ?du11 ?hl11_0 ?ht11_0 ?hl11_1 ?ht11_1 ?hl11_2 ?ht11_2 ?hl11_3 ?ht11_3 ?hl11_4 ?ht11_4 ?hl11_5 ?ht11_5 ?hl11_6 ?ht11_6 ?hl11_7 ?ht11_7 ?hl11_8 ?ht11_8 ?hl11_9 ?ht11_9 ?hl11_10 ?ht11_10 ?hl11_11 ?ht11_11 ?hl11_12 ?ht11_12 ?hl11_13 ?ht11_13 ?hl11_14 ?ht11_14 ?hl11_15 ?ht11_15 ?hl11_16 ?ht11_16 ?hl11_17 ?ht11_17 ?d12 ?d13 ?d14 ?d15
    (case a0 => k_is); (case l0 => k_is); (case c0 => k_is); (case k0 => k_is); (case a1 => k_is); (case l1 => k_is); (case c1 => k_is); (case k1 => k_is)
    (case a2 => k_is); (case l2 => k_is); (case c2 => k_is); (case k2 => k_is); (case a3 => k_is); (case l3 => k_is); (case c3 => k_is); (case k3 => k_is)
    (case a4 => k_is); (case l4 => k_is); (case c4 => k_is); (case k4 => k_is); (case a5 => k_is); (case l5 => k_is); (case c5 => k_is); (case k5 => k_is)
    (case a6 => k_is); (case l6 => k_is); (case c6 => k_is); (case k6 => k_is); (case a7 => k_is); (case l7 => k_is); (case c7 => k_is); (case k7 => k_is)
    (case a8 => k_is); (case l8 => k_is); (case c8 => k_is); (case k8 => k_is); (case a9 => k_is); (case l9 => k_is); (case c9 => k_is); (case k9 => k_is)
    (case a10 => k_is); (case l10 => k_is); (case c10 => k_is); (case k10 => k_is); (case a11 => k_is); (case l11 => k_is); (case c11 => k_is); (case k11 => k_is)
    (case a12 => k_is); (case l12 => k_is); (case c12 => k_is); (case k12 => k_is); (case a13 => k_is); (case l13 => k_is); (case c13 => k_is); (case k13 => k_is)
    (case a14 => k_is); (case l14 => k_is); (case c14 => k_is); (case k14 => k_is); (case a15 => k_is); (case l15 => k_is); (case c15 => k_is); (case k15 => k_is)
    (case a16 => k_is); (case l16 => k_is); (case c16 => k_is); (case k16 => k_is); (case a17 => k_is); (case l17 => k_is); (case c17 => k_is); (case k17 => k_is)
    (case a18 => k_is); (case l18 => k_is); (case c18 => k_is); (case k18 => k_is); (case a19 => k_is); (case l19 => k_is); (case c19 => k_is); (case k19 => k_is)
    (case a20 => k_is); (case l20 => k_is); (case c20 => k_is); (case k20 => k_is); (case a21 => k_is); (case l21 => k_is); (case c21 => k_is); (case k21 => k_is)
    (case a22 => k_is); (case l22 => k_is); (case c22 => k_is); (case k22 => k_is); (case a23 => k_is); (case l23 => k_is); (case c23 => k_is); (case k23 => k_is)
    (case a24 => k_is); (case l24 => k_is); (case c24 => k_is); (case k24 => k_is); (case a25 => k_is); (case l25 => k_is); (case c25 => k_is); (case k25 => k_is)
    (case a26 => k_is); (case l26 => k_is); (case c26 => k_is); (case k26 => k_is); (case a27 => k_is); (case l27 => k_is); (case c27 => k_is); (case k27 => k_is)
    (case a28 => k_is); (case l28 => k_is); (case c28 => k_is); (case k28 => k_is); (case a29 => k_is); (case l29 => k_is); (case c29 => k_is); (case k29 => k_is)
    (case a30 => k_is); (case l30 => k_is); (case c30 => k_is); (case k30 => k_is); (case a31 => k_is); (case l31 => k_is); (case c31 => k_is); (case k31 => k_is)
    (case a32 => k_is); (case l32 => k_is); (case c32 => k_is); (case k32 => k_is); (case a33 => k_is); (case l33 => k_is); (case c33 => k_is); (case k33 => k_is)
    (case a34 => k_is); (case l34 => k_is); (case c34 => k_is); (case k34 => k_is); (case a35 => k_is); (case l35 => k_is); (case c35 => k_is); (case k35 => k_is)
    (case a36 => k_is); (case l36 => k_is); (case c36 => k_is); (case k36 => k_is); (case a37 => k_is); (case l37 => k_is); (case c37 => k_is); (case k37 => k_is)
    (case b0 => k_is); (case b1 => k_is); (case b2 => k_is); (case b3 => k_is); (case b4 => k_is); (case b5 => k_is); (case b6 => k_is); (case b7 => k_is)
    (case b8 => k_is); (case b9 => k_is); (case b10 => k_is); (case b11 => k_is); (case b12 => k_is); (case b13 => k_is); (case b14 => k_is); (case b15 => k_is)
    (case b16 => k_is); (case d0 => k_is); (case d1 => k_is); (case d2 => k_is); (case dl2 => k_is); (case dt2 => first | decide +kernel | (dsimp only; decide +kernel)); (case d3 => k_is); (case d4 => k_is)
    (case d5 => k_is); (case d6 => k_is); (case d7 => k_is); (case d8 => k_is); (case d9 => k_is); (case d10 => k_is); (case d11 => k_is); (case dl11 => k_is)
    (case dk11 => repeat' first | exact trivial | refine ⟨⟨_, _, rfl, rfl⟩, ?_⟩); (case ds11 => first | decide +kernel | (dsimp only; decide +kernel)); (case dr11 => rfl); (case du11 => rfl); (case hl11_0 => k_is); (case ht11_0 => first | decide +kernel | (dsimp only; decide +kernel)); (case hl11_1 => k_is); (case ht11_1 => first | decide +kernel | (dsimp only; decide +kernel))
    (case hl11_2 => k_is); (case ht11_2 => first | decide +kernel | (dsimp only; decide +kernel)); (case hl11_3 => k_is); (case ht11_3 => first | decide +kernel | (dsimp only; decide +kernel)); (case hl11_4 => k_is); (case ht11_4 => first | decide +kernel | (dsimp only; decide +kernel)); (case hl11_5 => k_is); (case ht11_5 => first | decide +kernel | (dsimp only; decide +kernel))
    (case hl11_6 => k_is); (case ht11_6 => first | decide +kernel | (dsimp only; decide +kernel)); (case hl11_7 => k_is); (case ht11_7 => first | decide +kernel | (dsimp only; decide +kernel)); (case hl11_8 => k_is); (case ht11_8 => first | decide +kernel | (dsimp only; decide +kernel)); (case hl11_9 => k_is); (case ht11_9 => first | decide +kernel | (dsimp only; decide +kernel))
    (case hl11_10 => k_is); (case ht11_10 => first | decide +kernel | (dsimp only; decide +kernel)); (case hl11_11 => k_is); (case ht11_11 => first | decide +kernel | (dsimp only; decide +kernel)); (case hl11_12 => k_is); (case ht11_12 => first | decide +kernel | (dsimp only; decide +kernel)); (case hl11_13 => k_is); (case ht11_13 => first | decide +kernel | (dsimp only; decide +kernel))
    (case hl11_14 => k_is); (case ht11_14 => first | decide +kernel | (dsimp only; decide +kernel)); (case hl11_15 => k_is); (case ht11_15 => first | decide +kernel | (dsimp only; decide +kernel)); (case hl11_16 => k_is); (case ht11_16 => first | decide +kernel | (dsimp only; decide +kernel)); (case hl11_17 => k_is); (case ht11_17 => first | decide +kernel | (dsimp only; decide +kernel))
    (case d12 => k_is); (case d13 => k_is); (case d14 => k_is); (case d15 => k_is)

