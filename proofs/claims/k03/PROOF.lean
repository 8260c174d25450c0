import PyProof.Rows.All
import Wide.All
import OpenK.AllK
import Wide.FinOn
import HandS.ForMost
import HandS.Wide
import HandS.TupAny
import HandS.TupMul
import HandS.IsInst
import HandS.SortInts
import HandS.Deep
import HandS.Remove
import HandS.SetFor
import HandS.Walk
import KE.GoesEnum
import HandS.Style
import HandS.Strs
import HandS.Conv
import HandS.More
import KE.KIndexOf
import KE.KDictSum
import HandS.WordsDict
import HandS.DictComp
import HandS.TupSets
import HandS.Iter
import KE.KDictZip
import KE.GoesZip
import KE.SortData
import PySem.Challenge.RW_latebuffer_k03_whole_streams_and_latenes
set_option Elab.async false
set_option linter.all false
set_option maxRecDepth 100000
set_option maxHeartbeats 2000000
set_option autoImplicit false
set_option Elab.async false
set_option linter.all false
set_option maxRecDepth 100000
set_option autoImplicit false
/-! DL1: values as data, slots, states, the judgements over data. -/
namespace DL
open PySem PySem.Spec PyProof.Rows L2

abbrev Pd := PyData

/-! ### data in a heap of frozen objects -/
/-- a tuple that is known to its object, which bears no dict (so its methods are found) -/
def TupF (F : Hp) (a : Addr) (vs : List V) : Prop := ∃ o : Obj, F a = some (.frz o (.tup vs)) ∧ o.dict = none
theorem TupF.mono {F F' : Hp} (k : Same F F') {a : Addr} {vs : List V} (h : TupF F a vs) : TupF F' a vs := let ⟨o, e, d⟩ := h; ⟨o, k _ _ e, d⟩
theorem TupF.sq {K : PySem.W.Frag} {F : Hp} {a : Addr} {vs : List V} (h : TupF F a vs) : SqT K F a vs := let ⟨o, e, _⟩ := h; .inl (.inr ⟨o, e⟩)
mutual
def Da (F : Hp) : Pd → V → Prop
  | .none, v => v = .non
  | .bool b, v => v = .bl b
  | .int i, v => v = .int i
  | .str x, v => v = .str x
  | .list ds, v => ∃ a vs, v = .ref a ∧ F a = some (.lst vs) ∧ vs.length ≤ sizeLine ∧ DaL F ds vs
  | .tuple ds, v => ∃ a vs, v = .ref a ∧ TupF F a vs ∧ vs.length ≤ sizeLine ∧ DaL F ds vs
  | .dict _, _ => False
def DaL (F : Hp) : List Pd → List V → Prop
  | [], vs => vs = []
  | d :: ds, vs => ∃ v ws, vs = v :: ws ∧ Da F d v ∧ DaL F ds ws
end

mutual
theorem Da.mono {F F' : Hp} (k : Same F F') : ∀ {d : Pd} {v : V}, Da F d v → Da F' d v
  | .none, _, h => h
  | .bool _, _, h => h
  | .int _, _, h => h
  | .str _, _, h => h
  | .list _, _, ⟨a, vs, e, f, z, r⟩ => ⟨a, vs, e, k _ _ f, z, DaL.mono k r⟩
  | .tuple _, _, ⟨a, vs, e, f, z, r⟩ => ⟨a, vs, e, f.mono k, z, DaL.mono k r⟩
  | .dict _, _, h => h
theorem DaL.mono {F F' : Hp} (k : Same F F') : ∀ {ds : List Pd} {vs : List V}, DaL F ds vs → DaL F' ds vs
  | [], _, h => h
  | _ :: _, _, ⟨v, ws, e, a, b⟩ => ⟨v, ws, e, Da.mono k a, DaL.mono k b⟩
end
theorem DaL.length {F : Hp} : ∀ {ds : List Pd} {vs : List V}, DaL F ds vs → ds.length = vs.length
  | [], _, h => by cases (show _ = _ from h); rfl
  | _ :: _, _, ⟨v, ws, e, _, b⟩ => by rw [e, List.length_cons, List.length_cons, DaL.length b]
theorem DaL.get {F : Hp} : ∀ {ds : List Pd} {vs : List V} {i : Nat} {v : V}, DaL F ds vs → vs[i]? = some v → ∃ d, ds[i]? = some d ∧ Da F d v
  | [], _, i, v, h, g => by cases (show _ = _ from h); simp at g
  | d :: ds, _, 0, v, ⟨w, ws, e, a, b⟩, g => by subst e; simp at g; subst g; exact ⟨d, rfl, a⟩
  | d :: ds, _, i + 1, v, ⟨w, ws, e, a, b⟩, g => by
    subst e
    obtain ⟨d', h1, h2⟩ := DaL.get (i := i) (v := v) b (by simpa using g)
    exact ⟨d', by simpa using h1, h2⟩
theorem DaL.get' {F : Hp} : ∀ {ds : List Pd} {vs : List V} {i : Nat} {d : Pd}, DaL F ds vs → ds[i]? = some d → ∃ v, vs[i]? = some v ∧ Da F d v
  | [], _, i, v, h, g => by simp at g
  | d :: ds, _, 0, v, ⟨w, ws, e, a, b⟩, g => by subst e; simp at g; subst g; exact ⟨w, rfl, a⟩
  | d :: ds, _, i + 1, v, ⟨w, ws, e, a, b⟩, g => by
    subst e
    obtain ⟨d', h1, h2⟩ := DaL.get' (i := i) (d := v) b (by simpa using g)
    exact ⟨d', by simpa using h1, h2⟩
theorem DaL.append {F : Hp} : ∀ {ds es : List Pd} {vs ws : List V}, DaL F ds vs → DaL F es ws → DaL F (ds ++ es) (vs ++ ws)
  | [], _, _, _, h, k => by cases (show _ = _ from h); exact k
  | _ :: _, _, _, _, ⟨v, ws, e, a, b⟩, k => by subst e; exact ⟨v, _, rfl, a, DaL.append b k⟩
theorem DaL.take {F : Hp} : ∀ {ds : List Pd} {vs : List V} (n : Nat), DaL F ds vs → DaL F (ds.take n) (vs.take n)
  | _, _, 0, _ => rfl
  | [], _, n + 1, h => by cases (show _ = _ from h); rfl
  | _ :: _, _, n + 1, ⟨v, ws, e, a, b⟩ => by subst e; exact ⟨v, _, rfl, a, DaL.take n b⟩
theorem DaL.drop {F : Hp} : ∀ {ds : List Pd} {vs : List V} (n : Nat), DaL F ds vs → DaL F (ds.drop n) (vs.drop n)
  | _, _, 0, h => h
  | [], _, n + 1, h => by cases (show _ = _ from h); rfl
  | _ :: _, _, n + 1, ⟨v, ws, e, a, b⟩ => by subst e; exact DaL.drop n b
theorem DaL.snoc {F : Hp} {ds : List Pd} {vs : List V} {d : Pd} {v : V} (h : DaL F ds vs) (k : Da F d v) : DaL F (ds ++ [d]) (vs ++ [v]) := h.append ⟨v, [], rfl, k, rfl⟩
theorem DaL.reverse {F : Hp} : ∀ {ds : List Pd} {vs : List V}, DaL F ds vs → DaL F ds.reverse vs.reverse
  | [], _, h => by cases (show _ = _ from h); rfl
  | _ :: _, _, ⟨v, ws, e, a, b⟩ => by subst e; rw [List.reverse_cons, List.reverse_cons]; exact (DaL.reverse b).snoc a
theorem DaL.ints {F : Hp} : ∀ {ns : List Int} {vs : List V}, DaL F (ns.map .int) vs → vs = ns.map V.int
  | [], _, h => h
  | n :: ns, _, ⟨v, ws, e, a, b⟩ => by rw [e, show v = V.int n from a, DaL.ints b]; rfl
theorem DaL.of_ints {F : Hp} : ∀ {ns : List Int}, DaL F (ns.map .int) (ns.map V.int)
  | [] => rfl
  | n :: ns => ⟨_, _, rfl, rfl, DaL.of_ints⟩
theorem DaL.bools {F : Hp} : ∀ {bs : List Bool} {vs : List V}, DaL F (bs.map .bool) vs → vs = bs.map V.bl
  | [], _, h => h
  | n :: ns, _, ⟨v, ws, e, a, b⟩ => by rw [e, show v = V.bl n from a, DaL.bools b]; rfl
/-- the same value has one datum -/
theorem Da.ref_none {F : Hp} {d : Pd} {a : Addr} (h : Da F d (.ref a)) : F a ≠ none := by
  cases d with
  | none => cases (show V.ref a = .non from h)
  | bool _ => cases (show V.ref a = _ from h)
  | int _ => cases (show V.ref a = _ from h)
  | str _ => cases (show V.ref a = _ from h)
  | list ds =>
    obtain ⟨b, vs, e, f, _⟩ := h
    cases e
    rw [f]; exact fun z => by cases z
  | tuple ds =>
    obtain ⟨b, vs, e, ⟨o, f, _⟩, _⟩ := h
    cases e
    rw [f]; exact fun z => by cases z
  | dict _ => exact False.elim h
/-! to the layer's own data -/
mutual
theorem Da.dp {K : PySem.W.Frag} {F H : Hp} (k : Same F H) : ∀ {d : Pd} {v : V}, Da F d v → Dp K H v d
  | .none, _, h => by cases (show _ = _ from h); exact .non
  | .bool _, _, h => by cases (show _ = _ from h); exact .bl _
  | .int _, _, h => by cases (show _ = _ from h); exact .int _
  | .str _, _, h => by cases (show _ = _ from h); exact .str _
  | .list _, _, ⟨a, vs, e, f, z, r⟩ => by subst e; exact .lst (SqL.of (k _ _ f)) (DaL.dp k r)
  | .tuple _, _, ⟨a, vs, e, f, z, r⟩ => by subst e; exact .tup (f.mono k).sq (DaL.dp k r)
  | .dict _, _, h => False.elim h
theorem DaL.dp {K : PySem.W.Frag} {F H : Hp} (k : Same F H) : ∀ {ds : List Pd} {vs : List V}, DaL F ds vs → DpAll K H vs ds
  | [], _, h => by cases (show _ = _ from h); exact .nil
  | _ :: _, _, ⟨v, ws, e, a, b⟩ => by subst e; exact .cons (Da.dp k a) (DaL.dp k b)
end

/-! ### a dict whose keys are tuples of ints, each known to its object -/
def hashTI (ns : List Int) : Int := reduceHash (Builtin.Tuple.tupleHashOf (ns.map hashInt))
def entT (x : List Int × Addr × Value) : DictEntry := ⟨hashTI x.1, .ref x.2.1, x.2.2⟩
abbrev UT := List (List Int × Addr × V)
def TDo (a : Addr) (us : UT) : HO := .ext fun h => us.length ≤ sizeLine ∧ (a == sysModules) = false ∧ ∃ xs : List (List Int × Addr × Value),
  Paired (fun (p : List Int × Addr × V) (q : List Int × Addr × Value) => p.1 = q.1 ∧ p.2.1 = q.2.1 ∧ RelV p.2.2 q.2.2) us xs ∧
    ∃ o es ep, h.get? a = some o ∧ o.ExactDict ∧ o.data = .dict es ep ∧ es.toList = xs.map entT ∧ (xs.map (·.1)).Nodup
/-! ### slots -/
/-- what an own object holds -/
inductive Ow where
  | lst (ds : List Pd) | dK (kvs : List (Key × Pd)) | dT (a : Addr) (kvs : List (List Int × Pd))
/-- a thing of several objects, by what is true of them; it owns fp -/
structure Blk where
  fp : List Addr
  val : Option V → Prop
  st : Hp → Hp → Prop
  grow : ∀ {F H F' H' : Hp}, st F H → Same F F' → (∀ q ∈ fp, F' q = none ∧ H' q = H q) → st F' H'
  off : ∀ {F H : Hp}, st F H → ∀ q ∈ fp, F q = none ∧ H q ≠ none
/-- what is known of a name -/
inductive Sl where
  | any | dat (d : Pd) | raw (v : V) | own (p : Addr) (o : Ow) | fz (p : Addr) (kvs : List (Key × Pd)) | sem (B : Blk)

def KD {κ : Type} (F : Hp) (kvs : List (κ × Pd)) (ws : List (κ × V)) : Prop := Paired (fun p q => p.1 = q.1 ∧ Da F p.2 q.2) kvs ws
theorem KD.mono {κ : Type} {F F' : Hp} (k : Same F F') {kvs : List (κ × Pd)} {ws : List (κ × V)} (h : KD F kvs ws) : KD F' kvs ws := Paired.mapP h fun _ _ q => ⟨q.1, q.2.mono k⟩
def KTF (F : Hp) (kvs : List (List Int × Pd)) (us : UT) : Prop := Paired (fun (p : List Int × Pd) (q : List Int × Addr × V) => p.1 = q.1 ∧ TupF F q.2.1 (q.1.map V.int) ∧ Da F p.2 q.2.2) kvs us
theorem KTF.mono {F F' : Hp} (k : Same F F') {kvs : List (List Int × Pd)} {us : UT} (h : KTF F kvs us) : KTF F' kvs us := Paired.mapP h fun _ _ q => ⟨q.1, q.2.1.mono k, q.2.2.mono k⟩
def OwAt (F : Hp) : Ow → HO → Prop
  | .lst ds, h => ∃ vs, h = .lst vs ∧ vs.length ≤ sizeLine ∧ DaL F ds vs
  | .dK kvs, h => ∃ ws, h = .dK ws ∧ KD F kvs ws
  | .dT a kvs, h => ∃ us, h = TDo a us ∧ KTF F kvs us
theorem OwAt.mono {F F' : Hp} (k : Same F F') : ∀ {o : Ow} {h : HO}, OwAt F o h → OwAt F' o h
  | .lst _, _, ⟨vs, e, z, r⟩ => ⟨vs, e, z, r.mono k⟩
  | .dK _, _, ⟨ws, e, r⟩ => ⟨ws, e, r.mono k⟩
  | .dT _ _, _, ⟨us, e, r⟩ => ⟨us, e, r.mono k⟩
def SlAt (F H : Hp) : Sl → Option V → Prop
  | .any, _ => True
  | .dat d, x => ∃ v, x = some v ∧ Da F d v
  | .raw v, x => x = some v
  | .own p o, x => x = some (.ref p) ∧ F p = none ∧ ∃ h, H p = some h ∧ OwAt F o h
  | .fz p kvs, x => x = some (.ref p) ∧ ∃ od ws, F p = some (.frz od (.dK ws)) ∧ KD F kvs ws
  | .sem B, x => B.val x ∧ B.st F H
def fp : Sl → List Addr
  | .own p _ => [p]
  | .sem B => B.fp
  | _ => []
def fps (ρ : List Sl) : List Addr := ρ.flatMap fp
abbrev Own (ρ : List Sl) (p : Addr) : Prop := p ∈ fps ρ
theorem own_of {ρ : List Sl} {i : Nat} {p : Addr} {o : Ow} (h : ρ[i]? = some (Sl.own p o)) : Own ρ p :=
  List.mem_flatMap.mpr ⟨_, List.mem_of_getElem? h, List.mem_singleton.mpr rfl⟩
theorem own_at {ρ : List Sl} {i : Nat} {p : Addr} {s : Sl} (h : ρ[i]? = some s) (hp : p ∈ fp s) : Own ρ p := List.mem_flatMap.mpr ⟨_, List.mem_of_getElem? h, hp⟩
theorem of_own {ρ : List Sl} {p : Addr} (h : Own ρ p) : ∃ (i : Nat) (s : Sl), ρ[i]? = some s ∧ p ∈ fp s := by
  obtain ⟨s, hs, hp⟩ := List.mem_flatMap.mp h
  obtain ⟨i, hi⟩ := List.mem_iff_getElem?.mp hs
  exact ⟨i, s, hi, hp⟩
/-- no slot is of several objects -/
def noSem : List Sl → Bool
  | [] => true
  | .sem _ :: _ => false
  | _ :: ρ => noSem ρ
theorem noSem_at : ∀ {ρ : List Sl} {i : Nat} {B : Blk}, noSem ρ = true → ρ[i]? ≠ some (.sem B)
  | [], i, B, _, h => by simp at h
  | s :: ρ, 0, B, n, h => by
    cases h
    exact Bool.noConfusion (show false = true from n)
  | s :: ρ, i + 1, B, n, h => by
    have n' : noSem ρ = true := by
      cases s with
      | sem _ => exact Bool.noConfusion (show false = true from n)
      | any => exact n
      | dat _ => exact n
      | raw _ => exact n
      | own _ _ => exact n
      | fz _ _ => exact n
    exact noSem_at (i := i) n' (by simpa using h)

/-- the state: frozen F within H; the slots -/
structure Sat (F H : Hp) (σ : L2.St) (ρ : List Sl) : Prop where
  sub : Same F H
  len : σ.length = ρ.length
  at_ : ∀ (i : Nat) (s : Sl), ρ[i]? = some s → ∃ x, σ[i]? = some x ∧ SlAt F H s x
  apart : ∀ (i j : Nat) (p : Addr) (s t : Sl), ρ[i]? = some s → ρ[j]? = some t → p ∈ fp s → p ∈ fp t → i = j
/-- what an entry promises its surroundings -/
structure Xt (O : Addr → Prop) (F H : Hp) (O' : Addr → Prop) (F' H' : Hp) : Prop where
  same : Same F F'
  rest : ∀ p, H p ≠ none → F p = none → ¬ O p → F' p = none ∧ H' p = H p ∧ ¬ O' p
theorem Xt.refl {O : Addr → Prop} {F H : Hp} : Xt O F H O F H := ⟨Same.refl _, fun _ _ h k => ⟨h, rfl, k⟩⟩
theorem Xt.trans {O O' O'' : Addr → Prop} {F H F' H' F'' H'' : Hp} (a : Xt O F H O' F' H') (b : Xt O' F' H' O'' F'' H'') : Xt O F H O'' F'' H'' :=
  ⟨a.same.trans b.same, fun p h f o => by
    obtain ⟨f1, h1, o1⟩ := a.rest p h f o
    obtain ⟨f2, h2, o2⟩ := b.rest p (by rw [h1]; exact h) f1 o1
    exact ⟨f2, h2.trans h1, o2⟩⟩
/-- the entry (ghost) -/
structure Gh where
  F : Hp
  H : Hp
  O : Addr → Prop
structure Sg (g : Gh) (F H : Hp) (σ : L2.St) (ρ : List Sl) : Prop where
  st : Sat F H σ ρ
  xt : Xt g.O g.F g.H (Own ρ) F H

/-- what an expression gives -/
inductive R where
  | d (d : Pd) | s (i : Nat) | r (v : V)
def RAt (F : Hp) (σ : L2.St) : R → V → Prop
  | .d d, v => Da F d v
  | .s i, v => σ[i]? = some (some v)
  | .r w, v => v = w
theorem RAt.mono {F F' : Hp} {σ : L2.St} (k : Same F F') : ∀ {r : R} {v : V}, RAt F σ r v → RAt F' σ r v
  | .d _, _, h => Da.mono k h
  | .s _, _, h => h
  | .r _, _, h => h
def RsAt (F : Hp) (σ : L2.St) : List R → List V → Prop
  | [], vs => vs = []
  | r :: rs, vs => ∃ v ws, vs = v :: ws ∧ RAt F σ r v ∧ RsAt F σ rs ws
theorem RsAt.mono {F F' : Hp} {σ : L2.St} (k : Same F F') : ∀ {rs : List R} {vs : List V}, RsAt F σ rs vs → RsAt F' σ rs vs
  | [], _, h => h
  | _ :: _, _, ⟨v, ws, e, a, b⟩ => ⟨v, ws, e, a.mono k, b.mono k⟩
theorem RsAt.dats {F : Hp} {σ : L2.St} : ∀ {ds : List Pd} {vs : List V}, RsAt F σ (ds.map R.d) vs → DaL F ds vs
  | [], _, h => h
  | _ :: _, _, ⟨v, ws, e, a, b⟩ => ⟨v, ws, e, a, RsAt.dats b⟩

/-! ### readings over data -/
def tD (g : Gh) (ρ : List Sl) (r : R) (ρ' : List Sl) : TE := fun σ H Q => ∃ F, Sg g F H σ ρ ∧ ∀ v F' H', Sg g F' H' σ ρ' → Same F F' → RAt F' σ r v → Q v H'
def tDT (g : Gh) (ρ : List Sl) (b : Bool) (ρ' : List Sl) : TT := fun σ H Q => ∃ F, Sg g F H σ ρ ∧ ∀ F' H', Sg g F' H' σ ρ' → Same F F' → Q b H'
def tDA (g : Gh) (ρ : List Sl) (rs : List R) (ρ' : List Sl) : TA := fun σ H Q => ∃ F, Sg g F H σ ρ ∧ ∀ vs F' H', Sg g F' H' σ ρ' → Same F F' → RsAt F' σ rs vs → Q vs H'
/-- a new list, not yet frozen -/
def tDF (g : Gh) (ρ : List Sl) (o : Ow) (ρ' : List Sl) : TE := fun σ H Q => ∃ F, Sg g F H σ ρ ∧ ∀ p h F' H', Sg g F' H' σ ρ' → Same F F' → F' p = none → ¬ Own ρ' p → (g.H p = none ∨ g.O p) → H' p = some h → OwAt F' o h → Q (.ref p) H'
/-- what is returned: a datum, a new own object; b: a new thing of several objects (only assigned, never returned) -/
inductive Rt where
  | d (d : Pd) | o (o : Ow) | b (f : Addr → Addr → Addr → Blk)
def RtAt (g : Gh) (ρ : List Sl) (F H : Hp) : Rt → V → Prop
  | .d d, v => Da F d v
  | .o o, v => ∃ p h, v = .ref p ∧ F p = none ∧ ¬ Own ρ p ∧ (g.H p = none ∨ g.O p) ∧ H p = some h ∧ OwAt F o h
  | .b _, _ => False
def tDS (g : Gh) (ρ : List Sl) (N : List Sl → Prop) (R : Rt → List Sl → Prop) : TS := fun D σ H => ∃ F, Sg g F H σ ρ ∧
  (∀ σ' F' H' ρ', N ρ' → Sg g F' H' σ' ρ' → Same F F' → D.nx σ' H') ∧ (∀ d v σ' F' H' ρ', R d ρ' → Sg g F' H' σ' ρ' → Same F F' → RtAt g ρ' F' H' d v → D.rt v H')

abbrev DE (g : Gh) (X : Cx) (e : Expr) (ρ : List Sl) (r : R) (ρ' : List Sl) : Prop := PE X e (tD g ρ r ρ')
abbrev DF (g : Gh) (X : Cx) (e : Expr) (ρ : List Sl) (o : Ow) (ρ' : List Sl) : Prop := PE X e (tDF g ρ o ρ')
abbrev DT (g : Gh) (X : Cx) (e : Expr) (ρ : List Sl) (b : Bool) (ρ' : List Sl) : Prop := PT X e (tDT g ρ b ρ')
abbrev DA (g : Gh) (X : Cx) (es : List Expr) (ρ : List Sl) (rs : List R) (ρ' : List Sl) : Prop := PA X es (tDA g ρ rs ρ')
abbrev DS (g : Gh) (X : Cx) (st : Stmt) (ρ : List Sl) (N : List Sl → Prop) (R : Rt → List Sl → Prop) : Prop := PS X st (tDS g ρ N R)
abbrev DSs (g : Gh) (X : Cx) (st : List Stmt) (ρ : List Sl) (N : List Sl → Prop) (R : Rt → List Sl → Prop) : Prop := PSs X st (tDS g ρ N R)

theorem pe_mono {X : Cx} {e : Expr} {t t' : TE} (h : PE X e t) (k : ∀ σ H Q, t' σ H Q → t σ H Q) : PE X e t' := ⟨fun pins s σ H Q I q => h.run pins s σ H Q I (k σ H Q q)⟩
theorem pt_mono {X : Cx} {e : Expr} {t t' : TT} (h : PT X e t) (k : ∀ σ H Q, t' σ H Q → t σ H Q) : PT X e t' := ⟨fun pins s σ H Q I q => h.run pins s σ H Q I (k σ H Q q)⟩
theorem pa_mono {X : Cx} {e : List Expr} {t t' : TA} (h : PA X e t) (k : ∀ σ H Q, t' σ H Q → t σ H Q) : PA X e t' := ⟨fun pos pins s σ H Q I q => h.run pos pins s σ H Q I (k σ H Q q)⟩
theorem ps_mono {X : Cx} {e : Stmt} {t t' : TS} (h : PS X e t) (k : ∀ D σ H, t' D σ H → t D σ H) : PS X e t' := ⟨fun pins s σ H D I q => h.run pins s σ H D I (k D σ H q)⟩
theorem pss_mono {X : Cx} {e : List Stmt} {t t' : TS} (h : PSs X e t) (k : ∀ D σ H, t' D σ H → t D σ H) : PSs X e t' := ⟨fun pins s σ H D I q => h.run pins s σ H D I (k D σ H q)⟩

/-! ### states change -/
section
variable {g : Gh} {F H F' H' : Hp} {σ : L2.St} {ρ ρ' : List Sl} {p : Addr}
theorem Sat.own (S : Sat F H σ ρ) {i : Nat} {o : Ow} (h : ρ[i]? = some (Sl.own p o)) : σ[i]? = some (some (.ref p)) ∧ F p = none ∧ ∃ h, H p = some h ∧ OwAt F o h := by
  obtain ⟨x, hx, rfl, h2⟩ := S.at_ i _ h
  exact ⟨hx, h2⟩
theorem SlAt.off {s : Sl} {x : Option V} (h : SlAt F H s x) : ∀ q ∈ fp s, F q = none ∧ H q ≠ none := fun q hq => by
  cases s with
  | own p o =>
    obtain ⟨_, f, ho, e, _⟩ := h
    rw [List.mem_singleton.mp hq]
    exact ⟨f, by rw [e]; exact fun z => by cases z⟩
  | sem B => exact B.off h.2 q hq
  | any => cases hq
  | dat _ => cases hq
  | raw _ => cases hq
  | fz _ _ => cases hq
theorem Sat.ownF (S : Sat F H σ ρ) (h : Own ρ p) : F p = none ∧ H p ≠ none := by
  obtain ⟨i, s, hi, hp⟩ := of_own h
  obtain ⟨x, _, a⟩ := S.at_ i s hi
  exact a.off p hp
theorem Sat.dat (S : Sat F H σ ρ) {i : Nat} {d : Pd} (h : ρ[i]? = some (Sl.dat d)) : ∃ v, σ[i]? = some (some v) ∧ Da F d v := by
  obtain ⟨x, hx, v, rfl, h2⟩ := S.at_ i _ h
  exact ⟨v, hx, h2⟩
theorem Sat.raw (S : Sat F H σ ρ) {i : Nat} {v : V} (h : ρ[i]? = some (Sl.raw v)) : σ[i]? = some (some v) := by
  obtain ⟨x, hx, rfl⟩ := S.at_ i _ h
  exact hx
/-- the heaps grow: what is own stands as it stood -/
theorem SlAt.grow {s : Sl} {x : Option V} (h : SlAt F H s x) (k : Same F F') (ho : ∀ q, q ∈ fp s → F' q = none ∧ H' q = H q) : SlAt F' H' s x := by
  cases s with
  | any => trivial
  | dat d =>
    obtain ⟨v, e, a⟩ := h
    exact ⟨v, e, a.mono k⟩
  | raw v => exact h
  | fz p kvs => exact let ⟨e, od, ws, f, kd⟩ := h; ⟨e, od, ws, k _ _ f, kd.mono k⟩
  | sem B => exact ⟨h.1, B.grow h.2 k ho⟩
  | own q o =>
    obtain ⟨e, f, ho', hh, a⟩ := h
    obtain ⟨f', h'⟩ := ho q (List.mem_singleton.mpr rfl)
    exact ⟨e, f', ho', by rw [h']; exact hh, a.mono k⟩
theorem Sat.grow (S : Sat F H σ ρ) (k : Same F F') (sub : Same F' H') (ho : ∀ q, Own ρ q → F' q = none ∧ H' q = H q) : Sat F' H' σ ρ :=
  ⟨sub, S.len, fun i s h => by
    obtain ⟨x, hx, a⟩ := S.at_ i s h
    exact ⟨x, hx, a.grow k fun q hq => ho q (List.mem_flatMap.mpr ⟨s, List.mem_of_getElem? h, hq⟩)⟩, S.apart⟩
theorem same_upd (hn : H p = none) {o : HO} : Same H (upd H p o) := fun b x e => by rw [upd_ne (ne_of_none e hn)]; exact e
/-- a new object, frozen at once -/
theorem Sg.newF (S : Sg g F H σ ρ) (hn : H p = none) {o : HO} : Sg g (upd F p o) (upd H p o) σ ρ ∧ Same F (upd F p o) ∧ upd F p o p = some o := by
  have fn : F p = none := S.st.sub.free hn
  have no : ¬ Own ρ p := fun z => (S.st.ownF z).2 hn
  have k1 : Same F (upd F p o) := same_upd fn
  refine ⟨⟨S.st.grow k1 (fun b x e => ?_) (fun q hq => ?_), ⟨S.xt.same.trans k1, fun q hq fq oq => ?_⟩⟩, k1, upd_same⟩
  · by_cases hb : b = p
    · subst hb; rw [upd_same] at e ⊢; exact e
    · rw [upd_ne hb] at e ⊢; exact S.st.sub _ _ e
  · have hne : q ≠ p := fun z => no (z ▸ hq)
    rw [upd_ne hne, upd_ne hne]
    exact ⟨(S.st.ownF hq).1, rfl⟩
  · obtain ⟨a, b, c⟩ := S.xt.rest q hq fq oq
    have hne : q ≠ p := fun z => hq (by rw [← b, z]; exact hn)
    rw [upd_ne hne, upd_ne hne]
    exact ⟨a, b, c⟩
/-- a new object, not frozen -/
theorem Sg.newO (S : Sg g F H σ ρ) (hn : H p = none) {o : HO} : Sg g F (upd H p o) σ ρ ∧ F p = none ∧ ¬ Own ρ p ∧ (g.H p = none ∨ g.O p) := by
  have fn : F p = none := S.st.sub.free hn
  have no : ¬ Own ρ p := fun z => (S.st.ownF z).2 hn
  refine ⟨⟨S.st.grow (Same.refl _) (fun b x e => ?_) (fun q hq => ?_), ⟨S.xt.same, fun q hq fq oq => ?_⟩⟩, fn, no, ?_⟩
  · rw [upd_ne (ne_of_none (S.st.sub _ _ e) hn)]; exact S.st.sub _ _ e
  · have hne : q ≠ p := fun z => no (z ▸ hq)
    rw [upd_ne hne]
    exact ⟨(S.st.ownF hq).1, rfl⟩
  · obtain ⟨a, b, c⟩ := S.xt.rest q hq fq oq
    have hne : q ≠ p := fun z => hq (by rw [← b, z]; exact hn)
    rw [upd_ne hne]
    exact ⟨a, b, c⟩
  · by_cases h0 : g.H p = none
    · exact .inl h0
    · refine .inr (Classical.byContradiction fun ho => ?_)
      have gf : g.F p = none := S.xt.same.free fn
      obtain ⟨_, b, _⟩ := S.xt.rest p h0 gf ho
      exact h0 (b.symm.trans hn)
/-- a fresh one is frozen -/
theorem Sg.frz (S : Sg g F H σ ρ) (fn : F p = none) (no : ¬ Own ρ p) (gn : g.H p = none ∨ g.O p) {o : HO} (ho : H p = some o) : Sg g (upd F p o) H σ ρ ∧ Same F (upd F p o) := by
  have k1 : Same F (upd F p o) := same_upd fn
  refine ⟨⟨S.st.grow k1 (fun b x e => ?_) (fun q hq => ?_), ⟨S.xt.same.trans k1, fun q hq fq oq => ?_⟩⟩, k1⟩
  · by_cases hb : b = p
    · subst hb; rw [upd_same] at e; rw [ho]; exact e
    · rw [upd_ne hb] at e; exact S.st.sub _ _ e
  · have hne : q ≠ p := fun z => no (z ▸ hq)
    rw [upd_ne hne]
    exact ⟨(S.st.ownF hq).1, rfl⟩
  · obtain ⟨a, b, c⟩ := S.xt.rest q hq fq oq
    have hne : q ≠ p := fun z => by
      subst z
      rcases gn with z | z
      · exact hq z
      · exact oq z
    rw [upd_ne hne]
    exact ⟨a, b, c⟩
theorem own_set {i : Nat} {s : Sl} {q : Addr} (h : Own (ρ.set i s) q) : q ∈ fp s ∨ Own ρ q := by
  obtain ⟨u, hu, hq⟩ := List.mem_flatMap.mp h
  rcases List.mem_or_eq_of_mem_set hu with z | z
  · exact .inr (List.mem_flatMap.mpr ⟨u, z, hq⟩)
  · subst z; exact .inl hq
/-- a slot is stored -/
theorem Sg.set (S : Sg g F H σ ρ) {i : Nat} {s : Sl} {v : V} (hi : i < ρ.length) (h : SlAt F H s (some v)) (hown : ∀ q, q ∈ fp s → ¬ Own ρ q ∧ (g.H q = none ∨ g.O q)) : Sg g F H (σ.set i (some v)) (ρ.set i s) := by
  refine ⟨⟨S.st.sub, by rw [List.length_set, List.length_set]; exact S.st.len, fun j t hj => ?_, fun j k q t t' hj hk hq hq' => ?_⟩, ⟨S.xt.same, fun q hq fq oq => ?_⟩⟩
  · by_cases e : i = j
    · subst e
      rw [List.getElem?_set_self hi] at hj
      cases hj
      exact ⟨some v, by rw [List.getElem?_set_self (by rw [S.st.len]; exact hi)], h⟩
    · rw [List.getElem?_set_ne e] at hj
      obtain ⟨x, hx, a⟩ := S.st.at_ j t hj
      exact ⟨x, by rw [List.getElem?_set_ne e]; exact hx, a⟩
  · by_cases ej : i = j
    · by_cases ek : i = k
      · exact ej.symm.trans ek
      · subst ej
        rw [List.getElem?_set_self hi] at hj
        rw [List.getElem?_set_ne ek] at hk
        cases hj
        exact absurd (own_at hk hq') (hown q hq).1
    · rw [List.getElem?_set_ne ej] at hj
      by_cases ek : i = k
      · subst ek
        rw [List.getElem?_set_self hi] at hk
        cases hk
        exact absurd (own_at hj hq) (hown q hq').1
      · rw [List.getElem?_set_ne ek] at hk
        exact S.st.apart j k q t t' hj hk hq hq'
  · obtain ⟨a, b, c⟩ := S.xt.rest q hq fq oq
    refine ⟨a, b, fun z => ?_⟩
    rcases own_set z with z | z
    · rcases (hown q z).2 with y | y
      · exact hq y
      · exact oq y
    · exact c z
/-- an own object is written -/
theorem Sg.put (S : Sg g F H σ ρ) {i : Nat} {o o' : Ow} {h' : HO} (hi : ρ[i]? = some (Sl.own p o)) (a' : OwAt F o' h') : Sg g F (upd H p h') σ (ρ.set i (.own p o')) := by
  obtain ⟨e1, fn, h0, e2, a⟩ := S.st.own hi
  have hi' : i < ρ.length := (List.getElem?_eq_some_iff.mp hi).1
  have op : Own ρ p := own_of hi
  refine ⟨⟨fun b x e => ?_, by rw [List.length_set]; exact S.st.len, fun j t hj => ?_, fun j k q u u' hj hk hu hu' => ?_⟩, ⟨S.xt.same, fun q hq fq oq => ?_⟩⟩
  · have hb : b ≠ p := fun z => by rw [z, fn] at e; cases e
    rw [upd_ne hb]; exact S.st.sub _ _ e
  · by_cases e : i = j
    · subst e
      rw [List.getElem?_set_self hi'] at hj
      cases hj
      exact ⟨_, e1, rfl, fn, h', upd_same, a'⟩
    · rw [List.getElem?_set_ne e] at hj
      obtain ⟨x, hx, b⟩ := S.st.at_ j t hj
      refine ⟨x, hx, b.grow (Same.refl _) fun q hq => ?_⟩
      have hqp : q ≠ p := fun z => by
        subst z
        exact e (S.st.apart i j q _ t hi hj (List.mem_singleton.mpr rfl) hq)
      rw [upd_ne hqp]
      exact ⟨(S.st.ownF (List.mem_flatMap.mpr ⟨t, List.mem_of_getElem? hj, hq⟩)).1, rfl⟩
  · have back : ∀ {j : Nat} {q : Addr} {u : Sl}, (ρ.set i (.own p o'))[j]? = some u → q ∈ fp u → ∃ u', ρ[j]? = some u' ∧ q ∈ fp u' := fun {j q u} hj hu => by
      by_cases e : i = j
      · subst e
        rw [List.getElem?_set_self hi'] at hj
        cases hj
        exact ⟨_, hi, hu⟩
      · rw [List.getElem?_set_ne e] at hj
        exact ⟨_, hj, hu⟩
    obtain ⟨_, h1, q1⟩ := back hj hu
    obtain ⟨_, h2, q2⟩ := back hk hu'
    exact S.st.apart _ _ _ _ _ h1 h2 q1 q2
  · obtain ⟨a, b, c⟩ := S.xt.rest q hq fq oq
    have hqp : q ≠ p := fun z => c (z ▸ op)
    rw [upd_ne hqp]
    refine ⟨a, b, fun z => ?_⟩
    rcases own_set z with z | z
    · exact hqp (List.mem_singleton.mp z)
    · exact c z
/-- an own object is frozen -/
theorem Sg.frzO (S : Sg g F H σ ρ) {i : Nat} {ds : List Pd} (hi : ρ[i]? = some (Sl.own p (.lst ds))) : ∃ F', Sg g F' H σ (ρ.set i (.dat (.list ds))) ∧ Same F F' ∧ Da F' (.list ds) (.ref p) := by
  obtain ⟨e1, fn, h0, e2, vs, rfl, z, a⟩ := S.st.own hi
  have hi' : i < ρ.length := (List.getElem?_eq_some_iff.mp hi).1
  have k1 : Same F (upd F p (.lst vs)) := same_upd fn
  have da : Da (upd F p (.lst vs)) (.list ds) (.ref p) := ⟨p, vs, rfl, upd_same, z, a.mono k1⟩
  have op : Own ρ p := own_of hi
  refine ⟨upd F p (.lst vs), ⟨⟨fun b x e => ?_, by rw [List.length_set]; exact S.st.len, fun j t hj => ?_, fun j k q u u' hj hk hu hu' => ?_⟩, ⟨S.xt.same.trans k1, fun q hq fq oq => ?_⟩⟩, k1, da⟩
  · by_cases hb : b = p
    · subst hb; rw [upd_same] at e; rw [e2]; exact e
    · rw [upd_ne hb] at e; exact S.st.sub _ _ e
  · by_cases e : i = j
    · subst e
      rw [List.getElem?_set_self hi'] at hj
      cases hj
      exact ⟨_, e1, _, rfl, da⟩
    · rw [List.getElem?_set_ne e] at hj
      obtain ⟨x, hx, b⟩ := S.st.at_ j t hj
      refine ⟨x, hx, b.grow k1 fun q hq => ?_⟩
      have hqp : q ≠ p := fun z => by
        subst z
        exact e (S.st.apart i j q _ t hi hj (List.mem_singleton.mpr rfl) hq)
      rw [upd_ne hqp]
      exact ⟨(S.st.ownF (List.mem_flatMap.mpr ⟨t, List.mem_of_getElem? hj, hq⟩)).1, rfl⟩
  · have back : ∀ {j : Nat} {q : Addr} {u : Sl}, (ρ.set i (.dat (.list ds)))[j]? = some u → q ∈ fp u → ρ[j]? = some u := fun {j q u} hj hu => by
      by_cases e : i = j
      · subst e
        rw [List.getElem?_set_self hi'] at hj
        cases hj
        cases hu
      · rw [List.getElem?_set_ne e] at hj
        exact hj
    exact S.st.apart _ _ _ _ _ (back hj hu) (back hk hu') hu hu'
  · obtain ⟨a, b, c⟩ := S.xt.rest q hq fq oq
    have hqp : q ≠ p := fun z => c (z ▸ op)
    rw [upd_ne hqp]
    refine ⟨a, b, fun z => ?_⟩
    rcases own_set z with z | z
    · cases z
    · exact c z
end
end DL

set_option Elab.async false
set_option linter.all false
set_option maxRecDepth 100000
set_option autoImplicit false
/-! DL2: expressions over data. -/
namespace DL
open PySem PySem.Spec PyProof.Rows L2

/-- no built-in's name is taken by the module -/
structure Bi (mg : Str → Option Value) : Prop where
  len : mg "len" = none
  tuple : mg "tuple" = none
  list : mg "list" = none
  dict : mg "dict" = none
  set : mg "set" = none
  sorted : mg "sorted" = none
  range : mg "range" = none
  enumerate : mg "enumerate" = none
  zip : mg "zip" = none
  min : mg "min" = none
  max : mg "max" = none
  sum : mg "sum" = none
  all : mg "all" = none
  isinstance : mg "isinstance" = none
  int : mg "int" = none
  bool : mg "bool" = none
  str : mg "str" = none
/-- where one stands -/
structure XO (k : Nat) (X : Cx) : Prop where
  calm : X.calm = true
  room : Room k X.A
  nd : X.N.Nodup
  bi : Bi X.mg
  po : PassesOwn (model X.prog X.w) X.A X.env X.xe
theorem XO.mono {j k : Nat} {X : Cx} (h : XO k X) (l : j ≤ k) : XO j X := ⟨h.calm, h.room.mono l, h.nd, h.bi, h.po⟩
theorem XO.blk {k : Nat} {X : Cx} (h : XO k X) (s : Shared) (H : Hp) (scope : Scope) (ce : Env) (fp : List Addr) : XO k (X.blk s H scope ce fp) := ⟨h.calm, h.room, h.nd, h.bi, PassesOwn.never⟩
theorem XO.hu {k : Nat} {X : Cx} (h : XO k X) : X.A.units + 1 < cLine := hu_of h.room
theorem XO.hu64 {k : Nat} {X : Cx} (h : XO k X) : X.A.units + 64 < cLine := h.room.units
theorem XO.hu65 {k : Nat} {X : Cx} (h : XO k X) : X.A.units + 65 < cLine := by have := h.room.un; omega
theorem XO.hu0 {k : Nat} {X : Cx} (h : XO k X) : X.A.units < cLine := h.room.units0

/-! ### what a result reads as -/
/-- the items of a list (data or own), a tuple -/
def lsto (ρ : List Sl) : R → Option (List Pd)
  | .d (.list ds) => some ds
  | .s i => match ρ[i]? with
    | some (.own _ (.lst ds)) => some ds
    | _ => none
  | _ => none
def seqo (ρ : List Sl) : R → Option (List Pd)
  | .d (.list ds) => some ds
  | .d (.tuple ds) => some ds
  | .s i => match ρ[i]? with
    | some (.own _ (.lst ds)) => some ds
    | _ => none
  | _ => none
/-- any datum read, an own list too -/
def rdo (ρ : List Sl) : R → Option Pd
  | .d d => some d
  | .s i => match ρ[i]? with
    | some (.own _ (.lst ds)) => some (.list ds)
    | _ => none
  | _ => none
section
variable {g : Gh} {F H : Hp} {σ : L2.St} {ρ : List Sl} {r : R} {v : V} {ds : List Pd}
theorem lsto_at (S : Sat F H σ ρ) (a : RAt F σ r v) (h : lsto ρ r = some ds) : ∃ p vs, v = .ref p ∧ H p = some (.lst vs) ∧ vs.length ≤ sizeLine ∧ DaL F ds vs := by
  unfold lsto at h
  split at h
  · cases h
    obtain ⟨p, vs, e, f, z, q⟩ := a
    exact ⟨p, vs, e, S.sub _ _ f, z, q⟩
  · split at h
    · rename_i i _ p o e
      cases h
      obtain ⟨e1, _, h0, e2, vs, rfl, z, q⟩ := S.own e
      have a' : σ[i]? = some (some v) := a
      rw [e1] at a'
      cases a'
      exact ⟨p, vs, rfl, e2, z, q⟩
    · cases h
  · cases h
theorem seqo_at (S : Sat F H σ ρ) (a : RAt F σ r v) (h : seqo ρ r = some ds) : ∃ p vs, v = .ref p ∧ (H p = some (.lst vs) ∨ TupF H p vs) ∧ vs.length ≤ sizeLine ∧ DaL F ds vs := by
  unfold seqo at h
  split at h
  · cases h
    obtain ⟨p, vs, e, f, z, q⟩ := a
    exact ⟨p, vs, e, .inl (S.sub _ _ f), z, q⟩
  · cases h
    obtain ⟨p, vs, e, f, z, q⟩ := a
    exact ⟨p, vs, e, .inr (f.mono S.sub), z, q⟩
  · split at h
    · rename_i i _ p o e
      cases h
      obtain ⟨e1, _, h0, e2, vs, rfl, z, q⟩ := S.own e
      have a' : σ[i]? = some (some v) := a
      rw [e1] at a'
      cases a'
      exact ⟨p, vs, rfl, .inl e2, z, q⟩
    · cases h
  · cases h
theorem rdo_dp {K : PySem.W.Frag} {d : Pd} (S : Sat F H σ ρ) (a : RAt F σ r v) (h : rdo ρ r = some d) : Dp K H v d := by
  unfold rdo at h
  split at h
  · cases h
    exact Da.dp S.sub a
  · split at h
    · rename_i i _ p o e
      cases h
      obtain ⟨e1, _, h0, e2, vs, rfl, z, q⟩ := S.own e
      have a' : σ[i]? = some (some v) := a
      rw [e1] at a'
      cases a'
      exact .lst (SqL.of e2) (DaL.dp S.sub q)
    · cases h
  · cases h
theorem sq_or {K : PySem.W.Frag} {p : Addr} {vs : List V} (h : H p = some (.lst vs) ∨ TupF H p vs) : SqL K H p vs ∨ SqT K H p vs := h.elim (fun q => .inl (SqL.of q)) fun q => .inr q.sq
end

/-! ### names, constants -/
section
variable {g : Gh} {X : Cx} {ρ ρ1 ρ2 ρ3 : List Sl} {pos : Pos} {x : Str}
theorem de_var (i : Nat) {d : Pd} (h : ρ[i]? = some (Sl.dat d)) (hN : X.N[i]? = some x := by rfl) (hv : Vis X.env.scope x := by first | exact Or.inl rfl | exact Or.inr (Or.inl rfl) | exact Or.inr (Or.inr rfl))
    (hd : (x == ("__debug__" : Str)) = false := by decide) (hcd : (x == ("__classdict__" : Str)) = false := by decide) : DE g X (.Name x pos) ρ (.d d) ρ :=
  pe_mono (pe_var hN hv hd hcd) fun σ H Q ⟨F, S, k⟩ => by
    obtain ⟨v, e, a⟩ := S.st.dat h
    exact ⟨v, e, k v F H S (Same.refl _) a⟩
theorem de_own (i : Nat) {p : Addr} {o : Ow} (h : ρ[i]? = some (Sl.own p o)) (hN : X.N[i]? = some x := by rfl) (hv : Vis X.env.scope x := by first | exact Or.inl rfl | exact Or.inr (Or.inl rfl) | exact Or.inr (Or.inr rfl))
    (hd : (x == ("__debug__" : Str)) = false := by decide) (hcd : (x == ("__classdict__" : Str)) = false := by decide) : DE g X (.Name x pos) ρ (.s i) ρ :=
  pe_mono (pe_var hN hv hd hcd) fun σ H Q ⟨F, S, k⟩ => by
    obtain ⟨e, _⟩ := S.st.own h
    exact ⟨_, e, k _ F H S (Same.refl _) e⟩
theorem de_raw (i : Nat) {v : V} (h : ρ[i]? = some (Sl.raw v)) (hN : X.N[i]? = some x := by rfl) (hv : Vis X.env.scope x := by first | exact Or.inl rfl | exact Or.inr (Or.inl rfl) | exact Or.inr (Or.inr rfl))
    (hd : (x == ("__debug__" : Str)) = false := by decide) (hcd : (x == ("__classdict__" : Str)) = false := by decide) : DE g X (.Name x pos) ρ (.r v) ρ :=
  pe_mono (pe_var hN hv hd hcd) fun σ H Q ⟨F, S, k⟩ => ⟨v, S.st.raw h, k _ F H S (Same.refl _) rfl⟩
/-- an own list handed on for good: frozen -/
theorem de_frzv (i : Nat) {p : Addr} {ds : List Pd} (h : ρ[i]? = some (Sl.own p (.lst ds))) (hN : X.N[i]? = some x := by rfl) (hv : Vis X.env.scope x := by first | exact Or.inl rfl | exact Or.inr (Or.inl rfl) | exact Or.inr (Or.inr rfl))
    (hd : (x == ("__debug__" : Str)) = false := by decide) (hcd : (x == ("__classdict__" : Str)) = false := by decide) : DE g X (.Name x pos) ρ (.d (.list ds)) (ρ.set i (.dat (.list ds))) :=
  pe_mono (pe_var hN hv hd hcd) fun σ H Q ⟨F, S, k⟩ => by
    obtain ⟨e, _⟩ := S.st.own h
    obtain ⟨F', S', k', a⟩ := S.frzO h
    exact ⟨_, e, k _ F' H S' k' a⟩
theorem de_int {i : Int} {j : Nat} : DE g X (.Constant (.int i) j pos) ρ (.d (.int i)) ρ := pe_mono pe_int fun σ H Q ⟨F, S, k⟩ => k _ F H S (Same.refl _) rfl
theorem de_bl {i : Bool} {j : Nat} : DE g X (.Constant (.bool i) j pos) ρ (.d (.bool i)) ρ := pe_mono pe_bl fun σ H Q ⟨F, S, k⟩ => k _ F H S (Same.refl _) rfl
theorem de_non {j : Nat} : DE g X (.Constant .none j pos) ρ (.d .none) ρ := pe_mono pe_non fun σ H Q ⟨F, S, k⟩ => k _ F H S (Same.refl _) rfl
theorem de_str {i : Str} {j : Nat} : DE g X (.Constant (.str i) j pos) ρ (.d (.str i)) ρ := pe_mono pe_str fun σ H Q ⟨F, S, k⟩ => k _ F H S (Same.refl _) rfl
/-- a module's int -/
theorem de_glob {i : Int} {t : Tok} (hm : X.mg x = some (.int i t)) (hg : Gl X x := by rfl) (hd : (x == ("__debug__" : Str)) = false := by decide) : DE g X (.Name x pos) ρ (.d (.int i)) ρ :=
  pe_mono (pe_glob (v := .int i) hg hm ⟨t, rfl⟩ hd) fun σ H Q ⟨F, S, k⟩ => k _ F H S (Same.refl _) rfl
/-- a built-in class as a value -/
theorem de_ty {n : String} (hm : X.mg x = none) (hv : bootBuiltins x = some (.type n)) (hg : Gl X x := by rfl) (hn : x ≠ "__name__" := by decide) (hd : (x == ("__debug__" : Str)) = false := by decide) : DE g X (.Name x pos) ρ (.r (.ty n)) ρ :=
  pe_mono (pe_bltn (v := .ty n) hg hm hv rfl hn hd) fun σ H Q ⟨F, S, k⟩ => k _ F H S (Same.refl _) rfl

/-! ### fresh objects, frozen -/
theorem de_new {e : Expr} {ds : List Pd} (h : DF g X e ρ (.lst ds) ρ1) : DE g X e ρ (.d (.list ds)) ρ1 :=
  pe_mono h fun σ H Q ⟨F, S, k⟩ => ⟨F, S, fun p h F' H' S' kf fn no gn ho a => by
    obtain ⟨vs, rfl, z, r⟩ := a
    obtain ⟨S2, k2⟩ := S'.frz fn no gn ho
    exact k _ _ H' S2 (kf.trans k2) ⟨p, vs, rfl, upd_same, z, r.mono k2⟩⟩
/-- behind an allocation: a new list -/
theorem new_lst {F H : Hp} {σ : L2.St} {Q : VK} {ds : List Pd} {vs : List V} (S : Sg g F H σ ρ)
    (k : ∀ p h F' H', Sg g F' H' σ ρ → Same F F' → F' p = none → ¬ Own ρ p → (g.H p = none ∨ g.O p) → H' p = some h → OwAt F' (.lst ds) h → Q (.ref p) H') (z : vs.length ≤ sizeLine) (a : DaL F ds vs) :
    ∀ p, H p = none → Q (.ref p) (upd H p (.lst vs)) := fun p hp => by
  obtain ⟨S2, fn, no, gn⟩ := S.newO hp (o := .lst vs)
  exact k p _ F _ S2 (Same.refl _) fn no gn upd_same ⟨vs, rfl, z, a⟩
/-- .. a new tuple -/
theorem new_tup {F H : Hp} {σ : L2.St} {Q : VK} {ds : List Pd} {vs : List V} (S : Sg g F H σ ρ)
    (k : ∀ v F' H', Sg g F' H' σ ρ → Same F F' → RAt F' σ (.d (.tuple ds)) v → Q v H') (z : vs.length ≤ sizeLine) (a : DaL F ds vs) :
    ∀ p ob, H p = none → ob.dict = none → Q (.ref p) (upd H p (.frz ob (.tup vs))) := fun p ob hp hd => by
  obtain ⟨S2, k2, e⟩ := S.newF hp (o := .frz ob (.tup vs))
  exact k _ _ _ S2 k2 ⟨p, vs, rfl, ⟨ob, e, hd⟩, z, a.mono k2⟩
/-- a tuple of written items, known to its object -/
def tTupF (t : TA) : TE := fun σ H Q => t σ H fun xs H1 => xs.length ≤ sizeLine ∧ ∀ p ob, H1 p = none → ob.dict = none → Q (.ref p) (upd H1 p (.frz ob (.tup xs)))
theorem pe_tupF {es : List Expr} {t : TA} {x1 : Nat} (h : PA X es t) : PE X (.Tuple es x1 pos) (tTupF t) := by
  refine ⟨fun pins s σ H Q I hq => ?_⟩
  refine wpAny_Tuple_spliced (thn (h.run pos pins s σ H _ I hq) fun us s1 ⟨xs, H1, I1, r, z, q⟩ => ⟨by rw [← r.length]; exact z, ?_⟩)
  have hf : H1 s1.heap.objs.size = none := I1.hok.fresh (Nat.le_refl _)
  have hg : ∀ {ob : Obj}, ob.isFreed = false → (s1.heap.push ob).get? s1.heap.objs.size = some ob := fun h => Heap.get?_push_size _ h
  exact ⟨.ref s1.heap.objs.size, _, I1.laid (t' := s1.toks) (o := .frz _ (.tup xs)) (fun b u e => Heap.get?_push_of_some _ e) (Nat.le_refl _) ⟨hg rfl, z, us, r, ⟨_, hg rfl, rfl, _, rfl⟩⟩, rfl, q _ _ hf rfl⟩

/-! ### argument lists, displays -/
theorem da_nil : DA g X [] ρ [] ρ := pa_mono pa_nil fun σ H Q ⟨F, S, k⟩ => k [] F H S (Same.refl _) rfl
theorem da_cons {e : Expr} {es : List Expr} {r : R} {rs : List R} (h : DE g X e ρ r ρ1) (hr : DA g X es ρ1 rs ρ2) (hs : starEach (e :: es) X.env = (false, eval e X.env) :: starEach es X.env := by rfl) : DA g X (e :: es) ρ (r :: rs) ρ2 :=
  pa_mono (pa_cons h hr hs) fun σ H Q ⟨F, S, k⟩ => ⟨F, S, fun v F1 H1 S1 k1 a => ⟨F1, S1, fun vs F2 H2 S2 k2 b => k (v :: vs) F2 H2 S2 (k1.trans k2) ⟨v, vs, rfl, a.mono k2, b⟩⟩⟩
theorem de_tup {es : List Expr} {ds : List Pd} {x1 : Nat} (h : DA g X es ρ (ds.map R.d) ρ1) (hz : ds.length ≤ 1000 := by exact Nat.le_of_ble_eq_true rfl) : DE g X (.Tuple es x1 pos) ρ (.d (.tuple ds)) ρ1 :=
  pe_mono (pe_tupF h) fun σ H Q ⟨F, S, k⟩ => ⟨F, S, fun vs F1 H1 S1 k1 a => by
    have b := a.dats
    have z : vs.length ≤ sizeLine := by rw [← b.length]; exact Nat.le_of_lt (small1000 hz)
    exact ⟨z, new_tup S1 (fun v F' H' S' k' r => k v F' H' S' (k1.trans k') r) z b⟩⟩
theorem df_lst {es : List Expr} {ds : List Pd} (h : DA g X es ρ (ds.map R.d) ρ1) (hz : ds.length ≤ 1000 := by exact Nat.le_of_ble_eq_true rfl) : DF g X (.List es pos) ρ (.lst ds) ρ1 :=
  pe_mono (pe_lst h) fun σ H Q ⟨F, S, k⟩ => ⟨F, S, fun vs F1 H1 S1 k1 a => by
    have b := a.dats
    have z : vs.length ≤ sizeLine := by rw [← b.length]; exact Nat.le_of_lt (small1000 hz)
    exact ⟨z, new_lst S1 (fun p h F' H' S' k' => k p h F' H' S' (k1.trans k')) z b⟩⟩
theorem df_dK : DF g X (.Dict [] [] pos) ρ (.dK []) ρ :=
  pe_mono pe_dnewK fun σ H Q ⟨F, S, k⟩ p hp => by
    obtain ⟨S2, fn, no, gn⟩ := S.newO hp (o := .dK [])
    exact k p _ F _ S2 (Same.refl _) fn no gn upd_same ⟨[], rfl, .nil⟩

/-! ### operators -/
variable {a b c : Expr} {ra rb rc : R}
/-- what a two-place operation does with data -/
def Op2 (g : Gh) (ρ2 : List Sl) (ra rb rc : R) (ρ3 : List Sl) (r : R2) : Prop := ∀ F H σ v w Q, Sg g F H σ ρ2 → RAt F σ ra v → RAt F σ rb w →
  (∀ u F' H', Sg g F' H' σ ρ3 → Same F F' → RAt F' σ rc u → Q u H') → r v w H Q
theorem op2_tOp {e : Expr} {r : R2} {ta tb : TE} (h : PE X e (tOp r ta tb)) (ha : ta = tD g ρ ra ρ1) (hb : tb = tD g ρ1 rb ρ2) (o : Op2 g ρ2 ra rb rc ρ3 r) : DE g X e ρ rc ρ3 := by
  subst ha hb
  exact pe_mono h fun σ H Q ⟨F, S, k⟩ => ⟨F, S, fun v F1 H1 S1 k1 a => ⟨F1, S1, fun w F2 H2 S2 k2 b => o F2 H2 σ v w Q S2 (a.mono k2) b fun u F' H' S' k' r => k u F' H' S' (k1.trans (k2.trans k')) r⟩⟩
theorem de_op2 {op : Operator} {r : R2} (ho : OpR X (binaryOp op) r) (o : Op2 g ρ2 ra rb rc ρ3 r) (ha : DE g X a ρ ra ρ1) (hb : DE g X b ρ1 rb ρ2) : DE g X (.BinOp a op b pos) ρ rc ρ3 := op2_tOp (pe_op ho ha hb) rfl rfl o
theorem de_cmp2 {op : CmpOp} {r : R2} (ho : OpR X (compareOp op) r) (o : Op2 g ρ2 ra rb rc ρ3 r) (ha : DE g X a ρ ra ρ1) (hb : DE g X b ρ1 rb ρ2) (hm : behindInMarks op b = false) : DE g X (.Compare a [op] [b] pos) ρ rc ρ3 := op2_tOp (pe_cmpR ho ha hb hm) rfl rfl o
theorem dt_cmp2 {op : CmpOp} {r : R2} {k : Bool} (ho : OpR X (compareOp op) r) (o : Op2 g ρ2 ra rb (.d (.bool k)) ρ3 r) (ha : DE g X a ρ ra ρ1) (hb : DE g X b ρ1 rb ρ2) (hm : behindInMarks op b = false) : DT g X (.Compare a [op] [b] pos) ρ k ρ3 :=
  pt_mono (pt_cmpR ho ha hb hm) fun σ H Q ⟨F, S, k⟩ => ⟨F, S, fun v F1 H1 S1 k1 a => ⟨F1, S1, fun w F2 H2 S2 k2 b => o F2 H2 σ v w _ S2 (a.mono k2) b fun u F' H' S' k' r => ⟨_, r, k F' H' S' (k1.trans (k2.trans k'))⟩⟩⟩
/-- ints in, an int out -/
theorem op2_rI {C : Int → Int → Prop} {f : Int → Int → Int} {i j : Int} (hc : C i j) : Op2 g ρ2 (.d (.int i)) (.d (.int j)) (.d (.int (f i j))) ρ2 (rI C fun i j => .int (f i j)) :=
  fun F H σ v w Q S a b k => ⟨i, j, a, b, hc, k _ F H S (Same.refl _) rfl⟩
theorem op2_rI0 {f : Int → Int → Int} {i j : Int} : Op2 g ρ2 (.d (.int i)) (.d (.int j)) (.d (.int (f i j))) ρ2 (rI0 fun i j => .int (f i j)) :=
  fun F H σ v w Q S a b k => ⟨i, j, a, b, k _ F H S (Same.refl _) rfl⟩
theorem op2_rB0 {f : Int → Int → Bool} {i j : Int} : Op2 g ρ2 (.d (.int i)) (.d (.int j)) (.d (.bool (f i j))) ρ2 (rI0 fun i j => .bl (f i j)) :=
  fun F H σ v w Q S a b k => ⟨i, j, a, b, k _ F H S (Same.refl _) rfl⟩
variable {i j : Int}
theorem de_add (ha : DE g X a ρ (.d (.int i)) ρ1) (hb : DE g X b ρ1 (.d (.int j)) ρ2) : DE g X (.BinOp a .Add b pos) ρ (.d (.int (i + j))) ρ2 := de_op2 op_add op2_rI0 ha hb
theorem de_sub (ha : DE g X a ρ (.d (.int i)) ρ1) (hb : DE g X b ρ1 (.d (.int j)) ρ2) : DE g X (.BinOp a .Sub b pos) ρ (.d (.int (i - j))) ρ2 := de_op2 op_sub op2_rI0 ha hb
theorem de_mul (hc : CMulW i j) (ha : DE g X a ρ (.d (.int i)) ρ1) (hb : DE g X b ρ1 (.d (.int j)) ρ2) : DE g X (.BinOp a .Mult b pos) ρ (.d (.int (i * j))) ρ2 := de_op2 op_mulW (op2_rI hc) ha hb
theorem de_mulS (hc : CMul i j) (ha : DE g X a ρ (.d (.int i)) ρ1) (hb : DE g X b ρ1 (.d (.int j)) ρ2) : DE g X (.BinOp a .Mult b pos) ρ (.d (.int (i * j))) ρ2 := de_op2 op_mul (op2_rI hc) ha hb
theorem de_mod (hc : 0 < j) (ha : DE g X a ρ (.d (.int i)) ρ1) (hb : DE g X b ρ1 (.d (.int j)) ρ2) : DE g X (.BinOp a .Mod b pos) ρ (.d (.int (i % j))) ρ2 := de_op2 op_mod (op2_rI (C := fun _ j => 0 < j) hc) ha hb
theorem de_fdiv (hc : CDivW i j) (ha : DE g X a ρ (.d (.int i)) ρ1) (hb : DE g X b ρ1 (.d (.int j)) ρ2) : DE g X (.BinOp a .FloorDiv b pos) ρ (.d (.int (i / j))) ρ2 := de_op2 op_fdivW (op2_rI hc) ha hb
theorem de_pow (hc : CPow i j) (ha : DE g X a ρ (.d (.int i)) ρ1) (hb : DE g X b ρ1 (.d (.int j)) ρ2) : DE g X (.BinOp a .Pow b pos) ρ (.d (.int (i ^ j.toNat))) ρ2 := de_op2 op_pow (op2_rI (f := fun i j => i ^ j.toNat) hc) ha hb
theorem de_neg {k : Nat} {p : Pos} {i : Int} : DE g X (.UnaryOp .USub (.Constant (.int i) k p) pos) ρ (.d (.int (-i))) ρ :=
  pe_mono (pe_un un_neg pe_int) fun σ H Q ⟨F, S, k⟩ => ⟨i, rfl, k _ F H S (Same.refl _) rfl⟩
theorem dt_lt (ha : DE g X a ρ (.d (.int i)) ρ1) (hb : DE g X b ρ1 (.d (.int j)) ρ2) : DT g X (.Compare a [.Lt] [b] pos) ρ (decide (i < j)) ρ2 := dt_cmp2 op_lt (op2_rB0 (f := fun i j => decide (i < j))) ha hb (nomark _)
theorem dt_le (ha : DE g X a ρ (.d (.int i)) ρ1) (hb : DE g X b ρ1 (.d (.int j)) ρ2) : DT g X (.Compare a [.LtE] [b] pos) ρ (decide (i ≤ j)) ρ2 := dt_cmp2 op_le (op2_rB0 (f := fun i j => decide (i ≤ j))) ha hb (nomark _)
theorem dt_gt (ha : DE g X a ρ (.d (.int i)) ρ1) (hb : DE g X b ρ1 (.d (.int j)) ρ2) : DT g X (.Compare a [.Gt] [b] pos) ρ (decide (j < i)) ρ2 := dt_cmp2 op_gt (op2_rB0 (f := fun i j => decide (j < i))) ha hb (nomark _)
theorem dt_ge (ha : DE g X a ρ (.d (.int i)) ρ1) (hb : DE g X b ρ1 (.d (.int j)) ρ2) : DT g X (.Compare a [.GtE] [b] pos) ρ (decide (j ≤ i)) ρ2 := dt_cmp2 op_ge (op2_rB0 (f := fun i j => decide (j ≤ i))) ha hb (nomark _)
theorem de_lt (ha : DE g X a ρ (.d (.int i)) ρ1) (hb : DE g X b ρ1 (.d (.int j)) ρ2) : DE g X (.Compare a [.Lt] [b] pos) ρ (.d (.bool (decide (i < j)))) ρ2 := de_cmp2 op_lt (op2_rB0 (f := fun i j => decide (i < j))) ha hb (nomark _)
theorem de_le (ha : DE g X a ρ (.d (.int i)) ρ1) (hb : DE g X b ρ1 (.d (.int j)) ρ2) : DE g X (.Compare a [.LtE] [b] pos) ρ (.d (.bool (decide (i ≤ j)))) ρ2 := de_cmp2 op_le (op2_rB0 (f := fun i j => decide (i ≤ j))) ha hb (nomark _)
theorem de_gt (ha : DE g X a ρ (.d (.int i)) ρ1) (hb : DE g X b ρ1 (.d (.int j)) ρ2) : DE g X (.Compare a [.Gt] [b] pos) ρ (.d (.bool (decide (j < i)))) ρ2 := de_cmp2 op_gt (op2_rB0 (f := fun i j => decide (j < i))) ha hb (nomark _)
theorem de_ge (ha : DE g X a ρ (.d (.int i)) ρ1) (hb : DE g X b ρ1 (.d (.int j)) ρ2) : DE g X (.Compare a [.GtE] [b] pos) ρ (.d (.bool (decide (j ≤ i)))) ρ2 := de_cmp2 op_ge (op2_rB0 (f := fun i j => decide (j ≤ i))) ha hb (nomark _)
/-- == of any data, the answer said -/
theorem op2_eq {K : PySem.W.Frag} {d e : Pd} {k : Bool} (h1 : rdo ρ2 ra = some d) (h2 : rdo ρ2 rb = some e) (s1 : SeqAt.shaped d = true) (s2 : SeqAt.shaped e = true) (hk : PyData.eqv d e = k) : Op2 g ρ2 ra rb (.d (.bool k)) ρ2 (rEqD K) :=
  fun F H σ v w Q S a b q => ⟨d, e, rdo_dp S.st a h1, rdo_dp S.st b h2, s1, s2, by rw [hk]; exact q _ F H S (Same.refl _) rfl⟩
theorem op2_ne {K : PySem.W.Frag} {d e : Pd} {k : Bool} (h1 : rdo ρ2 ra = some d) (h2 : rdo ρ2 rb = some e) (s1 : SeqAt.shaped d = true) (s2 : SeqAt.shaped e = true) (hk : PyData.eqv d e = k) : Op2 g ρ2 ra rb (.d (.bool (!k))) ρ2 (rNeD K) :=
  fun F H σ v w Q S a b q => ⟨d, e, rdo_dp S.st a h1, rdo_dp S.st b h2, s1, s2, by rw [hk]; exact q _ F H S (Same.refl _) rfl⟩
theorem dt_eq {n : Nat} {d e : Pd} {k : Bool} (hX : XO n X) (ha : DE g X a ρ ra ρ1) (hb : DE g X b ρ1 rb ρ2) (h1 : rdo ρ2 ra = some d) (h2 : rdo ρ2 rb = some e) (s1 : SeqAt.shaped d = true) (s2 : SeqAt.shaped e = true) (hk : PyData.eqv d e = k) :
    DT g X (.Compare a [.Eq] [b] pos) ρ k ρ2 := dt_cmp2 (op_eqD hX.hu64) (op2_eq h1 h2 s1 s2 hk) ha hb (nomark _)
theorem dt_ne {n : Nat} {d e : Pd} {k : Bool} (hX : XO n X) (ha : DE g X a ρ ra ρ1) (hb : DE g X b ρ1 rb ρ2) (h1 : rdo ρ2 ra = some d) (h2 : rdo ρ2 rb = some e) (s1 : SeqAt.shaped d = true) (s2 : SeqAt.shaped e = true) (hk : PyData.eqv d e = k) :
    DT g X (.Compare a [.NotEq] [b] pos) ρ (!k) ρ2 := dt_cmp2 (op_neD hX.hu64) (op2_ne h1 h2 s1 s2 hk) ha hb (nomark _)
theorem de_eq {n : Nat} {d e : Pd} {k : Bool} (hX : XO n X) (ha : DE g X a ρ ra ρ1) (hb : DE g X b ρ1 rb ρ2) (h1 : rdo ρ2 ra = some d) (h2 : rdo ρ2 rb = some e) (s1 : SeqAt.shaped d = true) (s2 : SeqAt.shaped e = true) (hk : PyData.eqv d e = k) :
    DE g X (.Compare a [.Eq] [b] pos) ρ (.d (.bool k)) ρ2 := de_cmp2 (op_eqD hX.hu64) (op2_eq h1 h2 s1 s2 hk) ha hb (nomark _)
theorem de_ne {n : Nat} {d e : Pd} {k : Bool} (hX : XO n X) (ha : DE g X a ρ ra ρ1) (hb : DE g X b ρ1 rb ρ2) (h1 : rdo ρ2 ra = some d) (h2 : rdo ρ2 rb = some e) (s1 : SeqAt.shaped d = true) (s2 : SeqAt.shaped e = true) (hk : PyData.eqv d e = k) :
    DE g X (.Compare a [.NotEq] [b] pos) ρ (.d (.bool (!k))) ρ2 := de_cmp2 (op_neD hX.hu64) (op2_ne h1 h2 s1 s2 hk) ha hb (nomark _)
/-- is None -/
def isNn : Pd → Bool
  | .none => true
  | _ => false
theorem isNn_at {F : Hp} {d : Pd} {v : V} (h : Da F d v) : decide (v = .non) = isNn d := by
  cases d with
  | none => cases (show v = _ from h); rfl
  | bool _ => cases (show v = _ from h); rfl
  | int _ => cases (show v = _ from h); rfl
  | str _ => cases (show v = _ from h); rfl
  | list _ => obtain ⟨_, _, e, _⟩ := h; subst e; rfl
  | tuple _ => obtain ⟨_, _, e, _⟩ := h; subst e; rfl
  | dict _ => exact False.elim h
theorem op2_isN {d : Pd} : Op2 g ρ2 (.d d) (.d .none) (.d (.bool (isNn d))) ρ2 (fun x y H Q => y = .non ∧ Q (.bl (decide (x = .non))) H) :=
  fun F H σ v w Q S a b q => ⟨b, by rw [isNn_at a]; exact q _ F H S (Same.refl _) rfl⟩
theorem op2_notN {d : Pd} : Op2 g ρ2 (.d d) (.d .none) (.d (.bool (!isNn d))) ρ2 (fun x y H Q => y = .non ∧ Q (.bl (!decide (x = .non))) H) :=
  fun F H σ v w Q S a b q => ⟨b, by rw [isNn_at a]; exact q _ F H S (Same.refl _) rfl⟩
theorem dt_isN {d : Pd} (ha : DE g X a ρ (.d d) ρ1) (hb : DE g X b ρ1 (.d .none) ρ2) : DT g X (.Compare a [.Is] [b] pos) ρ (isNn d) ρ2 := dt_cmp2 op_isN op2_isN ha hb (nomark _)
theorem dt_notN {d : Pd} (ha : DE g X a ρ (.d d) ρ1) (hb : DE g X b ρ1 (.d .none) ρ2) : DT g X (.Compare a [.IsNot] [b] pos) ρ (!isNn d) ρ2 := dt_cmp2 op_notN op2_notN ha hb (nomark _)
theorem de_isN {d : Pd} (ha : DE g X a ρ (.d d) ρ1) (hb : DE g X b ρ1 (.d .none) ρ2) : DE g X (.Compare a [.Is] [b] pos) ρ (.d (.bool (isNn d))) ρ2 := de_cmp2 op_isN op2_isN ha hb (nomark _)
theorem de_notN {d : Pd} (ha : DE g X a ρ (.d d) ρ1) (hb : DE g X b ρ1 (.d .none) ρ2) : DE g X (.Compare a [.IsNot] [b] pos) ρ (.d (.bool (!isNn d))) ρ2 := de_cmp2 op_notN op2_notN ha hb (nomark _)

/-- a chain of two comparisons of ints -/
theorem dt_chain {op op' : CmpOp} {f f' : Int → Int → Bool} {l : Int} (ho : OpR X (compareOp op) (rI0 fun i j => .bl (f i j))) (ho' : OpR X (compareOp op') (rI0 fun i j => .bl (f' i j)))
    (ha : DE g X a ρ (.d (.int i)) ρ) (hb : DE g X b ρ (.d (.int j)) ρ) (hc : DE g X c ρ (.d (.int l)) ρ) (hm : lastMarks [op, op'] [b, c] = false := by with_unfolding_all rfl) : DT g X (.Compare a [op, op'] [b, c] pos) ρ (f i j && f' j l) ρ :=
  pt_mono (pt_chain ho ho' ha hb hc hm) fun σ H Q ⟨F, S, k⟩ => ⟨F, S, fun v F1 H1 S1 k1 a => ⟨F1, S1, fun w F2 H2 S2 k2 b => ⟨i, j, a, b, _, rfl, by
    cases h : f i j with
    | true => exact iteT ⟨F2, S2, fun u F3 H3 S3 k3 c => ⟨j, l, b, c, _, rfl, by rw [h] at k; exact k F3 H3 S3 (k1.trans (k2.trans k3))⟩⟩
    | false => exact iteF ⟨_, rfl, by rw [h] at k; exact k F2 H2 S2 (k1.trans k2)⟩⟩⟩⟩
theorem de_chain {op op' : CmpOp} {f f' : Int → Int → Bool} {l : Int} (ho : OpR X (compareOp op) (rI0 fun i j => .bl (f i j))) (ho' : OpR X (compareOp op') (rI0 fun i j => .bl (f' i j)))
    (ha : DE g X a ρ (.d (.int i)) ρ) (hb : DE g X b ρ (.d (.int j)) ρ) (hc : DE g X c ρ (.d (.int l)) ρ) (hm : lastMarks [op, op'] [b, c] = false := by with_unfolding_all rfl) : DE g X (.Compare a [op, op'] [b, c] pos) ρ (.d (.bool (f i j && f' j l))) ρ :=
  pe_mono (pe_chain ho ho' ha hb hc hm) fun σ H Q ⟨F, S, k⟩ => ⟨F, S, fun v F1 H1 S1 k1 a => ⟨F1, S1, fun w F2 H2 S2 k2 b => ⟨i, j, a, b, _, rfl, by
    cases h : f i j with
    | true => exact iteT ⟨F2, S2, fun u F3 H3 S3 k3 c => ⟨j, l, b, c, by rw [h] at k; exact k _ F3 H3 S3 (k1.trans (k2.trans k3)) rfl⟩⟩
    | false => exact iteF (by rw [h] at k; exact k _ F2 H2 S2 (k1.trans k2) rfl)⟩⟩⟩
theorem dt_chLeLe {l : Int} (ha : DE g X a ρ (.d (.int i)) ρ) (hb : DE g X b ρ (.d (.int j)) ρ) (hc : DE g X c ρ (.d (.int l)) ρ) (hm : lastMarks [.LtE, .LtE] [b, c] = false := by with_unfolding_all rfl) :
    DT g X (.Compare a [.LtE, .LtE] [b, c] pos) ρ (decide (i ≤ j) && decide (j ≤ l)) ρ := dt_chain (f := fun i j => decide (i ≤ j)) (f' := fun i j => decide (i ≤ j)) op_le op_le ha hb hc hm
theorem dt_chLeLt {l : Int} (ha : DE g X a ρ (.d (.int i)) ρ) (hb : DE g X b ρ (.d (.int j)) ρ) (hc : DE g X c ρ (.d (.int l)) ρ) (hm : lastMarks [.LtE, .Lt] [b, c] = false := by with_unfolding_all rfl) :
    DT g X (.Compare a [.LtE, .Lt] [b, c] pos) ρ (decide (i ≤ j) && decide (j < l)) ρ := dt_chain (f := fun i j => decide (i ≤ j)) (f' := fun i j => decide (i < j)) op_le op_lt ha hb hc hm
theorem de_chLeLe {l : Int} (ha : DE g X a ρ (.d (.int i)) ρ) (hb : DE g X b ρ (.d (.int j)) ρ) (hc : DE g X c ρ (.d (.int l)) ρ) (hm : lastMarks [.LtE, .LtE] [b, c] = false := by with_unfolding_all rfl) :
    DE g X (.Compare a [.LtE, .LtE] [b, c] pos) ρ (.d (.bool (decide (i ≤ j) && decide (j ≤ l)))) ρ := de_chain (f := fun i j => decide (i ≤ j)) (f' := fun i j => decide (i ≤ j)) op_le op_le ha hb hc hm

/-! ### truth, and, or, not, if -/
theorem dt_val {k : Bool} (h : DE g X a ρ (.d (.bool k)) ρ1) (he : ∀ whole, isTrue a X.env whole = (do let v ← whole; standAt a.pos; holding [v] (truthy v)) := by intro _; rfl) : DT g X a ρ k ρ1 :=
  pt_mono (pt_val h he) fun σ H Q ⟨F, S, q⟩ => ⟨F, S, fun v F1 H1 S1 k1 a => ⟨k, a, q F1 H1 S1 k1⟩⟩
theorem dt_not {k : Bool} (h : DT g X a ρ k ρ1) : DT g X (.UnaryOp .Not a pos) ρ (!k) ρ1 := pt_mono (pt_not h) fun σ H Q ⟨F, S, q⟩ => ⟨F, S, fun F1 H1 S1 k1 => q F1 H1 S1 k1⟩
abbrev DW (g : Gh) (X : Cx) (e : Expr) (ρ : List Sl) (b : Bool) (ρ' : List Sl) : Prop := PW X e (tDT g ρ b ρ')
theorem pw_mono {e : Expr} {t t' : TT} (h : PW X e t) (k : ∀ σ H Q, t' σ H Q → t σ H Q) : PW X e t' := ⟨fun wh pins s σ H Q I q => h.run wh pins s σ H Q I (k σ H Q q)⟩
variable {k l : Bool} {rest : List Expr}
theorem dw_and1 (h : DT g X a ρ k ρ1) : DW g X (.BoolOp .And [a] pos) ρ k ρ1 := pw_and1 h
theorem dw_or1 (h : DT g X a ρ k ρ1) : DW g X (.BoolOp .Or [a] pos) ρ k ρ1 := pw_or1 h
theorem dw_false : False → DW g X a ρ k ρ1 := fun h => h.elim
theorem dw_and (ha : DT g X a ρ k ρ) (hb : k = true → DW g X (.BoolOp .And (b :: rest) pos) ρ l ρ) : DW g X (.BoolOp .And (a :: b :: rest) pos) ρ (k && l) ρ := by
  cases k with
  | true => exact pw_mono (pw_and ha (hb rfl)) fun σ H Q ⟨F, S, q⟩ => ⟨F, S, fun F1 H1 S1 k1 => iteT ⟨F1, S1, fun F2 H2 S2 k2 => q F2 H2 S2 (k1.trans k2)⟩⟩
  | false => exact pw_mono (pw_and (tB' := fun _ _ _ => False) ha ⟨fun _ _ _ _ _ _ _ h => h.elim⟩) fun σ H Q ⟨F, S, q⟩ => ⟨F, S, fun F1 H1 S1 k1 => iteF (q F1 H1 S1 k1)⟩
theorem dw_or (ha : DT g X a ρ k ρ) (hb : k = false → DW g X (.BoolOp .Or (b :: rest) pos) ρ l ρ) : DW g X (.BoolOp .Or (a :: b :: rest) pos) ρ (k || l) ρ := by
  cases k with
  | false => exact pw_mono (pw_or ha (hb rfl)) fun σ H Q ⟨F, S, q⟩ => ⟨F, S, fun F1 H1 S1 k1 => iteF ⟨F1, S1, fun F2 H2 S2 k2 => q F2 H2 S2 (k1.trans k2)⟩⟩
  | true => exact pw_mono (pw_or (tB' := fun _ _ _ => False) ha ⟨fun _ _ _ _ _ _ _ h => h.elim⟩) fun σ H Q ⟨F, S, q⟩ => ⟨F, S, fun F1 H1 S1 k1 => iteT (q F1 H1 S1 k1)⟩
/-- known outcomes; the state may change -/
theorem dw_andT (ha : DT g X a ρ true ρ1) (hb : DW g X (.BoolOp .And (b :: rest) pos) ρ1 l ρ2) : DW g X (.BoolOp .And (a :: b :: rest) pos) ρ l ρ2 :=
  pw_mono (pw_and ha hb) fun σ H Q ⟨F, S, q⟩ => ⟨F, S, fun F1 H1 S1 k1 => iteT ⟨F1, S1, fun F2 H2 S2 k2 => q F2 H2 S2 (k1.trans k2)⟩⟩
theorem dw_andF (ha : DT g X a ρ false ρ1) : DW g X (.BoolOp .And (a :: b :: rest) pos) ρ false ρ1 :=
  pw_mono (pw_and (tB' := fun _ _ _ => False) ha ⟨fun _ _ _ _ _ _ _ h => h.elim⟩) fun σ H Q ⟨F, S, q⟩ => ⟨F, S, fun F1 H1 S1 k1 => iteF (q F1 H1 S1 k1)⟩
theorem dw_orF (ha : DT g X a ρ false ρ1) (hb : DW g X (.BoolOp .Or (b :: rest) pos) ρ1 l ρ2) : DW g X (.BoolOp .Or (a :: b :: rest) pos) ρ l ρ2 :=
  pw_mono (pw_or ha hb) fun σ H Q ⟨F, S, q⟩ => ⟨F, S, fun F1 H1 S1 k1 => iteF ⟨F1, S1, fun F2 H2 S2 k2 => q F2 H2 S2 (k1.trans k2)⟩⟩
theorem dw_orT (ha : DT g X a ρ true ρ1) : DW g X (.BoolOp .Or (a :: b :: rest) pos) ρ true ρ1 :=
  pw_mono (pw_or (tB' := fun _ _ _ => False) ha ⟨fun _ _ _ _ _ _ _ h => h.elim⟩) fun σ H Q ⟨F, S, q⟩ => ⟨F, S, fun F1 H1 S1 k1 => iteT (q F1 H1 S1 k1)⟩
/-- .. as values -/
theorem de_one {op : BoolOp} {r : R} (h : DE g X a ρ r ρ1) : DE g X (.BoolOp op [a] pos) ρ r ρ1 := pe_one h
theorem de_and (ha : DE g X a ρ (.d (.bool k)) ρ) (hb : k = true → DE g X (.BoolOp .And (b :: rest) pos) ρ (.d (.bool l)) ρ) : DE g X (.BoolOp .And (a :: b :: rest) pos) ρ (.d (.bool (k && l))) ρ := by
  cases k with
  | true => exact pe_mono (pe_and ha (hb rfl)) fun σ H Q ⟨F, S, q⟩ => ⟨F, S, fun v F1 H1 S1 k1 a => ⟨true, a, iteT ⟨F1, S1, fun w F2 H2 S2 k2 b => q w F2 H2 S2 (k1.trans k2) b⟩⟩⟩
  | false => exact pe_mono (pe_and (tb := fun _ _ _ => False) ha ⟨fun _ _ _ _ _ _ h => h.elim⟩) fun σ H Q ⟨F, S, q⟩ => ⟨F, S, fun v F1 H1 S1 k1 a => ⟨false, a, iteF (q _ F1 H1 S1 k1 rfl)⟩⟩
theorem de_or (ha : DE g X a ρ (.d (.bool k)) ρ) (hb : k = false → DE g X (.BoolOp .Or (b :: rest) pos) ρ (.d (.bool l)) ρ) : DE g X (.BoolOp .Or (a :: b :: rest) pos) ρ (.d (.bool (k || l))) ρ := by
  cases k with
  | false => exact pe_mono (pe_or ha (hb rfl)) fun σ H Q ⟨F, S, q⟩ => ⟨F, S, fun v F1 H1 S1 k1 a => ⟨false, a, iteF ⟨F1, S1, fun w F2 H2 S2 k2 b => q w F2 H2 S2 (k1.trans k2) b⟩⟩⟩
  | true => exact pe_mono (pe_or (tb := fun _ _ _ => False) ha ⟨fun _ _ _ _ _ _ h => h.elim⟩) fun σ H Q ⟨F, S, q⟩ => ⟨F, S, fun v F1 H1 S1 k1 a => ⟨true, a, iteT (q _ F1 H1 S1 k1 rfl)⟩⟩
theorem de_notv (ha : DE g X a ρ (.d (.bool k)) ρ1) : DE g X (.UnaryOp .Not a pos) ρ (.d (.bool (!k))) ρ1 :=
  pe_mono (pe_not ha) fun σ H Q ⟨F, S, q⟩ => ⟨F, S, fun v F1 H1 S1 k1 a => ⟨k, a, q _ F1 H1 S1 k1 rfl⟩⟩
theorem de_ifE {r : R} (hc : DT g X c ρ k ρ1) (ha : k = true → DE g X a ρ1 r ρ2) (hb : k = false → DE g X b ρ1 r ρ2) : DE g X (.IfExp c a b pos) ρ r ρ2 := by
  cases k with
  | true => exact pe_mono (pe_ifExp (tb := fun _ _ _ => False) hc (ha rfl) ⟨fun _ _ _ _ _ _ h => h.elim⟩) fun σ H Q ⟨F, S, q⟩ => ⟨F, S, fun F1 H1 S1 k1 => iteT ⟨F1, S1, fun w F2 H2 S2 k2 b => q w F2 H2 S2 (k1.trans k2) b⟩⟩
  | false => exact pe_mono (pe_ifExp (ta := fun _ _ _ => False) hc ⟨fun _ _ _ _ _ _ h => h.elim⟩ (hb rfl)) fun σ H Q ⟨F, S, q⟩ => ⟨F, S, fun F1 H1 S1 k1 => iteF ⟨F1, S1, fun w F2 H2 S2 k2 b => q w F2 H2 S2 (k1.trans k2) b⟩⟩
/-- both ways pure data -/
theorem de_if {d e : Pd} (hc : DT g X c ρ k ρ1) (ha : k = true → DE g X a ρ1 (.d d) ρ2) (hb : k = false → DE g X b ρ1 (.d e) ρ2) : DE g X (.IfExp c a b pos) ρ (.d (if k = true then d else e)) ρ2 :=
  de_ifE hc (fun h => by rw [if_pos h]; exact ha h) fun h => by rw [if_neg (by rw [h]; decide)]; exact hb h
end
end DL

set_option Elab.async false
set_option linter.all false
set_option maxRecDepth 100000
set_option autoImplicit false
/-! DL3: rules of the library's kind that the layer lacks: built-ins over tuples. -/
namespace DL
open PySem PySem.Spec PyProof.Rows L2

section
variable {prog : Program} {w : World} {A : Around} {E : Value → Shared → Prop} {s : Shared} {l : Addr}
theorem collect_tuple {vs : List Value} {Q : List Value → Shared → Prop} (hl : s.heap.IsTuple l vs.toArray)
    (h : Q vs { s with heap := (s.heap.push (seqObj "list" #[] 0)).update s.heap.objs.size (Obj.mapSeq (· ++ vs.toArray)) }) (hsz : vs.length ≤ sizeLine) :
    wpAny (model prog w) A (collect (.ref l)) Q E s := by
  obtain ⟨o, ho, hc, n, hd⟩ := id hl
  unfold collect
  refine wpAny_bind (wpAny_runValue (codeAny_builtin entry_proto_collect' ?_))
  show wpAny _ _ (do again (.builtin "list.__iadd__" ⟨[← newList [], .ref l], []⟩)) _ _ s
  refine wpAny_bind (wpAny_newList (wpAny_pure ⟨Code.quiet_builtin _ (by decide +kernel), codeAny_builtin entry_list_iadd' ?_⟩))
  show wpAny _ _ (Builtin.List.listExtendWith (.ref s.heap.objs.size) (.ref l) (.ref s.heap.objs.size)) _ _ { s with heap := s.heap.push (seqObj "list" #[] 0) }
  unfold Builtin.List.listExtendWith
  have ho' : (s.heap.push (seqObj "list" #[] 0)).get? l = some o := Heap.get?_push_of_some _ ho
  refine wpAny_bind (wpAny_typeOf (T := "tuple") ⟨o, ho', hc⟩ ?_)
  have ht : (Value.type "tuple" == Value.type "tuple") = true := by rfl
  rw [if_pos (by rw [ht]; simp)]
  refine wpAny_bind (listItems_at ho' hd ?_)
  refine wpAny_bind (listItems_at (xs := #[]) (n := 0) (Heap.get?_push_size _ rfl) rfl ?_)
  rw [if_neg (by simp)]
  refine wpAny_bind (listUpdate_at (xs := #[]) (n := 0) (Heap.get?_push_size _ rfl) rfl ?_ (Nat.zero_le _) (by show (#[] ++ vs.toArray).size ≤ sizeLine + 1; simp only [Array.size_append, List.size_toArray, List.length_nil]; omega))
  refine wpAny_pure ?_
  show wpAny (model prog w) A (do
      let o ← load s.heap.objs.size
      match o.data with
      | .seq xs _ => pure xs.toList
      | _ => unsupported "internal:collect") Q E { s with heap := (s.heap.push (seqObj "list" #[] 0)).update s.heap.objs.size (Obj.mapSeq (· ++ vs.toArray)) }
  refine wpAny_bind (wpAny_load (get?_update_seq (Heap.get?_push_size _ rfl) _) ?_)
  show wpAny _ _ (pure ((#[] : Array Value) ++ vs.toArray).toList) Q E _
  rw [show ((#[] : Array Value) ++ vs.toArray).toList = vs by simp]
  exact wpAny_pure h
open SrtO in
theorem sorted_ordT {vs : List Value} {ltv : Value → Value → Bool} {Q : Value → Shared → Prop} (O : Swo ltv) (hl : s.heap.IsTuple l vs.toArray) (hz : vs.length ≤ sizeLine)
    (hS : 2 ≤ vs.length → ∀ (h₁ : Heap) (a : Addr), h₁.get? a = some (seqObj "list" vs.toArray 0) → (∀ b o, s.heap.get? b = some o → b ≠ a ∧ h₁.get? b = some o) → SortableO prog w A.in1.in1 { s with heap := h₁ } a vs ltv)
    (h : ∀ out : List Value, Srtd ltv out → Stb ltv out vs → Q (.ref (s.heap.objs.size + 1)) { s with heap := sortedAll s.heap vs out.toArray }) :
    wpAny (model prog w) A (call (.builtin "sorted") [.ref l]) Q E s := by
  refine Calls.call_function_entry kind_sorted plain_sorted entry_sorted (args_sorted1 _) ?_
  unfold Builtin.«sorted»
  refine wpAny_bind (m := checkCount "sorted" 1 1 _) (wpAny_pure ?_)
  refine wpAny_bind (collect_tuple hl ?_ hz)
  refine wpAny_bind (wpAny_newList ?_ hz)
  have hsz : ((s.heap.push (seqObj "list" #[] 0)).update s.heap.objs.size (Obj.mapSeq (· ++ vs.toArray))).objs.size = s.heap.objs.size + 1 := by
    rw [Heap.size_update, size_push']
  have hoL : (((s.heap.push (seqObj "list" #[] 0)).update s.heap.objs.size (Obj.mapSeq (· ++ vs.toArray))).push (seqObj "list" vs.toArray 0)).get? (s.heap.objs.size + 1) = some (seqObj "list" vs.toArray 0) := by
    rw [← hsz]; exact Heap.get?_push_size _ rfl
  have keep : ∀ b o, s.heap.get? b = some o → b ≠ s.heap.objs.size + 1 ∧ (((s.heap.push (seqObj "list" #[] 0)).update s.heap.objs.size (Obj.mapSeq (· ++ vs.toArray))).push (seqObj "list" vs.toArray 0)).get? b = some o := fun b o q => by
    have hlt : b < s.heap.objs.size := Heap.lt_size q
    refine ⟨Nat.ne_of_lt (Nat.lt_succ_of_lt hlt), Heap.get?_push_of_some _ ?_⟩
    rw [Heap.get?_update_ne _ _ _ _ (Nat.ne_of_lt hlt)]
    exact Heap.get?_push_of_some _ q
  show wpAny _ _ _ _ _ { s with heap := ((s.heap.push (seqObj "list" #[] 0)).update s.heap.objs.size (Obj.mapSeq (· ++ vs.toArray))).push (seqObj "list" vs.toArray 0) }
  rw [hsz]
  refine wpAny_bind (wpAny_holding (wpAny_call_entry slot_list_sort ⟨_, hoL, rfl⟩ entry_list_sort (list_sort_ord O hoL hz (fun h2 => hS h2 _ _ hoL keep) fun out hs hb => ⟨_, rfl, ?_⟩) (args_list_sort _)))
  exact wpAny_pure ⟨_, rfl, h out hs hb⟩
/-- walking a tuple of ints -/
theorem iter_tup {items : Array Value} {Q : Value → Shared → Prop} (hl : s.heap.IsTuple l items)
    (h : ∀ s₂ : Shared, s₂ = { s with heap := s.heap.push { cls := .type "tuple_iterator", data := .fields #[.ref l, .int 0 0] } } →
      (s₂.heap.IsTupleIter s.heap.objs.size l 0 ∧ s₂.heap.IsTuple l items) → (∀ b ∈ [s.heap.objs.size, l], b < s₂.heap.objs.size) → l ≠ s.heap.objs.size → Q (.ref s.heap.objs.size) s₂) : wpAny (model prog w) A (pyIter (.ref l)) Q E s := by
  have hlt : l < s.heap.objs.size := by obtain ⟨_, e, _⟩ := hl; exact Heap.lt_size e
  refine wpAny_pyIter_tuple hl (h _ rfl ⟨⟨_, Heap.get?_push_size _ rfl, rfl, rfl⟩, hl.at fun o e => Heap.get?_push_of_some _ e⟩ (fun b hb => ?_) (Nat.ne_of_lt hlt))
  have e : (s.heap.push { cls := .type "tuple_iterator", data := .fields #[.ref l, .int 0 0] } : Heap).objs.size = s.heap.objs.size + 1 := Heap.size_push ..
  rw [e]
  rcases List.mem_cons.mp hb with rfl | hb
  · exact Nat.lt_succ_self _
  · rcases List.mem_cons.mp hb with rfl | hb
    · exact Nat.lt_succ_of_lt hlt
    · cases hb
theorem old_keptT {h h' : Heap} {l : Addr} (hk : ∀ b o, b ∉ [h.objs.size] → (h.push { cls := .type "tuple_iterator", data := .fields #[.ref l, .int 0 0] }).get? b = some o → h'.get? b = some o) :
    ∀ b o, h.get? b = some o → h'.get? b = some o := fun b o e => hk b o (fun z => absurd (Heap.lt_size e) (by rw [List.mem_singleton.mp z]; exact Nat.lt_irrefl _)) (Heap.get?_push_of_some _ e)
/-! sum, max, min of a tuple of ints -/
theorem tup_sum {its : List Value} {ns : List Int} {Q : Value → Shared → Prop} (hh : A.handled = none) (hl : s.heap.IsTuple l its.toArray) (hi : IntsAre its ns)
    (h : ∀ h' tk t', (∀ b o, s.heap.get? b = some o → h'.get? b = some o) → Q (.int ns.sum t') { s with heap := h', toks := tk }) : wpAny (model prog w) A (call (.builtin "sum") [.ref l]) Q E s := by
  obtain ⟨xs, e⟩ := hi.allInts.items
  have hn : numsOf (intItems xs).toList = ns := by rw [← e]; exact hi.numsOf
  rw [nums_intItems] at hn
  rw [e] at hl
  refine call_sum_walkG (iter_tup hl fun s₂ e st hfp hlI => ?_)
  subst e
  refine ⟨_, _, _, _, _, _, numAt xs, rfl, Walks.tuple (A := A.in1) hh _ l hlI (intItems xs), st, hfp, (fun _ _ => intItems_at), fun h' tk t' hk => ?_⟩
  have := h h' tk t' (old_keptT hk)
  have e2 : preSum (numAt xs) (intItems xs).size = ns.sum := by
    rw [preSum_eq, List.take_of_length_le (by simp [intItems]), hn]
  rw [e2]; exact this
theorem tup_max {its : List Value} {ns : List Int} {Q : Value → Shared → Prop} (hh : A.handled = none) (hl : s.heap.IsTuple l its.toArray) (hi : IntsAre its ns) (hne : 0 < ns.length)
    (h : ∀ h' tk M t', (∀ b o, s.heap.get? b = some o → h'.get? b = some o) → M ∈ ns → (∀ a, a ∈ ns → a ≤ M) → Q (.int M t') { s with heap := h', toks := tk }) : wpAny (model prog w) A (call (.builtin "max") [.ref l]) Q E s := by
  obtain ⟨xs, e⟩ := hi.allInts.items
  have hn : numsOf (intItems xs).toList = ns := by rw [← e]; exact hi.numsOf
  rw [nums_intItems] at hn
  subst hn
  rw [e] at hl
  have hsz : 0 < xs.size := by simpa using hne
  refine call_max_walk (iter_tup hl fun s₂ e st hfp hlI => ?_)
  subst e
  refine ⟨_, _, _, _, _, _, _, rfl, Walks.tuple (A := A.in1) hh _ l hlI (intItems xs), st, hfp, by simpa [intItems] using hsz, CmpOf.ints_gt (numAt xs) (fun _ _ => intItems_at), fun v h' tk hP hk => ?_⟩
  obtain ⟨t, rfl⟩ := intItems_at (show (intItems xs)[argBest (fun i j => decide (numAt xs i > numAt xs j)) (xs.size - 1)]? = some v by simpa [intItems] using hP)
  obtain ⟨h1, h2⟩ := argBest_gt (numAt xs) (xs.size - 1)
  refine h h' tk _ t (old_keptT hk) ?_ fun a ha => ?_
  · rw [numAt_eq]; exact PySem.getD_mem (by rw [List.length_map, Array.length_toList]; omega)
  · obtain ⟨j, hj, rfl⟩ := mem_getD ha
    rw [List.length_map, Array.length_toList] at hj
    rw [← numAt_eq]; exact h2 j (by omega)
theorem tup_min {its : List Value} {ns : List Int} {Q : Value → Shared → Prop} (hh : A.handled = none) (hl : s.heap.IsTuple l its.toArray) (hi : IntsAre its ns) (hne : 0 < ns.length)
    (h : ∀ h' tk M t', (∀ b o, s.heap.get? b = some o → h'.get? b = some o) → M ∈ ns → (∀ a, a ∈ ns → M ≤ a) → Q (.int M t') { s with heap := h', toks := tk }) : wpAny (model prog w) A (call (.builtin "min") [.ref l]) Q E s := by
  obtain ⟨xs, e⟩ := hi.allInts.items
  have hn : numsOf (intItems xs).toList = ns := by rw [← e]; exact hi.numsOf
  rw [nums_intItems] at hn
  subst hn
  rw [e] at hl
  have hsz : 0 < xs.size := by simpa using hne
  refine call_min_walk (iter_tup hl fun s₂ e st hfp hlI => ?_)
  subst e
  refine ⟨_, _, _, _, _, _, _, rfl, Walks.tuple (A := A.in1) hh _ l hlI (intItems xs), st, hfp, by simpa [intItems] using hsz, CmpOf.ints_lt (numAt xs) (fun _ _ => intItems_at), fun v h' tk hP hk => ?_⟩
  obtain ⟨t, rfl⟩ := intItems_at (show (intItems xs)[argBest (fun i j => decide (numAt xs i < numAt xs j)) (xs.size - 1)]? = some v by simpa [intItems] using hP)
  obtain ⟨h1, h2⟩ := argBest_lt (numAt xs) (xs.size - 1)
  refine h h' tk _ t (old_keptT hk) ?_ fun a ha => ?_
  · rw [numAt_eq]; exact PySem.getD_mem (by rw [List.length_map, Array.length_toList]; omega)
  · obtain ⟨j, hj, rfl⟩ := mem_getD ha
    rw [List.length_map, Array.length_toList] at hj
    rw [← numAt_eq]; exact h2 j (by omega)
end

/-! ### by values -/
def SqX (K : PySem.W.Frag) (H : Hp) (a : Addr) (xs : List V) : Prop := SqL K H a xs ∨ SqT K H a xs
def rSumX (K : PySem.W.Frag) : List V → Hp → VK → Prop := fun vs H Q => ∃ (a : Addr) (ns : List Int), vs = [V.ref a] ∧ SqX K H a (ns.map V.int) ∧ Q (.int ns.sum) H
def rMaxX (K : PySem.W.Frag) : List V → Hp → VK → Prop := fun vs H Q => ∃ (a : Addr) (ns : List Int), vs = [V.ref a] ∧ SqX K H a (ns.map V.int) ∧ 0 < ns.length ∧ ∀ m, m ∈ ns → (∀ y, y ∈ ns → y ≤ m) → Q (.int m) H
def rMinX (K : PySem.W.Frag) : List V → Hp → VK → Prop := fun vs H Q => ∃ (a : Addr) (ns : List Int), vs = [V.ref a] ∧ SqX K H a (ns.map V.int) ∧ 0 < ns.length ∧ ∀ m, m ∈ ns → (∀ y, y ∈ ns → m ≤ y) → Q (.int m) H
def rSortX (K : PySem.W.Frag) : List V → Hp → VK → Prop := fun vs H Q => ∃ (a : Addr) (ns : List Int), vs = [V.ref a] ∧ SqX K H a (ns.map V.int) ∧
  ∀ (ns' : List Int) (p : Addr), ns'.Perm ns → ns'.Pairwise (· ≤ ·) → H p = none → Q (.ref p) (upd H p (.lst (ns'.map V.int)))
section
variable {X : Cx}
theorem cr_sumX (hc : X.calm = true) : CallR X (.builtin "sum") (rSumX X.K) := by
  intro pins s σ H vs us Q I r h
  obtain ⟨a, ns, rfl, hs, q⟩ := h
  rcases hs with hs | hs
  · exact cr_sum hc pins s σ H _ us Q I r ⟨a, ns, rfl, hs, q⟩
  obtain ⟨its, rv, hl, _⟩ := I.tuple hs
  rw [Vals.ref1 r]
  exact tup_sum (I.ok.hd hc) (show s.heap.IsTuple a its.toArray from hl) rv.ints fun h' tk t' hk => ⟨.int _, H, I.kept hk, ⟨_, rfl⟩, q⟩
theorem cr_maxX (hc : X.calm = true) : CallR X (.builtin "max") (rMaxX X.K) := by
  intro pins s σ H vs us Q I r h
  obtain ⟨a, ns, rfl, hs, hne, q⟩ := h
  rcases hs with hs | hs
  · exact cr_max hc pins s σ H _ us Q I r ⟨a, ns, rfl, hs, hne, q⟩
  obtain ⟨its, rv, hl, _⟩ := I.tuple hs
  rw [Vals.ref1 r]
  exact tup_max (I.ok.hd hc) (show s.heap.IsTuple a its.toArray from hl) rv.ints hne fun h' tk m t' hk h1 h2 => ⟨.int _, H, I.kept hk, ⟨_, rfl⟩, q m h1 h2⟩
theorem cr_minX (hc : X.calm = true) : CallR X (.builtin "min") (rMinX X.K) := by
  intro pins s σ H vs us Q I r h
  obtain ⟨a, ns, rfl, hs, hne, q⟩ := h
  rcases hs with hs | hs
  · exact cr_min hc pins s σ H _ us Q I r ⟨a, ns, rfl, hs, hne, q⟩
  obtain ⟨its, rv, hl, _⟩ := I.tuple hs
  rw [Vals.ref1 r]
  exact tup_min (I.ok.hd hc) (show s.heap.IsTuple a its.toArray from hl) rv.ints hne fun h' tk m t' hk h1 h2 => ⟨.int _, H, I.kept hk, ⟨_, rfl⟩, q m h1 h2⟩
theorem cr_sortX : CallR X (.builtin "sorted") (rSortX X.K) := by
  intro pins s σ H vs us Q I r h
  obtain ⟨a, ns, rfl, hs, q⟩ := h
  rcases hs with hs | hs
  · exact cr_sortedI pins s σ H _ us Q I r ⟨a, ns, rfl, hs, q⟩
  obtain ⟨its, rv, hl, hz⟩ := I.tuple hs
  rw [Vals.ref1 r]
  have hi := rv.ints
  refine sorted_ordT SrtO.swo_int (show s.heap.IsTuple a its.toArray from hl) (by rw [← rv.length]; exact hz) (fun h2 h₁ a' _ _ => SrtO.ints_sortable hi h2) fun out h1 h2 => ?_
  obtain ⟨k1, k2, k3⟩ := SrtO.ints_out hi h1 h2
  obtain ⟨ep, he'⟩ := PyProof.Rows.sortedAll_at s.heap its out.toArray
  have hlen : ((out.map SrtO.iv).map V.int).length ≤ sizeLine := by
    rw [List.length_map, k2.length_eq]
    rw [List.length_map] at hz
    exact hz
  exact ⟨.ref _, upd H (s.heap.objs.size + 1) (.lst ((out.map SrtO.iv).map V.int)), I.laid (t' := s.toks) (fun _ _ => PyProof.Rows.sortedAll_old) (Nat.le_succ _) ⟨hlen, out, ep, vals_of_ints k1, he'⟩, rfl, q _ _ k2 k3 (I.hok.fresh (Nat.le_succ _))⟩
end
end DL

set_option Elab.async false
set_option linter.all false
set_option maxRecDepth 100000
set_option autoImplicit false
/-! DL4: enumerate, zip of lists and tuples in any mix, walked. -/
namespace DL
open PySem PySem.Spec PyProof.Rows L2

/-! ### a list or a tuple: b = true a tuple -/
def SqB (b : Bool) (K : PySem.W.Frag) (H : Hp) (a : Addr) (xs : List V) : Prop := match b with
  | true => SqT K H a xs
  | false => SqL K H a xs
def IsB (b : Bool) (h : Heap) (a : Addr) (items : Array Value) : Prop := match b with
  | true => h.IsTuple a items
  | false => h.IsList a items
def ItB (b : Bool) (h : Heap) (it a : Addr) (i : Nat) : Prop := match b with
  | true => h.IsTupleIter it a i
  | false => h.IsListIter it a i
def itObj (b : Bool) (a : Addr) : Obj := match b with
  | true => { cls := .type "tuple_iterator", data := .fields #[.ref a, .int 0 0] }
  | false => { cls := .type "list_iterator", data := .fields #[.ref a, .int 0 0] }
section
variable {X : Cx} {pins : List (Addr × Obj)} {σ : L2.St} {H : Hp} {s : Shared} {a : Addr} {xs ys : List V} {b : Bool}
theorem SqB.same {K : PySem.W.Frag} {H' : Hp} (k : Same H H') (h : SqB b K H a xs) : SqB b K H' a xs := by
  cases b with
  | false => exact Same.seq k h
  | true =>
    rcases h with (h | ⟨o, h⟩) | h
    · exact .inl (.inl (k _ _ h))
    · exact .inl (.inr ⟨o, k _ _ h⟩)
    · exact .inr h
theorem Inv.sqB (I : Inv X pins σ H s) (h : SqB b X.K H a xs) : ∃ its : List Value, Vals xs its ∧ IsB b s.heap a its.toArray ∧ xs.length ≤ sizeLine ∧ a < s.heap.objs.size := by
  cases b with
  | false => obtain ⟨its, r, p, z⟩ := I.list h; exact ⟨its, r, p.isList, z, p.lt⟩
  | true => obtain ⟨its, r, p, z⟩ := I.tuple h; exact ⟨its, r, p, z, p.lt⟩
theorem Inv.sqB_inj (I : Inv X pins σ H s) (h : SqB b X.K H a xs) (h' : SqB b X.K H a ys) : xs = ys := by
  cases b with
  | false => exact I.list_inj h h'
  | true => exact I.tuple_inj h h'
theorem drawsB {prog : Program} {w : World} {A : Around} (b : Bool) (hh : A.handled = none) (it a : Addr) (hne : a ≠ it) (items : Array Value) :
    Draws prog w A it [it, a] items.size (fun i v => items[i]? = some v) (fun i h => ItB b h it a i ∧ IsB b h a items) := by
  cases b with
  | false => exact Draws.list hh it a hne items
  | true => exact Draws.tuple hh it a hne items
theorem beginsB (b : Bool) (a : Addr) (items : Array Value) : Begins (.ref a) (itObj b a) fun h => IsB b h a items := by
  cases b with
  | false => exact begins_list a items
  | true => exact begins_tuple a items
theorem itB_new {h : Heap} {it : Addr} (e : h.get? it = some (itObj b a)) : ItB b h it a 0 := by
  cases b with
  | false => exact ⟨_, e, rfl, rfl⟩
  | true => exact ⟨_, e, rfl, rfl⟩
theorem ItB.at {h h' : Heap} {it : Addr} {i : Nat} (x : ItB b h it a i) (k : ∀ o, h.get? it = some o → h'.get? it = some o) : ItB b h' it a i := by
  cases b with
  | false => exact (show h.IsListIter it a i from x).at fun o e => k o e
  | true => exact (show h.IsTupleIter it a i from x).at fun o e => k o e
theorem ItB.obj {h : Heap} {it : Addr} {i : Nat} (x : ItB b h it a i) : ∃ o, h.get? it = some o ∧ ∀ v, o.data ≠ .cell v := by
  cases b with
  | false => obtain ⟨o, e, _, d⟩ := x; exact ⟨o, e, fun v z => by rw [d] at z; cases z⟩
  | true => obtain ⟨o, e, _, d⟩ := x; exact ⟨o, e, fun v z => by rw [d] at z; cases z⟩
end

/-- a new pair, known to its object -/
def YPairF (xs ys : Nat → Option V) : Nat → Hp → V → Hp → Prop := fun i H v H' => ∃ T x y ob, v = .ref T ∧ H T = none ∧ ob.dict = none ∧ H' = upd H T (.frz ob (.tup [x, y])) ∧ xs i = some x ∧ ys i = some y

/-! ### enumerate -/
def IteB (b : Bool) (K : PySem.W.Frag) (a : Addr) : It :=
  ⟨fun i H => ∃ (xs : List V) (x : V), SqB b K H a xs ∧ xs[i]? = some x, fun i H v H' => ∃ T x ob, v = .ref T ∧ H T = none ∧ ob.dict = none ∧ H' = upd H T (.frz ob (.tup [.int (i : Nat), x])) ∧ ∀ xs, SqB b K H a xs → xs[i]? = some x, fun i H => ∃ xs : List V, SqB b K H a xs ∧ i = xs.length⟩
theorem turn_enumB {P : Program} {w : World} {K : PySem.W.Frag} {elts : List Expr} {kk : Nat} {tpos : Pos} (b : Bool) (a e it : Addr) :
    Turn P w K (.Tuple elts kk tpos) (IteB b K a) [e, it] e (fun i h => (∃ old, IsEnum h e it ((i : Nat) : Int) old) ∧ ItB b h it a i ∧ e ≠ it ∧ a ≠ it ∧ a ≠ e) where
  mem := by simp
  obj := fun i h st c hc => by
    obtain ⟨⟨old, he⟩, hi, _⟩ := st
    have e' : c = e ∨ c = it := by simpa using hc
    rcases e' with z | z
    · rw [z]; exact ⟨_, he, fun v q => nomatch q⟩
    · rw [z]; exact hi.obj
  keep := fun i h h' st k => let ⟨⟨old, he⟩, hi, hne⟩ := st; ⟨⟨old, k e (by simp) _ he⟩, hi.at fun o q => k it (by simp) o q, hne⟩
  item := by
    intro X hP hw hK hc i pins s σ H E I hf st hg
    subst hP hw hK
    obtain ⟨⟨old, he⟩, hit, hne, hai, hae⟩ := st
    obtain ⟨xs, x, hq, hx⟩ := hg
    obtain ⟨its, rv, p, hz, hlt⟩ := DL.Inv.sqB I hq
    obtain ⟨u, hu, ru⟩ := rv.get hx
    have hel : e < s.heap.objs.size := Heap.lt_size he
    have hil : it < s.heap.objs.size := by obtain ⟨o, q, _⟩ := hit.obj; exact Heap.lt_size q
    have hin : i < its.toArray.size := by
      have := (List.getElem?_eq_some_iff.mp hu).1
      simpa using this
    refine wpAny_pyNext_enum_itemD (drawsB (A := X.A.in1) b (I.ok.hd hc) it a hai its.toArray) he ⟨hit, p⟩ hin hne (by simp [hne, Ne.symm hae]) fun v h' tk hv ho hst' hT hsz hk => ?_
    have ev : u = v := by
      have hv' : its[i]? = some v := by simpa using hv
      rw [hu] at hv'
      exact Option.some.inj hv'
    subst ev
    refine ⟨_, rfl, wpAny_letOwnedTupleGo_enum (s := { s with heap := h', toks := tk + 1 }) ho fun h'' he' sb => ?_⟩
    have hT2 : h''.get? s.heap.objs.size = some { cls := .type "tuple", data := .seq #[.int i tk, u] } := (sb.2 _ (Nat.ne_of_gt hel)).trans hT
    have new : ObjOk X.prog X.w (upd H s.heap.objs.size (.frz { cls := .type "tuple", data := .seq #[.int i tk, u] } (.tup [.int (i : Nat), x]))) h'' s.heap.objs.size (.frz { cls := .type "tuple", data := .seq #[.int i tk, u] } (.tup [.int (i : Nat), x])) :=
      ⟨hT2, by show 2 ≤ sizeLine; decide, [.int i tk, u], .cons ⟨_, rfl⟩ (.cons ru .nil), ⟨_, hT2, rfl, _, rfl⟩⟩
    have I1 : Inv X pins σ (upd H s.heap.objs.size (.frz { cls := .type "tuple", data := .seq #[.int i tk, u] } (.tup [.int (i : Nat), x]))) { s with heap := h'', toks := tk + 1 } :=
      I.turnedNew (ch := [e, it]) (fun c ob hb q => (sb.2 c (fun z => hb (by simp [z]))).trans (hk c ob (fun z => hb (by simp [z])) (fun z => hb (by simp [z])) q)) hf (Nat.le_refl _) new
    refine ⟨.ref s.heap.objs.size, _, I1, rfl, ⟨_, x, _, rfl, I.hok.fresh (Nat.le_refl _), rfl, rfl, fun ys hy => by rw [DL.Inv.sqB_inj I hy hq]; exact hx⟩, ⟨⟨u, ?_⟩, hst'.1.at fun o q => (sb.2 it (Ne.symm hne)).trans q, hne, hai, hae⟩, fun c hc' => ?_⟩
    · have e1 : ((i + 1 : Nat) : Int) = (i : Int) + 1 := by omega
      rw [e1]; exact he'
    · have hb' : c < s.heap.objs.size := by
        have e' : c = e ∨ c = it := by simpa using hc'
        rcases e' with z | z
        · rw [z]; exact hel
        · rw [z]; exact hil
      rw [upd_ne (Nat.ne_of_lt hb')]
      exact (hf c hc').1
  done := by
    intro X hP hw hK hc i pins s σ H E I hf st hg
    subst hP hw hK
    obtain ⟨⟨old, he⟩, hit, hne, hai, hae⟩ := st
    obtain ⟨xs, hq, hx⟩ := hg
    obtain ⟨its, rv, p, hz, hlt⟩ := DL.Inv.sqB I hq
    obtain ⟨f0, f1, f2, f3, f4, f5⟩ := hf it (by simp)
    have hl := rv.length
    have hi : i = its.toArray.size := by simp; omega
    subst hi
    exact wpAny_pyNext_enum_endD (drawsB (A := X.A.in1) b (I.ok.hd hc) it a hai its.toArray) he ⟨hit, p⟩ fun h' eb => ⟨rfl, I.turned (t' := s.toks) (fun c o hb q => eb c o hb q) f0 f1 f3 f4 f5⟩
  self := fun A i s Q E st h => let ⟨⟨_, he⟩, _⟩ := st; wpAny_pyIter_enum he h
/-- enumerate(v), one argument -/
theorem call_enum1 {prog : Program} {w : World} {A : Around} {E : Value → Shared → Prop} {s : Shared} {v : Value} {o : Obj} {H : Heap → Prop} {Q : Value → Shared → Prop} (B : Begins v o H) (h1 : H s.heap)
    (h : ∀ h', IsEnum h' (s.heap.objs.size + 1) s.heap.objs.size 0 .none → h'.get? s.heap.objs.size = some o → h'.objs.size = s.heap.objs.size + 2 →
      (∀ b o, s.heap.get? b = some o → h'.get? b = some o) → Q (.ref (s.heap.objs.size + 1)) { s with heap := h' }) :
    wpAny (model prog w) A (call (.type "enumerate") [v]) Q E s := by
  have meets : Meets (Builtin.«enumerate.__new__» ⟨[.type "enumerate", v], []⟩) (fun _ R s => H s.heap ∧
      R (.ok (.ret (.ref (s.heap.push o).objs.size))) { s with heap := (s.heap.push o).push { cls := .type "enumerate", data := .fields #[.none, .bool false, .ref s.heap.objs.size, rawInt 0, .none, .none] } }) :=
    .of_wp fun prog w A R s h => by
      obtain ⟨hp, g, d, tk, os⟩ := s; obtain ⟨h1, h⟩ := h
      have hsub := sub_enumerate
      have q1 : ∀ {A' : Around} {E : Value → Shared → Prop} {Q : Value → Shared → Prop}, Q (.ref hp.objs.size) ⟨hp.push o, g, d, tk, os⟩ → wpAny (model prog w) A' (pyIter v) Q E ⟨hp, g, d, tk, os⟩ :=
        fun q => B.iter prog w _ _ ⟨hp, g, d, tk, os⟩ _ h1 q
      wp_walk using q1
      first
        | (refine wpAny_stack_any fun st => wpAny_pure ?_
           split
           · rename_i c _ _ _ _ _
             cases (c == Value.type "enumerate")
             · wp_walk using q1
               exact ⟨_, rfl, h⟩
             · wp_walk using q1
               exact ⟨_, rfl, h⟩
           · wp_walk using q1
             exact ⟨_, rfl, h⟩)
        | exact ⟨_, rfl, h⟩
  refine callType_new F.called_enumerate (by decide) (F.typeCall_enumerate_1 _) (F.newCall_enumerate_1 _) (fun obj => F.args_object_init_2 obj _) F.entry_enumerate_new
    meets ⟨h1, ?_⟩
  have hz : (s.heap.push o).objs.size = s.heap.objs.size + 1 := Heap.size_push ..
  show _ ∧ _
  rw [hz]
  have he : IsEnum ((s.heap.push o).push { cls := .type "enumerate", data := .fields #[.none, .bool false, .ref s.heap.objs.size, rawInt 0, .none, .none] }) (s.heap.objs.size + 1) s.heap.objs.size 0 .none := by
    have := Heap.get?_push_size (s.heap.push o) (o := { cls := .type "enumerate", data := .fields #[.none, .bool false, .ref s.heap.objs.size, rawInt 0, .none, .none] }) rfl
    rw [hz] at this; exact this
  refine ⟨⟨_, he, rfl⟩, h _ he (Heap.get?_push_of_some _ (Heap.get?_push_size _ B.free)) (by rw [Heap.size_push, hz]) fun b o x => Heap.get?_push_of_some _ (Heap.get?_push_of_some _ x)⟩
def iEnumB (K : PySem.W.Frag) (ta : TA) : TI := fun σ H R => ta σ H fun vs H1 => ∃ (b : Bool) (a : Addr) (xs : List V), vs = [.ref a] ∧ SqB b K H1 a xs ∧ R (IteB b K a) H1
theorem pi_enumB {X : Cx} {e : Expr} {ta : TA} {p pos tpos : Pos} {elts : List Expr} {kk : Nat} (hg : Gl X "enumerate") (hm : X.mg "enumerate" = none) (ha : PA X [e] ta) (hs : starEach [e] X.env = [(false, eval e X.env)] := by rfl) :
    PI X (.Tuple elts kk tpos) (.Call (.Name "enumerate" p) [e] [] pos) (iEnumB X.K ta) := by
  refine ⟨fun pins s σ H R I h => ?_⟩
  refine Call_ (ld_blt I hg hm boot_enumerate (PyProof.Rows.callWith_type1 (thn (ha.run pos pins s σ H _ I h) fun us s1 ⟨vs, H1, I1, r1, q1⟩ => ?_) hs rfl))
  obtain ⟨b, a, xs, ex, hq, q⟩ := q1
  subst ex
  cases r1 with
  | cons r rr =>
    cases rr
    cases r
    obtain ⟨its, rv, p', hz, hlt⟩ := DL.Inv.sqB I1 hq
    refine call_enum1 (beginsB b a its.toArray) p' fun h' he hit hsz hk => wpAny_pyIter_enum he ?_
    have I2 : Inv X pins σ H1 { s1 with heap := h' } := I1.kept (t' := s1.toks) hk
    refine ⟨s1.heap.objs.size + 1, [s1.heap.objs.size + 1, s1.heap.objs.size], _, _, H1, rfl, I2, turn_enumB b a (s1.heap.objs.size + 1) s1.heap.objs.size, ⟨⟨.none, he⟩, itB_new hit, Nat.succ_ne_self _, Nat.ne_of_lt hlt, Nat.ne_of_lt (Nat.lt_succ_of_lt hlt)⟩, fun b hb => ?_, q⟩
    have e' : b = s1.heap.objs.size + 1 ∨ b = s1.heap.objs.size := by simpa using hb
    have hle : s1.heap.objs.size ≤ b := by
      rcases e' with z | z
      · rw [z]; exact Nat.le_add_right _ _
      · rw [z]; exact Nat.le_refl _
    exact I1.fpOk hle (I1.hok.fresh hle)
theorem walk_enumB {b : Bool} {K : PySem.W.Frag} {a : Addr} {xs : List V} : Walk (IteB b K a) xs.length (fun H => SqB b K H a xs) (YPairF (fun i => some (.int (i : Nat))) (fun i => xs[i]?)) :=
  ⟨fun i H hi g => ⟨xs, xs[i], g, List.getElem?_eq_getElem hi⟩, fun H g => ⟨xs, g, rfl⟩, fun i H x H' hi g y => by
    obtain ⟨T, v, ob, e1, e2, ed, e3, e4⟩ := y
    exact ⟨T, _, v, ob, e1, e2, ed, e3, rfl, e4 xs g⟩⟩

/-! ### zip -/
def ItzB (b1 b2 : Bool) (K : PySem.W.Frag) (a c : Addr) : It :=
  ⟨fun i H => ∃ (xs ys : List V) (x y : V), SqB b1 K H a xs ∧ SqB b2 K H c ys ∧ xs[i]? = some x ∧ ys[i]? = some y,
    fun i H v H' => ∃ T x y ob, v = .ref T ∧ H T = none ∧ ob.dict = none ∧ H' = upd H T (.frz ob (.tup [x, y])) ∧ (∀ xs, SqB b1 K H a xs → xs[i]? = some x) ∧ ∀ ys, SqB b2 K H c ys → ys[i]? = some y,
    fun i H => ∃ xs ys : List V, SqB b1 K H a xs ∧ SqB b2 K H c ys ∧ i ≤ xs.length ∧ i ≤ ys.length ∧ (i = xs.length ∨ i = ys.length)⟩
theorem turn_zipB {P : Program} {w : World} {K : PySem.W.Frag} {elts : List Expr} {kk : Nat} {tpos : Pos} {b1 b2 : Bool} {a c z TI TO i1 i2 : Addr} (D : ZipSep2 z TI TO i1 i2 [i1, a] [i2, c]) (h1 : a ≠ i1) (h2 : c ≠ i2) :
    Turn P w K (.Tuple elts kk tpos) (ItzB b1 b2 K a c) [z, TI, TO, i1, i2] z (fun i h => IsZip h z TI TO .none ∧ IsTupOf2 h TI (.ref i1) (.ref i2) ∧ (∃ x y, IsTupOf2 h TO x y) ∧ ItB b1 h i1 a i ∧ ItB b2 h i2 c i) where
  mem := by simp
  obj := fun i h st d hd => by
    obtain ⟨hz, hTI, ⟨x, y, hTO⟩, q1, q2⟩ := st
    have e' : d = z ∨ d = TI ∨ d = TO ∨ d = i1 ∨ d = i2 := by simpa using hd
    rcases e' with q | q | q | q | q
    · rw [q]; exact ⟨_, hz, fun v q => nomatch q⟩
    · rw [q]; exact ⟨_, hTI, fun v q => nomatch q⟩
    · rw [q]; exact ⟨_, hTO, fun v q => nomatch q⟩
    · rw [q]; exact q1.obj
    · rw [q]; exact q2.obj
  keep := fun i h h' st k => by
    obtain ⟨hz, hTI, ⟨x, y, hTO⟩, q1, q2⟩ := st
    exact ⟨k z (by simp) _ hz, k TI (by simp) _ hTI, ⟨x, y, k TO (by simp) _ hTO⟩, q1.at fun o q => k i1 (by simp) o q, q2.at fun o q => k i2 (by simp) o q⟩
  item := by
    intro X hP hw hK hc i pins s σ H E I hf st hg
    subst hP hw hK
    obtain ⟨hz, hTI, ⟨x0, y0, hTO⟩, q1, q2⟩ := st
    obtain ⟨xs, ys, x, y, hqx, hqy, hx, hy⟩ := hg
    obtain ⟨its, rv, p, _, _⟩ := DL.Inv.sqB I hqx
    obtain ⟨its2, rv2, p2, _, _⟩ := DL.Inv.sqB I hqy
    obtain ⟨u, hu, ru⟩ := rv.get hx
    obtain ⟨u2, hu2, ru2⟩ := rv2.get hy
    have hin1 : i < its.toArray.size := by have := (List.getElem?_eq_some_iff.mp hu).1; simpa using this
    have hin2 : i < its2.toArray.size := by have := (List.getElem?_eq_some_iff.mp hu2).1; simpa using this
    have hzl : z < s.heap.objs.size := Heap.lt_size hz
    have hD := I.ok.hd hc
    refine wpAny_pyNext_zipD2_item D (drawsB (A := X.A.in1) b1 hD i1 a h1 its.toArray) (drawsB (A := X.A.in1) b2 hD i2 c h2 its2.toArray) hz hTI hTO ⟨q1, p⟩ ⟨q2, p2⟩ hin1 hin2 fun v1 v2 h' tk y1 y2 z' TO' s1' s2' hT hsz hk => ?_
    have ev1 : u = v1 := by
      have hv' : its[i]? = some v1 := by simpa using y1
      rw [hu] at hv'
      exact Option.some.inj hv'
    have ev2 : u2 = v2 := by
      have hv' : its2[i]? = some v2 := by simpa using y2
      rw [hu2] at hv'
      exact Option.some.inj hv'
    subst ev1 ev2
    refine ⟨_, rfl, wpAny_letOwnedTupleGo_zip (s := { s with heap := h', toks := tk }) z' fun h'' z'' sb => ?_⟩
    have hT2 : h''.get? s.heap.objs.size = some { cls := .type "tuple", data := .seq #[u, u2] } := (sb.2 _ (Nat.ne_of_gt hzl)).trans hT
    have new : ObjOk X.prog X.w (upd H s.heap.objs.size (.frz { cls := .type "tuple", data := .seq #[u, u2] } (.tup [x, y]))) h'' s.heap.objs.size (.frz { cls := .type "tuple", data := .seq #[u, u2] } (.tup [x, y])) :=
      ⟨hT2, by show 2 ≤ sizeLine; decide, [u, u2], .cons ru (.cons ru2 .nil), ⟨_, hT2, rfl, _, rfl⟩⟩
    have I1 : Inv X pins σ (upd H s.heap.objs.size (.frz { cls := .type "tuple", data := .seq #[u, u2] } (.tup [x, y]))) { s with heap := h'', toks := tk } :=
      I.turnedNew (t' := tk) (ch := [z, TI, TO, i1, i2]) (fun d o hb q => (sb.2 d (fun q' => hb (by simp [q']))).trans (hk d o (fun q' => hb (by simp [q'])) (fun q' => hb (by simp [q'])) (fun q' => hb (by simp [q'])) (fun q' => hb (by simp [q'])) q)) hf (Nat.le_refl _) new
    refine ⟨.ref s.heap.objs.size, _, I1, rfl, ⟨_, x, y, _, rfl, I.hok.fresh (Nat.le_refl _), rfl, rfl, fun l hl => by rw [DL.Inv.sqB_inj I hl hqx]; exact hx, fun l hl => by rw [DL.Inv.sqB_inj I hl hqy]; exact hy⟩, ⟨z'', ?_, ⟨u, u2, ?_⟩, ?_, ?_⟩, fun d hdm => ?_⟩
    · exact (sb.2 _ D.TIz).trans (hk _ _ D.TIz D.TITO D.TIi1 D.TIi2 hTI)
    · exact (sb.2 _ D.TOz).trans TO'
    · exact s1'.1.at fun o q => (sb.2 _ (fun e => D.zi1 e.symm)).trans q
    · exact s2'.1.at fun o q => (sb.2 _ (fun e => D.zi2 e.symm)).trans q
    · have hlt : d < s.heap.objs.size := by
        have e' : d = z ∨ d = TI ∨ d = TO ∨ d = i1 ∨ d = i2 := by simpa using hdm
        rcases e' with q | q | q | q | q
        · rw [q]; exact hzl
        · rw [q]; exact Heap.lt_size hTI
        · rw [q]; exact Heap.lt_size hTO
        · rw [q]; obtain ⟨_, e1, _⟩ := q1.obj; exact Heap.lt_size e1
        · rw [q]; obtain ⟨_, e2, _⟩ := q2.obj; exact Heap.lt_size e2
      rw [upd_ne (Nat.ne_of_lt hlt)]
      exact (hf d hdm).1
  done := by
    intro X hP hw hK hc i pins s σ H E I hf st hg
    subst hP hw hK
    obtain ⟨hz, hTI, ⟨x0, y0, hTO⟩, q1, q2⟩ := st
    obtain ⟨xs, ys, hqx, hqy, he1, he2, hend⟩ := hg
    obtain ⟨its, rv, p, _, _⟩ := DL.Inv.sqB I hqx
    obtain ⟨its2, rv2, p2, _, _⟩ := DL.Inv.sqB I hqy
    have l1 := rv.length
    have l2 := rv2.length
    have hD := I.ok.hd hc
    exact wpAny_pyNext_zipD2_end D (drawsB (A := X.A.in1) b1 hD i1 a h1 its.toArray) (drawsB (A := X.A.in1) b2 hD i2 c h2 its2.toArray) hz hTI hTO ⟨q1, p⟩ ⟨q2, p2⟩ (by simp; omega) (by simp; omega) (by simp; omega) fun h' tk hk => ⟨rfl, I.turnedL (t' := tk) (ch := [z, TI, TO, i1, i2]) (fun d o hb q =>
      hk d o (fun q' => hb (by simp [q'])) (fun q' => hb (by simp [q'])) (fun q' => hb (by simp [q'])) (fun q' => hb (by simp [q'])) q) hf⟩
  self := fun A i s Q E st h => wpAny_pyIter_zip st.1 h
def iZipB (K : PySem.W.Frag) (ta : TA) : TI := fun σ H R => ta σ H fun vs H1 => ∃ (b1 b2 : Bool) (a c : Addr) (xs ys : List V), vs = [.ref a, .ref c] ∧ SqB b1 K H1 a xs ∧ SqB b2 K H1 c ys ∧ R (ItzB b1 b2 K a c) H1
theorem pi_zipB {X : Cx} {e e2 : Expr} {ta : TA} {p pos tpos : Pos} {elts : List Expr} {kk : Nat} (hg : Gl X "zip") (hm : X.mg "zip" = none) (ha : PA X [e, e2] ta)
    (hs : starEach [e, e2] X.env = (false, eval e X.env) :: starEach [e2] X.env := by rfl) (hpl : (backTo pos (starEach [e2] X.env)).any (·.1) = false := by rfl) :
    PI X (.Tuple elts kk tpos) (.Call (.Name "zip" p) [e, e2] [] pos) (iZipB X.K ta) := by
  refine ⟨fun pins s σ H R I h => ?_⟩
  refine Call_ (ld_blt I hg hm PyProof.Rows.boot_zip (PyProof.Rows.callWith_type1 (thn (ha.run pos pins s σ H _ I h) fun us s1 ⟨vs, H1, I1, r1, q1⟩ => ?_) hs hpl))
  obtain ⟨b1, b2, a, c, xs, ys, ex, hqx, hqy, q⟩ := q1
  subst ex
  cases r1 with
  | cons r rr =>
    cases rr with
    | cons r' rr =>
      cases rr
      cases r
      cases r'
      obtain ⟨its, rv, p1, _, la⟩ := DL.Inv.sqB I1 hqx
      obtain ⟨its2, rv2, p2, _, lc⟩ := DL.Inv.sqB I1 hqy
      refine zip_begins2 (beginsB b1 a its.toArray) (beginsB b2 c its2.toArray) p1 p2 fun h' hz hTI hTO h1 h2 hsz hk => wpAny_pyIter_zip hz ?_
      have I2 : Inv X pins σ H1 { s1 with heap := h' } := I1.kept (t' := s1.toks) hk
      refine ⟨s1.heap.objs.size + 4, [s1.heap.objs.size + 4, s1.heap.objs.size + 2, s1.heap.objs.size + 3, s1.heap.objs.size, s1.heap.objs.size + 1], _, _, H1, rfl, I2,
        turn_zipB (zip_sep2 (N := s1.heap.objs.size) (fp1 := [a]) (fp2 := [c]) (fun d hd => by rw [List.mem_singleton.mp hd]; exact la) (fun d hd => by rw [List.mem_singleton.mp hd]; exact lc)) (Nat.ne_of_lt la) (Nat.ne_of_lt (Nat.lt_succ_of_lt lc)), ⟨hz, hTI, ⟨_, _, hTO⟩, itB_new h1, itB_new h2⟩, fun d hdm => ?_, q⟩
      have e' : d = s1.heap.objs.size + 4 ∨ d = s1.heap.objs.size + 2 ∨ d = s1.heap.objs.size + 3 ∨ d = s1.heap.objs.size ∨ d = s1.heap.objs.size + 1 := by simpa using hdm
      have hle : s1.heap.objs.size ≤ d := by
        rcases e' with z | z | z | z | z
        · rw [z]; exact Nat.le_add_right _ _
        · rw [z]; exact Nat.le_add_right _ _
        · rw [z]; exact Nat.le_add_right _ _
        · rw [z]; exact Nat.le_refl _
        · rw [z]; exact Nat.le_add_right _ _
      exact I1.fpOk hle (I1.hok.fresh hle)
theorem walk_zipB {b1 b2 : Bool} {K : PySem.W.Frag} {a c : Addr} {xs ys : List V} : Walk (ItzB b1 b2 K a c) (min xs.length ys.length) (fun H => SqB b1 K H a xs ∧ SqB b2 K H c ys) (YPairF (fun i => xs[i]?) (fun i => ys[i]?)) :=
  ⟨fun i H hi g => ⟨xs, ys, xs[i], ys[i], g.1, g.2, List.getElem?_eq_getElem (by omega), List.getElem?_eq_getElem (by omega)⟩, fun H g => ⟨xs, ys, g.1, g.2, by omega, by omega, by omega⟩, fun i H x H' hi g y => by
    obtain ⟨T, v, w, ob, e1, e2, ed, e3, e4, e5⟩ := y
    exact ⟨T, v, w, ob, e1, e2, ed, e3, e4 xs g.1, e5 ys g.2⟩⟩
end DL

set_option Elab.async false
set_option linter.all false
set_option maxRecDepth 100000
set_option autoImplicit false
/-! DL5: statements, loops, comprehensions over data. -/
namespace DL
open PySem PySem.Spec PyProof.Rows L2

/-! ### any reading that is shown -/
def tAnyS (X : Cx) (st : List Stmt) : TS := fun D σ H => ∃ t, PSs X st t ∧ t D σ H
theorem pss_any {X : Cx} {st : List Stmt} : PSs X st (tAnyS X st) := ⟨fun pins s σ H D I ⟨t, h, q⟩ => h.run pins s σ H D I q⟩
def tAnyT (X : Cx) (e : Expr) : TT := fun σ H Q => ∃ t, PT X e t ∧ t σ H Q
theorem pt_any {X : Cx} {e : Expr} : PT X e (tAnyT X e) := ⟨fun pins s σ H Q I ⟨t, h, q⟩ => h.run pins s σ H Q I q⟩
/-- the contexts of a comprehension's block -/
abbrev blkOf (X : Cx) (scope : Scope) (s : Shared) (H : Hp) (C : Addr) (cl : List (Str × Addr)) (fp : List Addr) : Cx := X.blk s H scope (compEnvC scope cl C X.env) fp
def tAnyBE (X : Cx) (scope : Scope) (e : Expr) : TE := fun σ H Q => ∃ t : TE, (∀ s H C cl fp, PE (blkOf X scope s H C cl fp) e t) ∧ t σ H Q
theorem pe_anyB {X : Cx} {scope : Scope} {e : Expr} (s : Shared) (H : Hp) (C : Addr) (cl : List (Str × Addr)) (fp : List Addr) : PE (blkOf X scope s H C cl fp) e (tAnyBE X scope e) :=
  ⟨fun pins s σ H Q I ⟨t, h, q⟩ => (h _ _ _ _ _).run pins s σ H Q I q⟩
def tAnyBT (X : Cx) (scope : Scope) (es : List Expr) : TT := fun σ H Q => ∃ t : TT, (∀ s H C cl fp, PTs (blkOf X scope s H C cl fp) es t) ∧ t σ H Q
theorem pt_anyB {X : Cx} {scope : Scope} {es : List Expr} (s : Shared) (H : Hp) (C : Addr) (cl : List (Str × Addr)) (fp : List Addr) : PTs (blkOf X scope s H C cl fp) es (tAnyBT X scope es) :=
  ⟨fun pins s σ H Q I ⟨t, h, q⟩ => (h _ _ _ _ _).run pins s σ H Q I q⟩

/-! ### weaker slots -/
def WkS : Sl → Sl → Prop := fun s t => t = .any ∨ s = t
structure Wk (ρ ρ' : List Sl) : Prop where
  len : ρ.length = ρ'.length
  at_ : ∀ (i : Nat) (t : Sl), ρ'[i]? = some t → t = .any ∨ ρ[i]? = some t
theorem Wk.refl (ρ : List Sl) : Wk ρ ρ := ⟨rfl, fun _ _ h => .inr h⟩
theorem Wk.own {ρ ρ' : List Sl} (h : Wk ρ ρ') {p : Addr} (o : Own ρ' p) : Own ρ p := by
  obtain ⟨i, u, e, hu⟩ := of_own o
  rcases h.at_ i _ e with z | z
  · subst z; cases hu
  · exact own_at z hu
theorem Sg.wk {g : Gh} {F H : Hp} {σ : L2.St} {ρ ρ' : List Sl} (S : Sg g F H σ ρ) (h : Wk ρ ρ') : Sg g F H σ ρ' := by
  refine ⟨⟨S.st.sub, S.st.len.trans h.len, fun i s e => ?_, fun i j p o o' e1 e2 q1 q2 => ?_⟩, ⟨S.xt.same, fun p a b c => ?_⟩⟩
  · rcases h.at_ i s e with z | z
    · subst z
      have hi : i < σ.length := by rw [S.st.len, h.len]; exact (List.getElem?_eq_some_iff.mp e).1
      exact ⟨σ[i], List.getElem?_eq_getElem hi, trivial⟩
    · exact S.st.at_ i s z
  · rcases h.at_ i _ e1 with z | z
    · subst z; cases q1
    · rcases h.at_ j _ e2 with y | y
      · subst y; cases q2
      · exact S.st.apart i j p o o' z y q1 q2
  · obtain ⟨x, y, z⟩ := S.xt.rest p a b c
    exact ⟨x, y, fun w => z (h.own w)⟩
/-- slots of the comprehension's own names, forgotten -/
def wp (ρ : List Sl) : List Nat → List Sl
  | [] => ρ
  | v :: vs => (wp ρ vs).set v .any
theorem wp_length (ρ : List Sl) : ∀ vs : List Nat, (wp ρ vs).length = ρ.length
  | [] => rfl
  | v :: vs => by unfold wp; rw [List.length_set, wp_length ρ vs]
theorem wp_get {ρ : List Sl} {i : Nat} {s : Sl} : ∀ {vs : List Nat}, (wp ρ vs)[i]? = some s → s = .any ∨ (ρ[i]? = some s ∧ i ∉ vs)
  | [], h => .inr ⟨h, by simp⟩
  | v :: vs, h => by
    unfold wp at h
    by_cases e : v = i
    · subst e
      by_cases hv : v < (wp ρ vs).length
      · rw [List.getElem?_set_self hv] at h
        cases h
        exact .inl rfl
      · rw [List.getElem?_eq_none (by rw [List.length_set]; omega)] at h
        cases h
    · rw [List.getElem?_set_ne e] at h
      rcases wp_get h with z | ⟨z, y⟩
      · exact .inl z
      · exact .inr ⟨z, by simp only [List.mem_cons, not_or]; exact ⟨fun q => e q.symm, y⟩⟩
theorem wp_wk (ρ : List Sl) (vs : List Nat) : Wk ρ (wp ρ vs) := ⟨(wp_length ρ vs).symm, fun _ _ h => (wp_get h).imp id fun z => z.1⟩
theorem wp_out {ρ : List Sl} {i : Nat} : ∀ {vs : List Nat}, i ∉ vs → (wp ρ vs)[i]? = ρ[i]?
  | [], _ => rfl
  | v :: vs, h => by
    have h1 : v ≠ i := fun e => h (by rw [e]; exact List.mem_cons_self)
    unfold wp
    rw [List.getElem?_set_ne h1]
    exact wp_out fun m => h (List.mem_cons_of_mem _ m)
theorem wipe_at {σ : L2.St} {i : Nat} {x : Option V} : ∀ {vs : List Nat}, σ[i]? = some x → ∃ y, (wipe σ vs)[i]? = some y
  | [], h => ⟨x, h⟩
  | v :: vs, h => by
    obtain ⟨y, hy⟩ := wipe_at (vs := vs) h
    unfold wipe
    by_cases e : v = i
    · subst e
      exact ⟨none, by rw [List.getElem?_set_self (List.getElem?_eq_some_iff.mp hy).1]⟩
    · exact ⟨y, by rw [List.getElem?_set_ne e]; exact hy⟩
/-- the block's entry -/
theorem Sg.wipe {g : Gh} {F H : Hp} {σ : L2.St} {ρ : List Sl} (S : Sg g F H σ ρ) (vs : List Nat) : Sat F H (L2.wipe σ vs) (wp ρ vs) := by
  have W := (S.wk (wp_wk ρ vs)).st
  refine ⟨W.sub, by rw [wipe_length]; exact W.len, fun i s e => ?_, W.apart⟩
  rcases wp_get e with z | ⟨z, y⟩
  · subst z
    have hi : i < σ.length := by rw [W.len]; exact (List.getElem?_eq_some_iff.mp e).1
    obtain ⟨q, hq⟩ := wipe_at (vs := vs) (List.getElem?_eq_getElem hi)
    exact ⟨q, hq, trivial⟩
  · obtain ⟨x, hx, a⟩ := S.st.at_ i s z
    exact ⟨x, by rw [wipe_out y]; exact hx, a⟩
theorem Sat.sg {F H : Hp} {σ : L2.St} {ρ : List Sl} (S : Sat F H σ ρ) : Sg ⟨F, H, DL.Own ρ⟩ F H σ ρ := ⟨S, Xt.refl⟩

/-! ### what is walked -/
/-- the heap's growth at a yield: frozen objects, one by one -/
inductive Grow : Hp → Hp → Hp → Hp → Prop where
  | no (F H : Hp) : Grow F H F H
  | one {F H F' H' : Hp} (T : Addr) (o : HO) (hT : H T = none) (r : Grow (upd F T o) (upd H T o) F' H') : Grow F H F' H'
theorem Grow.single {F H : Hp} (T : Addr) (o : HO) (hT : H T = none) : Grow F H (upd F T o) (upd H T o) := .one T o hT (.no _ _)
theorem Grow.far {F H F' H' : Hp} (k : Grow F H F' H') {A : Addr} (h : H A ≠ none) : F' A = F A ∧ H' A = H A := by
  induction k with
  | no F H => exact ⟨rfl, rfl⟩
  | one T o hT r ih =>
    have ne : A ≠ T := fun z => h (z ▸ hT)
    rw [upd_ne ne, upd_ne ne] at ih
    exact ih h
theorem Grow.far' {F H F' H' : Hp} (k : Grow F H F' H') {A : Addr} {x : HO} (f : F A = none) (h : H A = some x) : F' A = none ∧ H' A = some x := by
  obtain ⟨a, b⟩ := k.far (A := A) (by rw [h]; exact fun z => by cases z)
  exact ⟨a.trans f, b.trans h⟩
theorem Sg.growth {g : Gh} {F H F' H' : Hp} {σ : L2.St} {ρ : List Sl} (S : Sg g F H σ ρ) (k : Grow F H F' H') : Sg g F' H' σ ρ ∧ Same F F' := by
  induction k with
  | no F H => exact ⟨S, Same.refl _⟩
  | one T o hT r ih =>
    obtain ⟨a, b, _⟩ := S.newF hT (o := o)
    obtain ⟨c, d⟩ := ih a
    exact ⟨c, b.trans d⟩
structure WalkD (J : It) (F1 : Hp) (ds : List Pd) : Prop where
  small : ds.length ≤ sizeLine
  goes : ∀ i F H, i < ds.length → Same F1 F → Same F H → J.go i H
  stops : ∀ F H, Same F1 F → Same F H → J.stop ds.length H
  yields : ∀ i F H v H', i < ds.length → Same F1 F → Same F H → J.yld i H v H' → ∃ d F', ds[i]? = some d ∧ Grow F H F' H' ∧ Da F' d v
def tDI (g : Gh) (ρ : List Sl) (ds : List Pd) (ρ1 : List Sl) : TI := fun σ H R => ∃ F, Sg g F H σ ρ ∧ ∀ J F1 H1, Sg g F1 H1 σ ρ1 → Same F F1 → WalkD J F1 ds → R J H1
abbrev DI (g : Gh) (X : Cx) (tg iter : Expr) (ρ : List Sl) (ds : List Pd) (ρ1 : List Sl) : Prop := PI X tg iter (tDI g ρ ds ρ1)
theorem pi_mono {X : Cx} {tg e : Expr} {t t' : TI} (h : PI X tg e t) (k : ∀ σ H Q, t' σ H Q → t σ H Q) : PI X tg e t' := ⟨fun pins s σ H Q I q => h.run pins s σ H Q I (k σ H Q q)⟩
section
variable {g : Gh} {X : Cx} {ρ ρ1 ρ2 : List Sl} {e e2 tg : Expr} {ds ds2 : List Pd} {pos p : Pos}
theorem di_list (h : DE g X e ρ (.d (.list ds)) ρ1) : DI g X tg e ρ ds ρ1 :=
  pi_mono (pi_list h) fun σ H Q ⟨F, S, k⟩ => ⟨F, S, fun v F1 H1 S1 k1 a => by
    obtain ⟨b, vs, ev, f, z, q⟩ := a
    refine ⟨b, ev, ⟨vs, SqL.of (S1.st.sub _ _ f)⟩, k _ F1 H1 S1 k1 ⟨by rw [q.length]; exact z, fun i F2 H2 hi s1 s2 => ?_, fun F2 H2 s1 s2 => ?_, fun i F2 H2 v H' hi s1 s2 y => ?_⟩⟩
    · have hv : i < vs.length := by rw [← q.length]; exact hi
      exact ⟨vs, vs[i], SqL.of (s2 _ _ (s1 _ _ f)), List.getElem?_eq_getElem hv⟩
    · exact ⟨vs, SqL.of (s2 _ _ (s1 _ _ f)), by rw [q.length]; exact Nat.le_refl _⟩
    · obtain ⟨eh, y⟩ := y
      subst eh
      obtain ⟨d, hd, a⟩ := q.get (y vs (SqL.of (s2 _ _ (s1 _ _ f))))
      exact ⟨d, F2, hd, .no _ _, a.mono s1⟩⟩
theorem di_tup (h : DE g X e ρ (.d (.tuple ds)) ρ1) : DI g X tg e ρ ds ρ1 :=
  pi_mono (pi_tup h) fun σ H Q ⟨F, S, k⟩ => ⟨F, S, fun v F1 H1 S1 k1 a => by
    obtain ⟨b, vs, ev, f, z, q⟩ := a
    refine ⟨b, ev, ⟨vs, (f.mono S1.st.sub).sq⟩, k _ F1 H1 S1 k1 ⟨by rw [q.length]; exact z, fun i F2 H2 hi s1 s2 => ?_, fun F2 H2 s1 s2 => ?_, fun i F2 H2 v H' hi s1 s2 y => ?_⟩⟩
    · have hv : i < vs.length := by rw [← q.length]; exact hi
      exact ⟨vs, vs[i], (f.mono (s1.trans s2)).sq, List.getElem?_eq_getElem hv⟩
    · exact ⟨vs, (f.mono (s1.trans s2)).sq, by rw [q.length]; exact Nat.le_refl _⟩
    · obtain ⟨eh, y⟩ := y
      subst eh
      obtain ⟨d, hd, a⟩ := q.get (y vs ((f.mono (s1.trans s2)).sq))
      exact ⟨d, F2, hd, .no _ _, a.mono s1⟩⟩
/-- lo, lo + 1, .. -/
def rngD (lo : Int) (n : Nat) : List Pd := (List.range n).map fun i => .int (lo + (i : Nat))
theorem rngD_length (lo : Int) (n : Nat) : (rngD lo n).length = n := by unfold rngD; rw [List.length_map, List.length_range]
theorem rngD_get {lo : Int} {n i : Nat} (h : i < n) : (rngD lo n)[i]? = some (.int (lo + (i : Nat))) := by
  unfold rngD
  rw [List.getElem?_map, List.getElem?_range h]
  rfl
theorem walkD_range {F1 : Hp} {lo : Int} {n : Nat} (hn : n ≤ 16777216) : WalkD (Itr lo n) F1 (rngD lo n) := by
  refine ⟨by rw [rngD_length, sizeLine_eq]; exact hn, fun i F H hi _ _ => ?_, fun F H _ _ => ?_, fun i F H v H' hi _ _ y => ?_⟩
  · rw [rngD_length] at hi; exact hi
  · rw [rngD_length]; exact Nat.le_refl _
  · rw [rngD_length] at hi
    obtain ⟨eh, ev⟩ := y
    exact ⟨_, F, rngD_get hi, (by rw [eh]; exact .no _ _), ev⟩
theorem di_range1 {k : Nat} {n : Int} (hX : XO k X) (h : DA g X [e] ρ [.d (.int n)] ρ1) (hn : -(2 ^ 62) ≤ n ∧ n ≤ 16777216) (hg : Gl X "range" := by rfl) (hs : starEach [e] X.env = [(false, eval e X.env)] := by rfl) :
    DI g X tg (.Call (.Name "range" p) [e] [] pos) ρ (rngD 0 n.toNat) ρ1 :=
  pi_mono (pi_range1 hg hX.bi.range h hs) fun σ H Q ⟨F, S, q⟩ => ⟨F, S, fun vs F1 H1 S1 k1 a => by
    obtain ⟨v, ws, e1, a1, a2⟩ := a
    subst e1
    cases (show v = _ from a1)
    cases (show ws = _ from a2)
    exact ⟨n, rfl, hn.1, by have := hn.2; omega, q _ F1 H1 S1 k1 (walkD_range (by have := hn.2; omega))⟩⟩
theorem di_range2 {k : Nat} {m n : Int} (hX : XO k X) (h : DA g X [e, e2] ρ [.d (.int m), .d (.int n)] ρ1) (hn : -(2 ^ 62) ≤ m ∧ m < 2 ^ 62 ∧ -(2 ^ 62) ≤ n ∧ n < 2 ^ 62 ∧ n - m ≤ 16777216) (hg : Gl X "range" := by rfl)
    (hs : starEach [e, e2] X.env = [(false, eval e X.env), (false, eval e2 X.env)] := by rfl) (hs2 : starEach [e2] X.env = [(false, eval e2 X.env)] := by rfl) :
    DI g X tg (.Call (.Name "range" p) [e, e2] [] pos) ρ (rngD m (n - m).toNat) ρ1 :=
  pi_mono (pi_range2 hg hX.bi.range h hs hs2) fun σ H Q ⟨F, S, q⟩ => ⟨F, S, fun vs F1 H1 S1 k1 a => by
    obtain ⟨v, ws, e1, a1, w, us, e2, a2, a3⟩ := a
    subst e1 e2
    cases (show v = _ from a1)
    cases (show w = _ from a2)
    cases (show us = _ from a3)
    exact ⟨m, n, rfl, ⟨hn.1, hn.2.1, hn.2.2.1, hn.2.2.2.1⟩, q _ F1 H1 S1 k1 (walkD_range (by have := hn.2.2.2.2; omega))⟩⟩
/-- range(m, n, c) -/
def rngC (lo c : Int) (n : Nat) : List Pd := (List.range n).map fun i => .int (lo + (i : Nat) * c)
theorem di_range3 {k : Nat} {e3 : Expr} {m n c : Int} {len : Nat} (hX : XO k X) (h : DA g X [e, e2, e3] ρ [.d (.int m), .d (.int n), .d (.int c)] ρ1) (hn : RgC m n c len) (hz : len ≤ 16777216) (hg : Gl X "range" := by rfl)
    (hs : starEach [e, e2, e3] X.env = (false, eval e X.env) :: starEach [e2, e3] X.env := by rfl) (hpl : (backTo pos (starEach [e2, e3] X.env)).any (·.1) = false := by rfl) :
    DI g X tg (.Call (.Name "range" p) [e, e2, e3] [] pos) ρ (rngC m c len) ρ1 :=
  pi_mono (pi_range3 hg hX.bi.range h hs hpl) fun σ H Q ⟨F, S, q⟩ => ⟨F, S, fun vs F1 H1 S1 k1 a => by
    obtain ⟨v, ws, e1, a1, w, us, e2, a2, x, ts, e3, a3, a4⟩ := a
    subst e1 e2 e3
    cases (show v = _ from a1)
    cases (show w = _ from a2)
    cases (show x = _ from a3)
    cases (show ts = _ from a4)
    refine ⟨m, n, c, len, rfl, hn, q _ F1 H1 S1 k1 ⟨by unfold rngC; rw [List.length_map, List.length_range, sizeLine_eq]; exact hz, fun i F H hi _ _ => ?_, fun F H _ _ => ?_, fun i F H v H' hi _ _ y => ?_⟩⟩
    · unfold rngC at hi; rw [List.length_map, List.length_range] at hi; exact hi
    · unfold rngC; rw [List.length_map, List.length_range]; exact Nat.le_refl _
    · unfold rngC at hi ⊢
      rw [List.length_map, List.length_range] at hi
      obtain ⟨eh, ev⟩ := y
      exact ⟨.int (m + (i : Nat) * c), F, by rw [List.getElem?_map, List.getElem?_range hi]; rfl, (by rw [eh]; exact .no _ _), ev⟩⟩
/-- what a pair of two walked things gives -/
theorem walkD_pair {J : It} {F1 : Hp} {n : Nat} {G : Hp → Prop} {f1 f2 : Nat → Option V} {ds : List Pd} (w : Walk J n G (YPairF f1 f2)) (hz : ds.length ≤ sizeLine) (hn : ds.length = n) (hG : ∀ H, Same F1 H → G H)
    (hd : ∀ i v u, i < n → f1 i = some v → f2 i = some u → ∃ d e, ds[i]? = some (.tuple [d, e]) ∧ Da F1 d v ∧ Da F1 e u) : WalkD J F1 ds := by
  subst hn
  refine ⟨hz, fun i F H hi s1 s2 => w.goes i H hi (hG H (s1.trans s2)), fun F H s1 s2 => w.stops H (hG H (s1.trans s2)), fun i F H v H' hi s1 s2 y => ?_⟩
  obtain ⟨T, x, y', ob, ev, hT, hdd, eh, e1, e2⟩ := w.yields i H v H' hi (hG H (s1.trans s2)) y
  obtain ⟨d, e, he, a, b⟩ := hd i x y' hi e1 e2
  have k : Same F (upd F T (.frz ob (.tup [x, y']))) := same_upd (s2.free hT)
  exact ⟨_, upd F T (.frz ob (.tup [x, y'])), he, (by rw [eh]; exact .single T _ hT), T, [x, y'], ev, ⟨ob, upd_same, hdd⟩, (by show 2 ≤ sizeLine; decide), x, [y'], rfl, a.mono (s1.trans k), y', [], rfl, b.mono (s1.trans k), rfl⟩
/-- a list or a tuple -/
def seqD : R → Option (List Pd)
  | .d (.list ds) => some ds
  | .d (.tuple ds) => some ds
  | _ => none
theorem seqD_at {F : Hp} {σ : L2.St} {r : R} {v : V} {ds : List Pd} (h : seqD r = some ds) (a : RAt F σ r v) : ∃ b p vs, v = .ref p ∧ DaL F ds vs ∧ ds.length ≤ sizeLine ∧ ∀ (K : PySem.W.Frag) (H : Hp), Same F H → SqB b K H p vs := by
  unfold seqD at h
  split at h
  · cases h
    obtain ⟨p, vs, e, f, z, q⟩ := a
    exact ⟨false, p, vs, e, q, by rw [q.length]; exact z, fun K H k => SqL.of (k _ _ f)⟩
  · cases h
    obtain ⟨p, vs, e, f, z, q⟩ := a
    exact ⟨true, p, vs, e, q, by rw [q.length]; exact z, fun K H k => (f.mono k).sq⟩
  · cases h
def enumD (ds : List Pd) : List Pd := ds.zipIdx.map fun p => .tuple [.int (p.2 : Nat), p.1]
theorem enumD_get {ds : List Pd} {i : Nat} {d : Pd} (h : ds[i]? = some d) : (enumD ds)[i]? = some (.tuple [.int (i : Nat), d]) := by
  unfold enumD
  rw [List.getElem?_map, List.getElem?_zipIdx, h]
  simp
theorem enumD_length (ds : List Pd) : (enumD ds).length = ds.length := by unfold enumD; rw [List.length_map, List.length_zipIdx]
theorem di_enum {k n : Nat} {elts : List Expr} {tpos : Pos} {r : R} (hX : XO k X) (h : DA g X [e] ρ [r] ρ1) (hr : seqD r = some ds) (hg : Gl X "enumerate" := by rfl) (hs : starEach [e] X.env = [(false, eval e X.env)] := by rfl) :
    DI g X (.Tuple elts n tpos) (.Call (.Name "enumerate" p) [e] [] pos) ρ (enumD ds) ρ1 :=
  pi_mono (pi_enumB hg hX.bi.enumerate h hs) fun σ H Q ⟨F, S, q⟩ => ⟨F, S, fun vs F1 H1 S1 k1 a => by
    obtain ⟨v, ws, e1, a1, a2⟩ := a
    subst e1
    cases (show ws = _ from a2)
    obtain ⟨b, pp, us, e2, dl, dz, sq⟩ := seqD_at hr a1
    subst e2
    refine ⟨b, pp, us, rfl, sq _ _ S1.st.sub, q _ F1 H1 S1 k1 (walkD_pair walk_enumB (by rw [enumD_length]; exact dz) (by rw [enumD_length, dl.length]) (fun H k => sq _ _ k) fun i v u hi ev eu => ?_)⟩
    cases ev
    obtain ⟨d, hd, ad⟩ := dl.get eu
    exact ⟨_, d, enumD_get hd, rfl, ad⟩⟩
def zipD (ds es : List Pd) : List Pd := (ds.zip es).map fun p => .tuple [p.1, p.2]
theorem di_zip {k n : Nat} {elts : List Expr} {tpos : Pos} {r r2 : R} (hX : XO k X) (h : DA g X [e, e2] ρ [r, r2] ρ1) (hr : seqD r = some ds) (hr2 : seqD r2 = some ds2) (hg : Gl X "zip" := by rfl)
    (hs : starEach [e, e2] X.env = (false, eval e X.env) :: starEach [e2] X.env := by rfl) (hpl : (backTo pos (starEach [e2] X.env)).any (·.1) = false := by rfl) :
    DI g X (.Tuple elts n tpos) (.Call (.Name "zip" p) [e, e2] [] pos) ρ (zipD ds ds2) ρ1 :=
  pi_mono (pi_zipB hg hX.bi.zip h hs hpl) fun σ H Q ⟨F, S, q⟩ => ⟨F, S, fun vs F1 H1 S1 k1 a => by
    obtain ⟨v, ws, e1, a1, w, ws2, e2, a2, a3⟩ := a
    subst e1 e2
    cases (show ws2 = _ from a3)
    obtain ⟨b, pp, us, e2, dl, dz, sq⟩ := seqD_at hr a1
    obtain ⟨b2, pp2, us2, e3, dl2, dz2, sq2⟩ := seqD_at hr2 a2
    subst e2 e3
    refine ⟨b, b2, pp, pp2, us, us2, rfl, sq _ _ S1.st.sub, sq2 _ _ S1.st.sub, q _ F1 H1 S1 k1 (walkD_pair walk_zipB (by unfold zipD; rw [List.length_map, List.length_zip]; omega) (by unfold zipD; rw [List.length_map, List.length_zip, dl.length, dl2.length]) (fun H k => ⟨sq _ _ k, sq2 _ _ k⟩) fun i v u hi ev eu => ?_)⟩
    obtain ⟨d, hd, ad⟩ := dl.get ev
    obtain ⟨c, hc, ac⟩ := dl2.get eu
    refine ⟨d, c, ?_, ad, ac⟩
    unfold zipD
    rw [List.getElem?_map, show (ds.zip ds2)[i]? = some (d, c) from List.getElem?_zip_eq_some.mpr ⟨hd, hc⟩]
    rfl⟩
end

/-! ### targets -/
def tDG (bind : Pd → List Sl → Option (List Sl)) : TG := fun v σ H Q => ∃ F g ρ d ρ', Sg g F H σ ρ ∧ Da F d v ∧ bind d ρ = some ρ' ∧ ∀ σ', Sg g F H σ' ρ' → (∀ vs : List Nat, (∀ i, i ∉ vs → σ'[i]? = σ[i]?) → L2.wipe σ' vs = L2.wipe σ vs) → Q σ' H
/-- bind d ρ: the slots behind the store; ix: those that it touches -/
structure DG (X : Cx) (tg : Expr) (bind : Pd → List Sl → Option (List Sl)) (ix : List Nat) : Prop where
  run : ∀ (pins : List (Addr × Obj)) (s : Shared) (σ : L2.St) (F H : Hp) (g : Gh) (ρ ρ' : List Sl) (d : Pd) (v : V) (u : Value) (Q : L2.St → Hp → Prop), Inv X pins σ H s → RelV v u → Sg g F H σ ρ → Da F d v → bind d ρ = some ρ' →
    (∀ σ', Sg g F H σ' ρ' → σ'.length = σ.length → (∀ i, i ∉ ix → σ'[i]? = σ[i]?) → Q σ' H) → wpAny (model X.prog X.w) X.A (assign tg X.env u) (fun _ s' => ∃ σ' H', Inv X pins σ' H' s' ∧ Q σ' H') X.xe s
def tDGr (bind : Pd → List Sl → Option (List Sl)) (ix : List Nat) : TG := fun v σ H Q => ∃ F g ρ d ρ', Sg g F H σ ρ ∧ Da F d v ∧ bind d ρ = some ρ' ∧ ∀ σ', Sg g F H σ' ρ' → σ'.length = σ.length → (∀ i, i ∉ ix → σ'[i]? = σ[i]?) → Q σ' H
theorem DG.pg {X : Cx} {tg : Expr} {bind : Pd → List Sl → Option (List Sl)} {ix : List Nat} (h : DG X tg bind ix) : PG X tg (tDGr bind ix) :=
  ⟨fun pins s σ H v u Q I r ⟨F, g, ρ, d, ρ', S, a, b, k⟩ => h.run pins s σ F H g ρ ρ' d v u Q I r S a b k⟩
def bName (i : Nat) : Pd → List Sl → Option (List Sl) := fun d ρ => if i < ρ.length then some (ρ.set i (.dat d)) else none
def bPair (b c : Pd → List Sl → Option (List Sl)) : Pd → List Sl → Option (List Sl) := fun d ρ => match d with
  | .tuple [x, y] => (b x ρ).bind (c y)
  | _ => none
def bTrip (b c e : Pd → List Sl → Option (List Sl)) : Pd → List Sl → Option (List Sl) := fun d ρ => match d with
  | .tuple [x, y, z] => ((b x ρ).bind (c y)).bind (e z)
  | _ => none
section
variable {X : Cx} {pos : Pos}
theorem dg_name (i : Nat) {x : Str} (hN : X.N.Nodup) (hi : X.N[i]? = some x := by rfl) (hx : Loc X.env.scope x := by first | exact Or.inl rfl | exact Or.inr rfl) (hf : X.fn x = true ∨ X.env.scope.names.lookup x = some .local := by first | exact .inl rfl | exact .inr rfl) : DG X (.Name x pos) (bName i) [i] := by
  refine ⟨fun pins s σ F H g ρ ρ' d v u Q I r S a b k => ?_⟩
  unfold bName at b
  split at b
  · rename_i hl
    cases b
    exact wpAny_assign_Name (store_ok I hN hi hx r (fun s' I' => ⟨_, H, I', k _ (S.set hl ⟨v, rfl, a⟩ fun q hq => by cases hq) (List.length_set ..) fun j hj => List.getElem?_set_ne (fun e => hj (by rw [e]; exact List.mem_singleton.mpr rfl))⟩) hf)
  · cases b
theorem dg_pair {k n : Nat} {t1 t2 : Expr} {b c : Pd → List Sl → Option (List Sl)} {i1 i2 : List Nat} (hX : XO k X) (h1 : DG X t1 b i1) (h2 : DG X t2 c i2) (hn : (assignEach [t1, t2] X.env).length = 2 := by rfl) (hst : (assignEach [t1, t2] X.env).findIdx? (·.1) = none := by rfl)
    (hs1 : (assignEach [t1, t2] X.env).map (·.2) = assign t1 X.env :: (assignEach [t2] X.env).map (·.2) := by rfl) (hs2 : (assignEach [t2] X.env).map (·.2) = assign t2 X.env :: (assignEach [] X.env).map (·.2) := by rfl) :
    DG X (.Tuple [t1, t2] n pos) (bPair b c) (i1 ++ i2) := by
  refine ⟨fun pins s σ F H g ρ ρ' d v u Q I r S a e k => ?_⟩
  unfold bPair at e
  split at e
  · rename_i x y
    obtain ⟨p, vs, ev, f, z, q⟩ := a
    obtain ⟨v1, w1, ew1, ax, v2, w2, ew2, ay, ew3⟩ := q
    subst ev ew1 ew2
    cases (show w2 = _ from ew3)
    obtain ⟨ρm, em, e2⟩ := Option.bind_eq_some_iff.mp e
    have G := pg_tup (n := 2) (pos := pos) (k := n) hX.calm (pgs_cons h1.pg (pgs_cons h2.pg pgs_nil hs2) hs1) hn hst
    refine G.run pins s σ H _ u Q I r ⟨p, [v1, v2], rfl, (f.mono S.st.sub).sq, rfl, v1, [v2], rfl, F, g, ρ, x, ρm, S, ax, em, fun σ1 S1 l1 k1 => ⟨v2, [], rfl, F, g, ρm, y, ρ', S1, ay, e2, fun σ2 S2 l2 k2 => ⟨rfl, k σ2 S2 (l2.trans l1) fun j hj => ?_⟩⟩⟩
    rw [k2 j fun z => hj (List.mem_append_right _ z), k1 j fun z => hj (List.mem_append_left _ z)]
  · cases e
theorem dg_trip {k n : Nat} {t1 t2 t3 : Expr} {b c e3 : Pd → List Sl → Option (List Sl)} {i1 i2 i3 : List Nat} (hX : XO k X) (h1 : DG X t1 b i1) (h2 : DG X t2 c i2) (h3 : DG X t3 e3 i3) (hn : (assignEach [t1, t2, t3] X.env).length = 3 := by rfl) (hst : (assignEach [t1, t2, t3] X.env).findIdx? (·.1) = none := by rfl)
    (hs1 : (assignEach [t1, t2, t3] X.env).map (·.2) = assign t1 X.env :: (assignEach [t2, t3] X.env).map (·.2) := by rfl) (hs2 : (assignEach [t2, t3] X.env).map (·.2) = assign t2 X.env :: (assignEach [t3] X.env).map (·.2) := by rfl)
    (hs3 : (assignEach [t3] X.env).map (·.2) = assign t3 X.env :: (assignEach [] X.env).map (·.2) := by rfl) : DG X (.Tuple [t1, t2, t3] n pos) (bTrip b c e3) (i1 ++ i2 ++ i3) := by
  refine ⟨fun pins s σ F H g ρ ρ' d v u Q I r S a e k => ?_⟩
  unfold bTrip at e
  split at e
  · rename_i x y z
    obtain ⟨p, vs, ev, f, sz, q⟩ := a
    obtain ⟨v1, w1, ew1, ax, v2, w2, ew2, ay, v3, w3, ew3, az, ew4⟩ := q
    subst ev ew1 ew2 ew3
    cases (show w3 = _ from ew4)
    obtain ⟨ρn, en, e2⟩ := Option.bind_eq_some_iff.mp e
    obtain ⟨ρm, em, e1⟩ := Option.bind_eq_some_iff.mp en
    have G := pg_tup (n := 3) (pos := pos) (k := n) hX.calm (pgs_cons h1.pg (pgs_cons h2.pg (pgs_cons h3.pg pgs_nil hs3) hs2) hs1) hn hst
    refine G.run pins s σ H _ u Q I r ⟨p, [v1, v2, v3], rfl, (f.mono S.st.sub).sq, rfl, v1, [v2, v3], rfl, F, g, ρ, x, ρm, S, ax, em, fun σ1 S1 l1 k1 => ⟨v2, [v3], rfl, F, g, ρm, y, ρn, S1, ay, e1, fun σ2 S2 l2 k2 =>
      ⟨v3, [], rfl, F, g, ρn, z, ρ', S2, az, e2, fun σ3 S3 l3 k3 => ⟨rfl, k σ3 S3 (l3.trans (l2.trans l1)) fun j hj => ?_⟩⟩⟩⟩
    rw [k3 j fun z => hj (List.mem_append_right _ z), k2 j fun z => hj (List.mem_append_left _ (List.mem_append_right _ z)), k1 j fun z => hj (List.mem_append_left _ (List.mem_append_left _ z))]
  · cases e
end

/-! ### statements -/
section
variable {g : Gh} {X : Cx} {ρ ρ1 ρ2 : List Sl} {e : Expr} {st : Stmt} {rest : List Stmt} {pos pos' : Pos} {N N' : List Sl → Prop} {R R' : Rt → List Sl → Prop}
theorem dss_nil (h : N ρ) : DSs g X [] ρ N R := pss_mono pss_nil fun D σ H ⟨F, S, k, _⟩ => k σ F H ρ h S (Same.refl _)
theorem dss_cons (h1 : DS g X st ρ N' R) (h2 : ∀ ρ1, N' ρ1 → DSs g X rest ρ1 N R) : DSs g X (st :: rest) ρ N R := by
  refine pss_mono (pss_cons h1 (pss_any (X := X) (st := rest))) fun D σ H ⟨F, S, k, r⟩ => ?_
  exact ⟨F, S, fun σ1 F1 H1 ρ1 n S1 k1 => ⟨_, h2 ρ1 n, F1, S1, fun σ2 F2 H2 ρ2 n2 S2 k2 => k σ2 F2 H2 ρ2 n2 S2 (k1.trans k2), fun d v σ2 F2 H2 ρ2 n2 S2 k2 a => r d v σ2 F2 H2 ρ2 n2 S2 (k1.trans k2) a⟩,
    fun d v σ1 F1 H1 ρ1 n S1 k1 a => r d v σ1 F1 H1 ρ1 n S1 k1 a⟩
theorem dss_one (h1 : DS g X st ρ N R) : DSs g X [st] ρ N R := pss_one h1
theorem dss_wk (w : Wk ρ ρ1) (h : DSs g X rest ρ1 N R) : DSs g X rest ρ N R := pss_mono h fun D σ H ⟨F, S, k, r⟩ => ⟨F, S.wk w, k, r⟩
theorem ds_wk (w : Wk ρ ρ1) (h : DS g X st ρ1 N R) : DS g X st ρ N R := ps_mono h fun D σ H ⟨F, S, k, r⟩ => ⟨F, S.wk w, k, r⟩
theorem dss_imp (h : DSs g X rest ρ N' R') (hn : ∀ ρ, N' ρ → N ρ) (hr : ∀ d ρ, R' d ρ → R d ρ) : DSs g X rest ρ N R :=
  pss_mono h fun D σ H ⟨F, S, k, r⟩ => ⟨F, S, fun σ1 F1 H1 ρ1 n => k σ1 F1 H1 ρ1 (hn _ n), fun d v σ1 F1 H1 ρ1 n => r d v σ1 F1 H1 ρ1 (hr _ _ n)⟩
theorem ds_set (i : Nat) {x : Str} {d : Pd} (hX : X.N.Nodup) (he : DE g X e ρ (.d d) ρ1) (hi : X.N[i]? = some x := by rfl) (hx : Loc X.env.scope x := by first | exact Or.inl rfl | exact Or.inr rfl) (hl : i < ρ1.length := by exact Nat.le_of_ble_eq_true rfl)
    (hs : swapsWith e (some (.Name x pos')) pos.line X.env = pure false := by rfl) (hf : X.fn x = true ∨ X.env.scope.names.lookup x = some .local := by first | exact .inl rfl | exact .inr rfl) :
    DS g X (.Assign [.Name x pos'] e pos) ρ (· = ρ1.set i (.dat d)) R :=
  ps_mono (ps_set hX hi hx he hs hf) fun D σ H ⟨F, S, k, _⟩ => ⟨F, S, fun v F1 H1 S1 k1 a => k _ F1 H1 _ rfl (S1.set (s := .dat d) hl ⟨v, rfl, a⟩ fun q hq => by cases hq) k1⟩
theorem dss_set (i : Nat) {x : Str} {d : Pd} (hX : X.N.Nodup) (he : DE g X e ρ (.d d) ρ1) (hr : DSs g X rest (ρ1.set i (.dat d)) N R) (hi : X.N[i]? = some x := by rfl) (hx : Loc X.env.scope x := by first | exact Or.inl rfl | exact Or.inr rfl) (hl : i < ρ1.length := by exact Nat.le_of_ble_eq_true rfl)
    (hs : swapsWith e (some (.Name x pos')) pos.line X.env = pure false := by rfl) (hf : X.fn x = true ∨ X.env.scope.names.lookup x = some .local := by first | exact .inl rfl | exact .inr rfl) :
    DSs g X (.Assign [.Name x pos'] e pos :: rest) ρ N R := dss_cons (ds_set i hX he hi hx hl hs hf) fun ρ2 h => by subst h; exact hr
/-- a new list or dict, own from now on -/
theorem dss_new (i : Nat) {x : Str} {o : Ow} (hX : X.N.Nodup) (he : DF g X e ρ o ρ1) (hr : ∀ p, DSs g X rest (ρ1.set i (.own p o)) N R) (hi : X.N[i]? = some x := by rfl) (hx : Loc X.env.scope x := by first | exact Or.inl rfl | exact Or.inr rfl) (hl : i < ρ1.length := by exact Nat.le_of_ble_eq_true rfl)
    (hs : swapsWith e (some (.Name x pos')) pos.line X.env = pure false := by rfl) (hf : X.fn x = true ∨ X.env.scope.names.lookup x = some .local := by first | exact .inl rfl | exact .inr rfl) :
    DSs g X (.Assign [.Name x pos'] e pos :: rest) ρ N R :=
  dss_cons (N' := fun ρ2 => ∃ p, ρ2 = ρ1.set i (.own p o)) (ps_mono (ps_set hX hi hx he hs hf) fun D σ H ⟨F, S, k, _⟩ => ⟨F, S, fun p h F1 H1 S1 k1 fn no gn ho a =>
    k _ F1 H1 _ ⟨p, rfl⟩ (S1.set (s := .own p o) hl ⟨rfl, fn, h, ho, a⟩ fun q hq => by rw [List.mem_singleton.mp hq]; exact ⟨no, gn⟩) k1⟩) fun ρ2 ⟨p, h⟩ => by subst h; exact hr p
theorem ds_ret {d : Pd} (he : DE g X e ρ (.d d) ρ1) (h : R (.d d) ρ1) : DS g X (.Return (some e) pos) ρ N R :=
  ps_mono (ps_ret he) fun D σ H ⟨F, S, _, r⟩ => ⟨F, S, fun v F1 H1 S1 k1 a => r (.d d) v σ F1 H1 ρ1 h S1 k1 a⟩
theorem dss_ret {d : Pd} (he : DE g X e ρ (.d d) ρ1) (h : R (.d d) ρ1) : DSs g X (.Return (some e) pos :: rest) ρ N R := dss_cons (N' := fun _ => False) (ds_ret he h) fun _ z => z.elim
/-- a new list or dict is returned, own -/
theorem dss_retF {o : Ow} (he : DF g X e ρ o ρ1) (h : R (.o o) ρ1) : DSs g X (.Return (some e) pos :: rest) ρ N R := dss_cons (N' := fun _ => False) (ps_mono (ps_ret he) fun D σ H ⟨F, S, _, r⟩ => ⟨F, S, fun p h1 F1 H1 S1 k1 fn no gn hh a => r (.o o) _ σ F1 H1 ρ1 h S1 k1 ⟨p, h1, rfl, fn, no, gn, hh, a⟩⟩) fun _ z => z.elim
theorem dss_expr {r : DL.R} (he : DE g X e ρ r ρ1) (hr : DSs g X rest ρ1 N R) (hs : swapsWith e none pos.line X.env = pure false := by rfl) : DSs g X (.Expr e pos :: rest) ρ N R :=
  dss_cons (N' := (· = ρ1)) (ps_mono (ps_expr he hs) fun D σ H ⟨F, S, k, _⟩ => ⟨F, S, fun v F1 H1 S1 k1 a => k σ F1 H1 ρ1 rfl S1 k1⟩) fun ρ2 h => by subst h; exact hr
theorem ds_if {c : Expr} {a b : List Stmt} {k : Bool} (hc : DT g X c ρ k ρ1) (ha : k = true → DSs g X a ρ1 N R) (hb : k = false → DSs g X b ρ1 N R) : DS g X (.If c a b pos) ρ N R := by
  cases k with
  | true => exact ps_mono (ps_if (u := tNever) hc (ha rfl) pss_never) fun D σ H ⟨F, S, q, r⟩ => ⟨F, S, fun F1 H1 S1 k1 => iteT ⟨F1, S1, fun σ2 F2 H2 ρ2 n2 S2 k2 => q σ2 F2 H2 ρ2 n2 S2 (k1.trans k2), fun d v σ2 F2 H2 ρ2 n2 S2 k2 a => r d v σ2 F2 H2 ρ2 n2 S2 (k1.trans k2) a⟩⟩
  | false => exact ps_mono (ps_if (t := tNever) hc pss_never (hb rfl)) fun D σ H ⟨F, S, q, r⟩ => ⟨F, S, fun F1 H1 S1 k1 => iteF ⟨F1, S1, fun σ2 F2 H2 ρ2 n2 S2 k2 => q σ2 F2 H2 ρ2 n2 S2 (k1.trans k2), fun d v σ2 F2 H2 ρ2 n2 S2 k2 a => r d v σ2 F2 H2 ρ2 n2 S2 (k1.trans k2) a⟩⟩
/-- if whose branch leaves, or is not taken: what follows it -/
theorem dss_if {c : Expr} {a b : List Stmt} {k : Bool} (hc : DT g X c ρ k ρ1) (ha : k = true → DSs g X a ρ1 N' R) (hb : k = false → DSs g X b ρ1 N' R) (hr : ∀ ρ2, N' ρ2 → DSs g X rest ρ2 N R) : DSs g X (.If c a b pos :: rest) ρ N R := dss_cons (ds_if hc ha hb) hr
/-- if c: (leaves) -/
theorem dss_ifR {c : Expr} {a : List Stmt} {k : Bool} (hc : DT g X c ρ k ρ1) (ha : k = true → DSs g X a ρ1 (fun _ => False) R) (hr : k = false → DSs g X rest ρ1 N R) : DSs g X (.If c a [] pos :: rest) ρ N R :=
  dss_cons (N' := fun ρ2 => k = false ∧ ρ2 = ρ1) (ds_if hc (fun h => dss_imp (ha h) (fun _ z => z.elim) fun _ _ z => z) fun h => dss_nil ⟨h, rfl⟩) fun ρ2 ⟨h, e⟩ => by subst e; exact hr h
/-- if that is known not to be taken -/
theorem dss_ifF {c : Expr} {a : List Stmt} (hc : DT g X c ρ false ρ1) (hr : DSs g X rest ρ1 N R) : DSs g X (.If c a [] pos :: rest) ρ N R := dss_ifR hc (fun h => by cases h) fun _ => hr
theorem ds_for {k : Nat} {tg iter : Expr} {body : List Stmt} {ds : List Pd} {bind : Pd → List Sl → Option (List Sl)} {ix : List Nat} (hX : XO k X) (hi : DI g X tg iter ρ ds ρ1) (hg : DG X tg bind ix) (I : Nat → List Sl → Prop) (h0 : I 0 ρ1)
    (hb : ∀ i d ρi, ds[i]? = some d → I i ρi → ∃ ρb, bind d ρi = some ρb ∧ DSs g X body ρb (fun ρ' => ∃ ρ'', Wk ρ' ρ'' ∧ I (i + 1) ρ'') R) (hend : ∀ ρ', I ds.length ρ' → N ρ')
    (hs : ∀ x, foldedSetIterable iter X.env x = pure x := by intro _; rfl) : DS g X (.For tg iter body [] pos) ρ N R := by
  refine ps_mono (ps_for hX.po hX.calm hi hg.pg (pss_any (X := X) (st := body)) hs) fun D σ H ⟨F, S, kn, kr⟩ => ⟨F, S, fun J F1 H1 S1 k1 W => ?_⟩
  refine ⟨fun i m σ H => m = ds.length - i ∧ i ≤ ds.length ∧ ∃ F ρ, Sg g F H σ ρ ∧ Same F1 F ∧ I i ρ, ⟨ds.length, by simp, Nat.zero_le _, F1, ρ1, S1, Same.refl _, h0⟩, ?_⟩
  rintro i m σ2 H2 ⟨rfl, hle, F2, ρ2, S2, k2, p⟩
  by_cases hlt : i < ds.length
  · refine .inr ⟨W.goes i F2 H2 hlt k2 S2.st.sub, fun σ' H' => ∃ F' ρ', Sg g F' H' σ' ρ' ∧ Same F1 F' ∧ I (i + 1) ρ', fun σ' H' q => ⟨ds.length - (i + 1), by omega, rfl, hlt, q⟩, fun v H' y => ?_⟩
    obtain ⟨d, F3, hd, gr, a⟩ := W.yields i F2 H2 v H' hlt k2 S2.st.sub y
    obtain ⟨S3, k3⟩ := S2.growth gr
    obtain ⟨ρb, eb, hbd⟩ := hb i d ρ2 hd p
    refine ⟨F3, g, ρ2, d, ρb, S3, a, eb, fun σ' S4 _ _ => ⟨_, hbd, F3, S4, fun σ5 F5 H5 ρ5 n5 S5 k5 => ?_, fun d v σ5 F5 H5 ρ5 n5 S5 k5 a => kr d v σ5 F5 H5 ρ5 n5 S5 (k1.trans (k2.trans (k3.trans k5))) a⟩⟩
    obtain ⟨ρ6, w, n6⟩ := n5
    exact ⟨F5, ρ6, S5.wk w, k2.trans (k3.trans k5), n6⟩
  · have e : i = ds.length := by omega
    subst e
    exact .inl ⟨W.stops F2 H2 k2 S2.st.sub, kn σ2 F2 H2 ρ2 (hend _ p) S2 (k1.trans k2)⟩
theorem ds_while {k : Nat} {c : Expr} {body : List Stmt} (hX : XO k X) (I : List Sl → Prop) (μ : List Sl → Nat) (h0 : I ρ)
    (hb : ∀ ρi, I ρi → ∃ b ρ1, DT g X c ρi b ρ1 ∧ (b = false → N ρ1) ∧ (b = true → DSs g X body ρ1 (fun ρ' => ∃ ρ'', Wk ρ' ρ'' ∧ I ρ'' ∧ μ ρ'' < μ ρi) R)) : DS g X (.While c body [] pos) ρ N R := by
  refine ps_mono (ps_while hX.po (pt_any (X := X) (e := c)) (pss_any (X := X) (st := body))) fun D σ H ⟨F, S, kn, kr⟩ => ?_
  refine ⟨fun m σ H => ∃ F' ρ', Sg g F' H σ ρ' ∧ Same F F' ∧ I ρ' ∧ m = μ ρ', ⟨_, F, ρ, S, Same.refl _, h0, rfl⟩, ?_⟩
  rintro m σ2 H2 ⟨F2, ρ2, S2, k2, i2, rfl⟩
  obtain ⟨b, ρ3, hc, hf, ht⟩ := hb ρ2 i2
  refine ⟨_, hc, F2, S2, fun F3 H3 S3 k3 => ?_⟩
  cases b with
  | false => exact iteF (kn σ2 F3 H3 ρ3 (hf rfl) S3 (k2.trans k3))
  | true =>
    refine iteT ⟨fun σ' H' => ∃ F' ρ', Sg g F' H' σ' ρ' ∧ Same F F' ∧ I ρ' ∧ μ ρ' < μ ρ2, fun σ' H' ⟨F', ρ', a, b, c, d⟩ => ⟨_, d, F', ρ', a, b, c, rfl⟩, _, ht rfl, F3, S3, fun σ4 F4 H4 ρ4 ⟨ρ5, w, i5, l5⟩ S4 k4 => ⟨F4, ρ5, S4.wk w, k2.trans (k3.trans k4), i5, l5⟩,
      fun d v σ4 F4 H4 ρ4 n4 S4 k4 a => kr d v σ4 F4 H4 ρ4 n4 S4 (k2.trans (k3.trans k4)) a⟩
/-- a, b = x, y: plain locals, data -/
theorem dss_par (i j : Nat) {x y : Str} {a b : Expr} {d1 d2 : Pd} {px py pt pt2 : Pos} {kt k2 : Nat} (hX : XO k2 X) (ha : DA g X [a, b] ρ [.d d1, .d d2] ρ1) (hr : DSs g X rest ((ρ1.set i (.dat d1)).set j (.dat d2)) N R) (hij : i ≠ j := by decide) (hi : X.N[i]? = some x := by rfl) (hj : X.N[j]? = some y := by rfl)
    (hx : X.env.scope.names.lookup x = some .local := by rfl) (hy : X.env.scope.names.lookup y = some .local := by rfl) (hli : i < ρ1.length := by exact Nat.le_of_ble_eq_true rfl) (hlj : j < ρ1.length := by exact Nat.le_of_ble_eq_true rfl)
    {k3 : Nat} (hw : swappedStores [.Tuple [.Name x px, .Name y py] kt pt] (.Tuple [a, b] k3 pt2) X.env = pure (some [x, y]) := by rfl) (hs : swapsWithSole [.Tuple [.Name x px, .Name y py] kt pt] (.Tuple [a, b] k3 pt2) pos.line X.env = pure false := by rfl) :
    DSs g X (.Assign [.Tuple [.Name x px, .Name y py] kt pt] (.Tuple [a, b] k3 pt2) pos :: rest) ρ N R :=
  dss_cons (N' := (· = (ρ1.set i (.dat d1)).set j (.dat d2))) (ps_mono (ps_par hX.calm hX.nd hi hj hij hx hy ha hw hs) fun D σ H ⟨F, S, k, _⟩ => ⟨F, S, fun vs F1 H1 S1 k1 a => by
    obtain ⟨v, ws, e1, a1, w, us, e2, a2, a3⟩ := a
    subst e1 e2
    cases (show us = _ from a3)
    exact ⟨v, w, rfl, k _ F1 H1 _ rfl ((S1.set (s := .dat d1) hli ⟨v, rfl, a1⟩ fun q hq => by cases hq).set (s := .dat d2) (by rw [List.length_set]; exact hlj) ⟨w, rfl, a2⟩ fun q hq => by cases hq) k1⟩⟩) fun ρ2 h => by subst h; exact hr
end

/-! ### comprehensions -/
abbrev DTs (g : Gh) (X : Cx) (es : List Expr) (ρ : List Sl) (b : Bool) (ρ' : List Sl) : Prop := PTs X es (tDT g ρ b ρ')
theorem pts_mono {X : Cx} {e : List Expr} {t t' : TT} (h : PTs X e t) (k : ∀ σ H Q, t' σ H Q → t σ H Q) : PTs X e t' := ⟨fun pins s σ H Q I q => h.run pins s σ H Q I (k σ H Q q)⟩
section
variable {g : Gh} {X : Cx} {ρ ρ1 : List Sl} {pos : Pos}
theorem dts_nil : DTs g X [] ρ true ρ := pts_mono pts_nil fun σ H Q ⟨F, S, k⟩ => k F H S (Same.refl _)
theorem dts_one {c : Expr} {b : Bool} (h : DT g X c ρ b ρ1) : DTs g X [c] ρ b ρ1 := pts_one h
theorem wipe_eq {σ σ' : L2.St} {vs : List Nat} (hl : σ'.length = σ.length) (h : ∀ i, i ∉ vs → σ'[i]? = σ[i]?) : L2.wipe σ' vs = L2.wipe σ vs := by
  apply List.ext_getElem?
  intro i
  by_cases hi : i ∈ vs
  · have : ∀ (τ : L2.St) (us : List Nat), i ∈ us → (L2.wipe τ us)[i]? = if i < τ.length then some none else none := by
      intro τ us
      induction us with
      | nil => intro h; cases h
      | cons u us ih =>
        intro h
        show ((L2.wipe τ us).set u none)[i]? = _
        by_cases e : u = i
        · subst e
          by_cases hu : u < τ.length
          · rw [List.getElem?_set_self (by rw [wipe_length]; exact hu), if_pos hu]
          · rw [List.getElem?_eq_none (by rw [List.length_set, wipe_length]; omega), if_neg hu]
        · rw [List.getElem?_set_ne e]
          rcases List.mem_cons.mp h with q | q
          · exact absurd q.symm e
          · exact ih q
    rw [this σ' vs hi, this σ vs hi, hl]
  · rw [wipe_out hi, wipe_out hi]; exact h i hi
theorem wipe_wipe {σ : L2.St} {vs : List Nat} : L2.wipe (L2.wipe σ vs) vs = L2.wipe σ vs := wipe_eq (wipe_length _ _) fun i hi => wipe_out hi
/-- back from the block: only what the block's names hide has changed -/
theorem Sg.unwipe {g : Gh} {F H F' H' : Hp} {σ σ2 : L2.St} {ρ ρb : List Sl} {vs : List Nat} (S : Sg g F H σ ρ) (S2 : Sg ⟨F, H, Own (wp ρ vs)⟩ F' H' σ2 ρb) (hl : ∀ i, i ∉ vs → σ2[i]? = σ[i]?) (hb : ∀ i s, i ∉ vs → ρ[i]? = some s → ρb[i]? = some s)
    (hob : ∀ p, Own ρb p → Own ρ p) : Sg g F' H' σ ρ := by
  have key : ∀ p, Own ρ p → ¬ Own (wp ρ vs) p → F' p = none ∧ H' p = H p := fun p hp hn => by
    obtain ⟨f, h⟩ := S.st.ownF hp
    obtain ⟨a, b, _⟩ := S2.xt.rest p h f hn
    exact ⟨a, b⟩
  refine ⟨⟨S2.st.sub, S.st.len, fun i s e => ?_, S.st.apart⟩, S.xt.trans ⟨S2.xt.same, fun p h f o => ?_⟩⟩
  · obtain ⟨x, hx, a⟩ := S.st.at_ i s e
    refine ⟨x, hx, ?_⟩
    by_cases hi : i ∈ vs
    · refine a.grow S2.xt.same fun q hq => ?_
      have oq : Own ρ q := List.mem_flatMap.mpr ⟨s, List.mem_of_getElem? e, hq⟩
      refine key q oq fun z => ?_
      obtain ⟨j, u, ej, hu⟩ := of_own z
      rcases wp_get ej with w | ⟨w, nj⟩
      · subst w; cases hu
      · have eij := S.st.apart i j q s u e w hq hu
        exact nj (eij ▸ hi)
    · obtain ⟨y, hy, b⟩ := S2.st.at_ i s (hb i s hi e)
      rw [hl i hi, hx] at hy
      cases hy
      exact b
  · obtain ⟨a, b, c⟩ := S2.xt.rest p h f fun z => o ((wp_wk ρ vs).own z)
    exact ⟨a, b, o⟩
/-- a comprehension: as a value, and as it is stored at once under a name -/
structure DLC (g : Gh) (X : Cx) (e : Expr) (ρ : List Sl) (o : Ow) (ρ' : List Sl) : Prop where
  df : DF g X e ρ o ρ'
  set : ∀ (i : Nat) (y : Str) (py spos : Pos), X.N[i]? = some y → X.env.scope.names.lookup y = some .local → swapsWith e (some (.Name y py)) spos.line X.env = pure true → PS X (.Assign [.Name y py] e spos) (tAsg (tDF g ρ o ρ') (gName i))
theorem asg_mono {X : Cx} {st : Stmt} {t t' : TE} {u : TG} (h : PS X st (tAsg t u)) (k : ∀ σ H Q, t' σ H Q → t σ H Q) : PS X st (tAsg t' u) := ps_mono h fun D σ H q => k σ H _ q
/-- [elt for tg in iter if ..], nothing own changed -/
theorem dlcD {k : Nat} {elt tg iter : Expr} {ifs : List Expr} {scope : Scope} {own : List (Str × Nat)} {ds : List Pd} {bind : Pd → List Sl → Option (List Sl)} {ix : List Nat} (hX : XO k X) (hi : DI g X tg iter ρ ds ρ1) (ok : BlkOk X.N X.env.scope scope own)
    (hg : ∀ (s : Shared) (H : Hp) (C : Addr) (cl : List (Str × Addr)) (fp : List Addr), DG (blkOf X scope s H C cl fp) tg bind ix) (hix : ∀ i ∈ ix, i ∈ own.map (·.2)) (p : Nat → Bool) (f : Nat → Pd) (out : Nat → List Pd) (h0 : out 0 = []) (hout : ∀ i, out (i + 1) = if p i = true then out i ++ [f i] else out i)
    (turn : ∀ i d, ds[i]? = some d → ∃ ρb, bind d (wp ρ1 (own.map (·.2))) = some ρb ∧ (∀ i s, i ∉ own.map (·.2) → ρ1[i]? = some s → ρb[i]? = some s) ∧ (∀ q, Own ρb q → Own ρ1 q) ∧
      (∀ g' s H C cl fp, DTs g' (blkOf X scope s H C cl fp) ifs ρb (p i) ρb) ∧ (p i = true → ∀ g' s H C cl fp, DE g' (blkOf X scope s H C cl fp) elt ρb (.d (f i)) ρb))
    (hs : ∀ x, foldedSetIterable iter X.env x = pure x := by intro _; rfl) : DLC g X (.ListComp elt [⟨tg, iter, ifs, 0⟩] scope pos) ρ (.lst (out ds.length)) ρ1 := by
  suffices hread : ∀ σ H Q, tDF g ρ (.lst (out ds.length)) ρ1 σ H Q → tLc (tDI g ρ ds ρ1) (tDGr bind ix) (tAnyBT X scope ifs) (tAnyBE X scope elt) (own.map (·.2)) σ H Q from
    ⟨pe_mono (pe_lc (own := own) (te := tAnyBE X scope elt) (tt := tAnyBT X scope ifs) (g := tDGr bind ix) hX.calm hX.nd hi ok (fun s H C cl fp => (hg s H C cl fp).pg) (fun s H C cl fp => pt_anyB s H C cl fp) (fun s H C cl fp => pe_anyB s H C cl fp) hs) hread,
      fun i y py spos h1 h2 h3 => asg_mono (ps_setLc (own := own) (te := tAnyBE X scope elt) (tt := tAnyBT X scope ifs) (g := tDGr bind ix) hX.calm hX.nd h1 h2 h3 hi ok (fun s H C cl fp => (hg s H C cl fp).pg) (fun s H C cl fp => pt_anyB s H C cl fp) (fun s H C cl fp => pe_anyB s H C cl fp) hs) hread⟩
  refine fun σ H Q ⟨F, S, kk⟩ => ⟨F, S, fun J F1 H1 S1 k1 W A hA => ?_⟩
  have hz := W.small
  obtain ⟨S1', fA, nA, gA⟩ := S1.newO hA (o := .lst [])
  refine ⟨fun i m H => m = ds.length - i ∧ i ≤ ds.length ∧ ∃ F vs, Sg g F H σ ρ1 ∧ Same F1 F ∧ F A = none ∧ H A = some (.lst vs) ∧ vs.length ≤ i ∧ DaL F (out i) vs, ⟨ds.length, by simp, Nat.zero_le _, F1, [], S1', Same.refl _, fA, upd_same, Nat.zero_le _, by rw [h0]; rfl⟩, ?_⟩
  rintro i m H2 ⟨rfl, hle, F2, vs2, S2, k2, f2, hH2, hl2, dl2⟩
  by_cases hlt : i < ds.length
  · refine .inr ⟨W.goes i F2 H2 hlt k2 S2.st.sub, fun H' => ∃ F' vs', Sg g F' H' σ ρ1 ∧ Same F1 F' ∧ F' A = none ∧ H' A = some (.lst vs') ∧ vs'.length ≤ i + 1 ∧ DaL F' (out (i + 1)) vs', fun H' q => ⟨ds.length - (i + 1), by omega, rfl, hlt, q⟩, fun v H' y => ?_⟩
    obtain ⟨d, F3, hd, gr, a⟩ := W.yields i F2 H2 v H' hlt k2 S2.st.sub y
    obtain ⟨S3, k3⟩ := S2.growth gr
    have f3 : F3 A = none ∧ H' A = some (.lst vs2) := by
      exact gr.far' f2 hH2
    obtain ⟨ρb, eb, hbs, hob, ht, he⟩ := turn i d hd
    have Sw : Sg ⟨F3, H', DL.Own (wp ρ1 (own.map (·.2)))⟩ F3 H' (L2.wipe σ (own.map (·.2))) (wp ρ1 (own.map (·.2))) := (S3.wipe _).sg
    have nw : ¬ DL.Own (wp ρ1 (own.map (·.2))) A := fun z => by
      have := (wp_wk ρ1 _).own z
      exact nA this
    refine ⟨F3, _, _, d, ρb, Sw, a, eb, fun σ4 S4 l4 o4 => ⟨?_, ?_⟩⟩
    · have e1 : L2.wipe σ4 (own.map (·.2)) = L2.wipe (L2.wipe σ (own.map (·.2))) (own.map (·.2)) := wipe_eq l4 fun j hj => o4 j fun z => hj (hix j z)
      rw [e1, wipe_wipe]
    have hl4 : ∀ j, j ∉ own.map (·.2) → σ4[j]? = σ[j]? := fun j hj => by rw [o4 j fun z => hj (hix j z), wipe_out hj]
    refine ⟨_, ht _, F3, S4, fun F5 H5 S5 k5 => ?_⟩
    have S5' : Sg g F5 H5 σ ρ1 := S3.unwipe S5 hl4 hbs hob
    obtain ⟨a5, b5, _⟩ := S5.xt.rest A (show H' A ≠ none by rw [f3.2]; exact fun z => by cases z) f3.1 nw
    have b5' : H5 A = some (.lst vs2) := (show H5 A = H' A from b5).trans f3.2
    cases hp : p i with
    | false =>
      refine iteF ⟨F5, vs2, S5', k2.trans (k3.trans k5), a5, b5', by omega, ?_⟩
      rw [hout i, hp, if_neg Bool.false_ne_true]
      exact dl2.mono (k3.trans k5)
    | true =>
      refine iteT ⟨_, he hp _, F5, S5, fun u F6 H6 S6 k6 a6 => ?_⟩
      have S6' : Sg g F6 H6 σ ρ1 := S3.unwipe S6 hl4 hbs hob
      obtain ⟨a7, b7, _⟩ := S6.xt.rest A (show H' A ≠ none by rw [f3.2]; exact fun z => by cases z) f3.1 nw
      have b7' : H6 A = some (.lst vs2) := (show H6 A = H' A from b7).trans f3.2
      have hu : ∀ q, q ≠ A → upd H6 A (.lst (vs2 ++ [u])) q = H6 q := fun q hq => upd_ne hq
      refine ⟨vs2, b7', Nat.lt_of_le_of_lt hl2 (Nat.lt_of_lt_of_le hlt hz), F6, vs2 ++ [u], ⟨S6'.st.grow (Same.refl _) (fun b x e => ?_) fun q hq => ?_, ⟨S6'.xt.same, fun q h1 h2 h3 => ?_⟩⟩, k2.trans (k3.trans (k5.trans k6)), a7, upd_same, by rw [List.length_append, List.length_singleton]; omega, ?_⟩
      · have hb : b ≠ A := fun z => by rw [z, a7] at e; cases e
        rw [hu b hb]; exact S6'.st.sub _ _ e
      · have hq' : q ≠ A := fun z => nA (z ▸ hq)
        rw [hu q hq']; exact ⟨(S6'.st.ownF hq).1, rfl⟩
      · obtain ⟨x, y, z⟩ := S6'.xt.rest q h1 h2 h3
        have hq' : q ≠ A := fun w => by
          subst w
          rcases gA with w | w
          · exact h1 w
          · exact h3 w
        rw [hu q hq']; exact ⟨x, y, z⟩
      · rw [hout i, hp, if_pos rfl]
        exact (dl2.mono (k3.trans (k5.trans k6))).snoc a6
  · have e : i = ds.length := by omega
    subst e
    refine .inl ⟨W.stops F2 H2 k2 S2.st.sub, kk A (.lst vs2) F2 H2 S2 (k1.trans k2) f2 nA gA hH2 ⟨vs2, rfl, Nat.le_trans hl2 hz, dl2⟩⟩
/-- .. typed: the items em x, a test p, an element f -/
theorem dlc {α : Type} {k : Nat} {elt tg iter : Expr} {ifs : List Expr} {scope : Scope} {ds : List Pd} {bind : Pd → List Sl → Option (List Sl)} {ix : List Nat} (own : List (Str × Nat)) (em : α → Pd) (xs : List α) (p : α → Bool) (f : α → Pd)
    (hX : XO k X) (hi : DI g X tg iter ρ ds ρ1) (hd : ds = xs.map em) (ok : BlkOk X.N X.env.scope scope own)
    (hg : ∀ (s : Shared) (H : Hp) (C : Addr) (cl : List (Str × Addr)) (fp : List Addr), DG (blkOf X scope s H C cl fp) tg bind ix) (hix : ∀ i ∈ ix, i ∈ own.map (·.2))
    (turn : ∀ x, x ∈ xs → ∃ ρb, bind (em x) (wp ρ1 (own.map (·.2))) = some ρb ∧ (∀ i s, i ∉ own.map (·.2) → ρ1[i]? = some s → ρb[i]? = some s) ∧ (∀ q, Own ρb q → Own ρ1 q) ∧
      (∀ g' s H C cl fp, DTs g' (blkOf X scope s H C cl fp) ifs ρb (p x) ρb) ∧ (p x = true → ∀ g' s H C cl fp, DE g' (blkOf X scope s H C cl fp) elt ρb (.d (f x)) ρb))
    (hs : ∀ x, foldedSetIterable iter X.env x = pure x := by intro _; rfl) : DLC g X (.ListComp elt [⟨tg, iter, ifs, 0⟩] scope pos) ρ (.lst ((xs.filter p).map f)) ρ1 := by
  subst hd
  have step : ∀ i x, xs[i]? = some x → xs.take (i + 1) = xs.take i ++ [x] := fun i x h => by rw [List.take_add_one, h]; rfl
  have q := dlcD (pos := pos) hX hi ok hg hix (fun i => match xs[i]? with | some x => p x | none => false) (fun i => match xs[i]? with | some x => f x | none => .none)
    (fun i => ((xs.take i).filter p).map f) (by simp) (fun i => by
      cases e : xs[i]? with
      | none =>
        rw [List.take_of_length_le (by have := List.getElem?_eq_none_iff.mp e; omega), List.take_of_length_le (List.getElem?_eq_none_iff.mp e)]
        simp
      | some x =>
        rw [step i x e, List.filter_append, List.map_append]
        by_cases hp : p x = true
        · simp [hp]
        · simp [hp])
    (fun i d h => by
      rw [List.getElem?_map] at h
      obtain ⟨x, hx, rfl⟩ := Option.map_eq_some_iff.mp h
      simp only [hx]
      exact turn x (List.mem_of_getElem? hx)) hs
  rw [List.length_map] at q
  rw [List.take_of_length_le (Nat.le_refl _)] at q
  exact q
/-- name = [..] on one line -/
theorem dss_newLc (i : Nat) {x : Str} {e : Expr} {o : Ow} {pos pos' : Pos} {rest : List Stmt} {N : List Sl → Prop} {R : Rt → List Sl → Prop} (he : DLC g X e ρ o ρ1) (hr : ∀ p, DSs g X rest (ρ1.set i (.own p o)) N R) (hi : X.N[i]? = some x := by rfl) (hx : X.env.scope.names.lookup x = some .local := by rfl) (hl : i < ρ1.length := by exact Nat.le_of_ble_eq_true rfl)
    (hs : swapsWith e (some (.Name x pos')) pos.line X.env = pure true := by rfl) : DSs g X (.Assign [.Name x pos'] e pos :: rest) ρ N R :=
  dss_cons (N' := fun ρ2 => ∃ p, ρ2 = ρ1.set i (.own p o)) (ps_mono (he.set i x pos' pos hi hx hs) fun D σ H ⟨F, S, k, _⟩ => ⟨F, S, fun p h F1 H1 S1 k1 fn no gn ho a =>
    k _ F1 H1 _ ⟨p, rfl⟩ (S1.set (s := .own p o) hl ⟨rfl, fn, h, ho, a⟩ fun q hq => by rw [List.mem_singleton.mp hq]; exact ⟨no, gn⟩) k1⟩) fun ρ2 ⟨p, h⟩ => by subst h; exact hr p
/-- the usual block: one name -/
theorem bind_name {ρ : List Sl} {i : Nat} {d : Pd} {vs : List Nat} (hi : i < ρ.length) (hv : i ∈ vs) :
    bName i d (wp ρ vs) = some ((wp ρ vs).set i (.dat d)) ∧ (∀ j s, j ∉ vs → ρ[j]? = some s → ((wp ρ vs).set i (.dat d))[j]? = some s) ∧ (∀ q, Own ((wp ρ vs).set i (.dat d)) q → Own ρ q) := by
  refine ⟨?_, fun j s hj h => ?_, fun q hq => ?_⟩
  · unfold bName
    rw [if_pos (by rw [wp_length]; exact hi)]
  · rw [List.getElem?_set_ne (fun e : i = j => hj (by rw [← e]; exact hv)), wp_out hj]
    exact h
  · rcases own_set hq with z | z
    · cases z
    · exact (wp_wk ρ vs).own z
end
end DL

set_option Elab.async false
set_option linter.all false
set_option maxRecDepth 100000
set_option maxHeartbeats 1000000
set_option autoImplicit false
/-! DL6: rules by values for tuples known to their objects; the sequence operations over data. -/
namespace DL
open PySem PySem.Spec PyProof.Rows L2

section
variable {X : Cx}
/-- what is laid at the heap's end, a tuple: known to its object -/
theorem laidF {pins : List (Addr × Obj)} {σ : L2.St} {H : Hp} {s : Shared} {xs : List V} {its : List Value} {Q : VK} (I : Inv X pins σ H s) (r : Vals xs its) (z : xs.length ≤ sizeLine)
    (q : ∀ p ob, H p = none → ob.dict = none → Q (.ref p) (upd H p (.frz ob (.tup xs)))) : EP X pins σ Q (.ref s.heap.objs.size) { s with heap := s.heap.push { cls := .type "tuple", data := .seq its.toArray } } := by
  have hg : (s.heap.push { cls := .type "tuple", data := .seq its.toArray }).get? s.heap.objs.size = some { cls := .type "tuple", data := .seq its.toArray } := Heap.get?_push_size _ rfl
  exact ⟨.ref s.heap.objs.size, _, I.laid (t' := s.toks) (o := .frz { cls := .type "tuple", data := .seq its.toArray } (.tup xs)) (fun b ob q => Heap.get?_push_of_some _ q) (Nat.le_refl _) ⟨hg, z, its, r, ⟨_, hg, rfl, _, rfl⟩⟩, rfl, q _ _ (I.hok.fresh (Nat.le_refl _)) rfl⟩
/-- tuple(list): new; tuple(tuple): itself -/
def rTupF (K : PySem.W.Frag) : List V → Hp → VK → Prop := fun xs H Q => ∃ p ys, xs = [.ref p] ∧ ((SqL K H p ys ∧ ∀ l ob, H l = none → ob.dict = none → Q (.ref l) (upd H l (.frz ob (.tup ys)))) ∨ (SqT K H p ys ∧ Q (.ref p) H))
theorem call_tupF : CallR X (.type "tuple") (rTupF X.K) := by
  intro pins s σ H xs us Q I r h
  obtain ⟨p, ys, rfl, h⟩ := h
  rcases h with ⟨hq, q⟩ | ⟨hq, q⟩
  · obtain ⟨u, rfl, rx⟩ := vals1 r
    cases rx
    obtain ⟨its, r', pl, hz⟩ := I.list hq
    have hlen := r'.length
    refine call_tuple_list pl.isList (fun h' kp => ?_) (by simp only [List.size_toArray] <;> omega)
    have I1 : Inv X pins σ H { s with heap := h' } := I.kept (t' := s.toks) kp
    exact laidF (s := { s with heap := h' }) I1 r' hz q
  · exact call_tupleT pins s σ H _ us Q I r ⟨p, ys, rfl, hq, q⟩
/-- t[lo:hi] -/
def rSlF (K : PySem.W.Frag) : V → Option Int → Option Int → Hp → VK → Prop := fun x lo hi H Q => ∃ a xs, x = .ref a ∧ SqT K H a xs ∧
  (HT.sIx xs.length 0 lo = 0 ∧ HT.sIx xs.length xs.length hi = xs.length → Q (.ref a) H) ∧ (∀ p ob, H p = none → ob.dict = none → Q (.ref p) (upd H p (.frz ob (.tup (cutV xs lo hi)))))
theorem sl_tupF : SlR X (rSlF X.K) := by
  intro pins s σ H x v vl vu lo hi sl Q I rx hs pl pu h
  obtain ⟨a, xs, rfl, hx, q1, q2⟩ := h
  cases rx
  obtain ⟨its, r, ht, hz⟩ := I.tuple hx
  have hlen : its.toArray.size = xs.length := by rw [List.size_toArray]; exact r.length.symm
  by_cases hw : HT.sIx xs.length 0 lo = 0 ∧ HT.sIx xs.length xs.length hi = xs.length
  · refine ⟨"tuple", _, PyProof.Rows.slot_tuple_getitem.lookup, ht.typeIs, ?_⟩
    exact getItem_tuple_whole ht hs pl pu (by rw [hlen]; exact hw) ⟨.ref a, H, I, rfl, q1 hw⟩
  · refine ⟨"tuple", _, PyProof.Rows.slot_tuple_getitem.lookup, ht.typeIs, ?_⟩
    refine HT.getItem_tuple_cut ht hs pl pu (by rw [hlen]; exact hw) ?_ (by rw [hlen]; exact hz)
    rw [hlen]
    exact laidF I ((r.drop (HT.sIx xs.length 0 lo)).take (HT.sIx xs.length xs.length hi - HT.sIx xs.length 0 lo)) (Nat.le_trans (cutV_length xs lo hi) hz) q2
/-- t + u -/
def rCatF (K : PySem.W.Frag) : R2 := fun x y H Q => ∃ a b xs ys, x = .ref a ∧ y = .ref b ∧ SqT K H a xs ∧ SqT K H b ys ∧ xs.length + ys.length ≤ sizeLine ∧
  (xs = [] → Q (.ref b) H) ∧ (ys = [] → Q (.ref a) H) ∧ (∀ p ob, H p = none → ob.dict = none → Q (.ref p) (upd H p (.frz ob (.tup (xs ++ ys)))))
theorem op_catF : OpR X (binaryOp .Add) (rCatF X.K) := by
  intro pins s σ H x y v u Q I rx ry h
  obtain ⟨a, b, xs, ys, rfl, rfl, ha, hb, hz, q0, q1, q2⟩ := h
  cases rx
  cases ry
  obtain ⟨its, r1, p1, _⟩ := I.tuple ha
  obtain ⟨its2, r2, p2, _⟩ := I.tuple hb
  by_cases hx : xs = []
  · subst hx
    cases r1
    exact cat_tup0 p1 p2 ⟨.ref b, H, I, rfl, q0 rfl⟩
  · refine HT.cat_tup p1 p2 (fun z => hx (r1.nil_iff.mp z)) (fun z => ⟨.ref a, H, I, rfl, q1 (r2.nil_iff.mp z)⟩) (fun z => ?_) (by rw [← r1.length, ← r2.length]; exact hz)
    exact laidF I (r1.append r2) (by rw [List.length_append]; exact hz) q2
end

/-! ### t[::-1] of a tuple -/
section
variable {prog : Program} {w : World} {A : Around} {E : Value → Shared → Prop} {s : Shared}
theorem adjust_rev (n : Nat) : Builtin.Slice.sliceAdjust none none (-1) (n : Int) = ((n : Int) - 1, -1) := by
  unfold Builtin.Slice.sliceAdjust
  simp only [show ((-1 : Int) < 0) from by decide, if_true]
theorem places_rev (n : Nat) : Builtin.Slice.slicePlaces ((n : Int) - 1) (-1) (-1) = n := by
  unfold Builtin.Slice.slicePlaces
  simp only [show ¬ ((-1 : Int) > 0) from by decide, if_false]
  have e : ((n : Int) - 1 - -1 - 1) / - -1 = (n : Int) - 1 := by
    rw [show (- -1 : Int) = 1 from rfl, Int.ediv_one]
    omega
  split
  · first | omega | (rw [e]; omega)
  · omega
theorem sliceApplied_rev {sl : Addr} {vl vu vs : Value} {n : Nat} {Q : Int × Int × Nat → Shared → Prop} (hs : s.heap.IsSliceOf sl vl vu vs) (pl : IsPart vl none) (pu : IsPart vu none) (ps : IsPart vs (some (-1)))
    (h : Q ((n : Int) - 1, -1, n) s) : wpAny (model prog w) A (Builtin.Slice.sliceApplied (.ref sl) (pure (n : Int))) Q E s := by
  obtain ⟨os, hos, hcs, hds⟩ := id hs
  unfold Builtin.Slice.sliceApplied Builtin.Slice.sliceFields
  refine wpAny_bind (wpAny_bind (wpAny_field hos hds (x := vl) rfl (wpAny_bind (wpAny_field hos hds (x := vu) rfl (wpAny_bind (wpAny_field hos hds (x := vs) rfl (wpAny_pure ?_)))))))
  refine wpAny_bind (HT.slicePart_ ps ?_)
  show wpAny _ _ (if ((-1 : Int) == 0) = true then _ else _) _ _ s
  rw [if_neg (by decide)]
  refine wpAny_bind (HT.slicePart_ pl (wpAny_bind (HT.slicePart_ pu (wpAny_bind (wpAny_pure ?_)))))
  show wpAny _ _ (match Builtin.Slice.sliceAdjust none none (-1) (n : Int) with | (lo, hi) => pure (lo, (-1 : Int), Builtin.Slice.slicePlaces lo hi (-1))) _ _ s
  rw [adjust_rev n]
  show wpAny _ _ (pure ((n : Int) - 1, (-1 : Int), Builtin.Slice.slicePlaces ((n : Int) - 1) (-1) (-1))) _ _ s
  rw [places_rev]
  exact wpAny_pure h
theorem pick_rev (xs : Array Value) : ((List.range xs.size).filterMap fun (m : Nat) => xs[(((xs.size : Nat) : Int) - 1 + (m : Int) * -1).toNat]?).toArray = xs.toList.reverse.toArray := by
  congr 1
  apply List.ext_getElem?
  intro i
  by_cases hi : i < xs.size
  · have h1 : ((List.range xs.size).filterMap fun (m : Nat) => xs[(((xs.size : Nat) : Int) - 1 + (m : Int) * -1).toNat]?) = (List.range xs.size).map fun m => xs.getD (xs.size - 1 - m) .none := by
      rw [← List.filterMap_eq_map]
      have cg : ∀ (l : List Nat) (f g : Nat → Option Value), (∀ m ∈ l, f m = g m) → l.filterMap f = l.filterMap g := by
        intro l f g hfg
        induction l with
        | nil => rfl
        | cons a l ih =>
          rw [List.filterMap_cons, List.filterMap_cons, hfg a List.mem_cons_self, ih fun m hm => hfg m (List.mem_cons_of_mem _ hm)]
      refine cg _ _ _ fun m hm => ?_
      have hm := List.mem_range.mp hm
      have e : (((xs.size : Nat) : Int) - 1 + (m : Int) * -1).toNat = xs.size - 1 - m := by omega
      rw [e]
      have hlt : xs.size - 1 - m < xs.size := by omega
      simp [Array.getD, hlt]
    rw [h1, List.getElem?_map, List.getElem?_range hi, List.getElem?_reverse (by simpa using hi)]
    have hlt : xs.size - 1 - i < xs.size := by omega
    simp [Array.getD, hlt]
  · rw [List.getElem?_eq_none (by refine Nat.le_trans (List.length_filterMap_le _ _) (by simp; omega)), List.getElem?_eq_none (by simp; omega)]
theorem getItem_tuple_rev {t sl : Addr} {items : Array Value} {vl vu vs : Value} {Q : Value → Shared → Prop} (ht : IsTup s.heap t items) (hs : s.heap.IsSliceOf sl vl vu vs) (pl : IsPart vl none) (pu : IsPart vu none) (ps : IsPart vs (some (-1)))
    (h : Q (.ref s.heap.objs.size) { s with heap := s.heap.push { cls := .type "tuple", data := .seq items.toList.reverse.toArray } }) (hsz : items.size ≤ sizeLine) : wpAny (model prog w) A (getItem (.ref t) (.ref sl)) Q E s := by
  have htake : sizeOk (.seq items.toList.reverse.toArray) := by
    show items.toList.reverse.toArray.size ≤ sizeLine
    rw [List.size_toArray, List.length_reverse, Array.length_toList]
    exact hsz
  obtain ⟨os, hos, hcs, hds⟩ := id hs
  have hTs : s.TypeIs (.ref sl) "slice" := ⟨os, hos, hcs⟩
  unfold getItem
  try with_reducible refine wpAny_holding ?_
  first | refine wpAny_bind (wpAny_pure ?_) | skip
  refine wpAny_bind (wpAny_sequenceKey ht.typeIs (by decide) ?_)
  refine wpAny_bind (wpAny_callSpecial?_slot (name := Str.ofString "__getitem__") ht.typeIs PyProof.Rows.slot_tuple_getitem
    (wpAny_call_entry PyProof.Rows.slot_tuple_getitem ht.typeIs entry_tuple_getitem ?_ (args_tuple_getitem _ _)))
  show wpAny _ _ (Builtin.Tuple.tupleItemsOf (.ref t) >>= _) _ _ s
  refine wpAny_bind (tupleItemsOf_ ht ?_)
  refine wpAny_bind (wpAny_typeOf hTs ?_)
  rw [if_pos (by decide)]
  refine wpAny_bind (sliceApplied_rev hs pl pu ps ?_)
  show wpAny _ _ (if (((items.size : Int) - 1) == 0 && (-1 : Int) == 1 && items.size == items.size) = true then _ else _) _ _ s
  rw [if_neg (by simp), pick_rev]
  first
    | exact wpAny_bind (m := Builtin.Tuple.tupleExact _) (wpAny_newObj_type (wpAny_pure ⟨_, rfl, wpAny_pure h⟩) htake)
    | exact wpAny_bind (m := Builtin.Tuple.tupleExact _) (wpAny_newObj_type (wpAny_bind (wpAny_pure (wpAny_pure ⟨_, rfl, wpAny_pure h⟩))) htake)
    | exact wpAny_bind (wpAny_bind (m := Builtin.Tuple.tupleExact _) (wpAny_newObj_type (wpAny_pure (wpAny_pure ⟨_, rfl, wpAny_pure h⟩)) htake))
    | exact wpAny_bind (wpAny_bind (m := Builtin.Tuple.tupleExact _) (wpAny_newObj_type (wpAny_pure ⟨_, rfl, wpAny_pure h⟩) htake))
end
def tRevF (K : PySem.W.Frag) (te : TE) : TE := fun σ H Q => te σ H fun x H1 => ∃ a xs, x = .ref a ∧ SqT K H1 a xs ∧ ∀ p ob, H1 p = none → ob.dict = none → Q (.ref p) (upd H1 p (.frz ob (.tup xs.reverse)))
theorem pe_revF {X : Cx} {e : Expr} {te : TE} {k : Nat} {p1 p2 p3 pos : Pos} (he : PE X e te) : PE X (.Subscript e (.Slice none none (some (.UnaryOp .USub (.Constant (.int 1) k p1) p2)) p3) pos) (tRevF X.K te) := by
  refine ⟨fun pins s σ H Q I h => ?_⟩
  refine Subscript_ (thn (he.run pins s σ H _ I h) fun v s1 ⟨x, H1, I1, r1, q1⟩ => ?_)
  obtain ⟨a, xs, ex, hx, q⟩ := q1
  subst ex
  cases r1
  have hst : PO X (some (.UnaryOp .USub (.Constant (.int 1) k p1) p2)) (tPart (tUn (rU fun i => .int (-i)) (tC (.int 1)))) := po_some (pe_un un_neg pe_int)
  refine wpAny_Slice (thn (po_none.run pins s1 σ H1 (fun o H2 => o = none ∧ H2 = H1) I1 ⟨rfl, rfl⟩) fun vl s2 ⟨l, H2, I2, pl, el, e2⟩ => ?_)
  subst el e2
  refine thn (po_none.run pins s2 σ H2 (fun o H3 => o = none ∧ H3 = H2) I2 ⟨rfl, rfl⟩) fun vu s3 ⟨u, H3, I3, pu, eu, e3⟩ => ?_
  subst eu e3
  refine thn (hst.run pins s3 σ H3 (fun o H4 => o = some (-1) ∧ H4 = H3) I3 ⟨1, rfl, -1, rfl, rfl, rfl⟩) fun vs s4 ⟨o, H4, I4, ps, eo, e4⟩ => ?_
  subst eo e4
  have I5 : Inv X pins σ H4 { s4 with heap := s4.heap.push { cls := .type "slice", data := .fields #[vl, vu, vs] } } := I4.kept (t' := s4.toks) fun b ob q => Heap.get?_push_of_some _ q
  obtain ⟨its, r, ht, hz⟩ := I5.tuple hx
  have hlen := r.length
  show wpAny (model X.prog X.w) X.A (subscriptTail e (.Slice none none (some (.UnaryOp .USub (.Constant (.int 1) k p1) p2)) p3) (.ref a) (.ref s4.heap.objs.size)) (EP X pins σ Q) X.xe { s4 with heap := s4.heap.push { cls := .type "slice", data := .fields #[vl, vu, vs] } }
  refine tail_any (ops := [.ref a, .ref s4.heap.objs.size]) ht.typeIs (PyProof.Rows.slot_tuple_getitem.lookup) ?_ (by with_unfolding_all rfl)
  refine getItem_tuple_rev ht (Heap.IsSliceOf.new _ vl vu vs) pl pu ps ?_ (by rw [List.size_toArray]; omega)
  exact laidF I5 r.reverse (by rw [List.length_reverse]; exact hz) q
end DL

set_option autoImplicit false
set_option linter.all false
/-! LB0: sorted lists, greatest and least of ints: the functions that the walk speaks of. -/
namespace LB

def leB (a b : Int) : Bool := decide (a ≤ b)
/-- sorted -/
def srt (ns : List Int) : List Int := ns.mergeSort leB
theorem srt_perm (ns : List Int) : (srt ns).Perm ns := List.mergeSort_perm ns leB
theorem srt_pw (ns : List Int) : (srt ns).Pairwise (· ≤ ·) := by
  have h := List.pairwise_mergeSort (le := leB) (by intro a b c h1 h2; simp only [leB, decide_eq_true_eq] at *; omega) (by intro a b; simp only [leB, Bool.or_eq_true, decide_eq_true_eq]; omega) ns
  exact h.imp fun {a b} h => of_decide_eq_true h
theorem srt_unique {ns ms : List Int} (p : ms.Perm ns) (h : ms.Pairwise (· ≤ ·)) : ms = srt ns :=
  List.Perm.eq_of_pairwise (le := (· ≤ ·)) (fun a b _ _ h1 h2 => Int.le_antisymm h1 h2) h (srt_pw ns) (p.trans (srt_perm ns).symm)
theorem srt_length (ns : List Int) : (srt ns).length = ns.length := (srt_perm ns).length_eq
theorem mem_srt {ns : List Int} {x : Int} : x ∈ srt ns ↔ x ∈ ns := (srt_perm ns).mem_iff
theorem srt_nodup {ns : List Int} : (srt ns).Nodup ↔ ns.Nodup := (srt_perm ns).nodup_iff
theorem srt_of_pw {ns : List Int} (h : ns.Pairwise (· ≤ ·)) : srt ns = ns := (srt_unique (List.Perm.refl _) h).symm
theorem srt_srt (ns : List Int) : srt (srt ns) = srt ns := srt_of_pw (srt_pw ns)
theorem srt_congr {ns ms : List Int} (p : ns.Perm ms) : srt ns = srt ms := srt_unique ((srt_perm ns).trans p) (srt_pw ns)

/-- the greatest; 0 of nothing -/
def mxL : List Int → Int
  | [] => 0
  | [a] => a
  | a :: b :: r => max a (mxL (b :: r))
def mnL : List Int → Int
  | [] => 0
  | [a] => a
  | a :: b :: r => min a (mnL (b :: r))
theorem mxL_mem : ∀ {ns : List Int}, ns ≠ [] → mxL ns ∈ ns
  | [], h => absurd rfl h
  | [a], _ => List.mem_singleton.mpr rfl
  | a :: b :: r, _ => by
    have ih := mxL_mem (ns := b :: r) (by simp)
    show max a (mxL (b :: r)) ∈ _
    rcases Int.le_total a (mxL (b :: r)) with h | h
    · rw [Int.max_eq_right h]; exact List.mem_cons_of_mem _ ih
    · rw [Int.max_eq_left h]; exact List.mem_cons_self
theorem mxL_ge : ∀ {ns : List Int} {x : Int}, x ∈ ns → x ≤ mxL ns
  | [], _, h => by cases h
  | [a], _, h => by rw [List.mem_singleton.mp h]; exact Int.le_refl _
  | a :: b :: r, x, h => by
    show x ≤ max a (mxL (b :: r))
    rcases List.mem_cons.mp h with h | h
    · omega
    · have := mxL_ge (ns := b :: r) h
      omega
theorem mxL_unique {ns : List Int} {m : Int} (h : m ∈ ns) (k : ∀ y ∈ ns, y ≤ m) : m = mxL ns :=
  Int.le_antisymm (mxL_ge h) (k _ (mxL_mem (List.ne_nil_of_mem h)))
theorem mnL_mem : ∀ {ns : List Int}, ns ≠ [] → mnL ns ∈ ns
  | [], h => absurd rfl h
  | [a], _ => List.mem_singleton.mpr rfl
  | a :: b :: r, _ => by
    have ih := mnL_mem (ns := b :: r) (by simp)
    show min a (mnL (b :: r)) ∈ _
    rcases Int.le_total a (mnL (b :: r)) with h | h
    · rw [Int.min_eq_left h]; exact List.mem_cons_self
    · rw [Int.min_eq_right h]; exact List.mem_cons_of_mem _ ih
theorem mnL_le : ∀ {ns : List Int} {x : Int}, x ∈ ns → mnL ns ≤ x
  | [], _, h => by cases h
  | [a], _, h => by rw [List.mem_singleton.mp h]; exact Int.le_refl _
  | a :: b :: r, x, h => by
    show min a (mnL (b :: r)) ≤ x
    rcases List.mem_cons.mp h with h | h
    · omega
    · have := mnL_le (ns := b :: r) h
      omega
theorem mnL_unique {ns : List Int} {m : Int} (h : m ∈ ns) (k : ∀ y ∈ ns, m ≤ y) : m = mnL ns :=
  Int.le_antisymm (k _ (mnL_mem (List.ne_nil_of_mem h))) (mnL_le h)
theorem snocRec {α : Type} {P : List α → Prop} (h0 : P []) (h1 : ∀ xs x, P xs → P (xs ++ [x])) (xs : List α) : P xs := by
  have key : ∀ ys : List α, P ys.reverse := fun ys => by
    induction ys with
    | nil => exact h0
    | cons y ys ih => rw [List.reverse_cons]; exact h1 _ _ ih
  have := key xs.reverse
  rwa [List.reverse_reverse] at this
end LB

set_option Elab.async false
set_option linter.all false
set_option maxRecDepth 100000
set_option maxHeartbeats 1000000
set_option autoImplicit false
/-! DL7: sequences, built-ins, methods over data. -/
namespace DL
open PySem PySem.Spec PyProof.Rows L2 LB

/-! ### shapes, equality of data -/
def Sh (n : Nat) (d : Pd) : Prop := d.canLay0 = true ∧ d.depth ≤ n
theorem Sh.shaped {n : Nat} {d : Pd} (h : Sh n d) (hn : n ≤ 64) : SeqAt.shaped d = true := by
  unfold SeqAt.shaped
  rw [Bool.and_eq_true]
  exact ⟨h.1, decide_eq_true (Nat.le_trans h.2 hn)⟩
theorem Sh.mono {n m : Nat} {d : Pd} (h : Sh n d) (hn : n ≤ m) : Sh m d := ⟨h.1, Nat.le_trans h.2 hn⟩
theorem sh_none {n : Nat} : Sh n .none := ⟨by simp only [PyData.canLay0], by simp only [PyData.depth]; omega⟩
theorem sh_bool {n : Nat} {b : Bool} : Sh n (.bool b) := ⟨by simp only [PyData.canLay0], by simp only [PyData.depth]; omega⟩
theorem sh_int {n : Nat} {i : Int} : Sh n (.int i) := ⟨by simp only [PyData.canLay0], by simp only [PyData.depth]; omega⟩
theorem sh_all {n : Nat} : ∀ {ds : List Pd}, (∀ d ∈ ds, Sh n d) → PyData.canLayAll0 ds = true ∧ PyData.depthAll ds ≤ n
  | [], _ => ⟨by simp only [PyData.canLayAll0], by simp only [PyData.depthAll]; omega⟩
  | d :: ds, h => by
    have h1 := h d List.mem_cons_self
    have h2 := sh_all (ds := ds) fun x hx => h x (List.mem_cons_of_mem _ hx)
    refine ⟨by simp only [PyData.canLayAll0, h1.1, h2.1, Bool.and_self], ?_⟩
    simp only [PyData.depthAll]
    have := h1.2
    have := h2.2
    omega
theorem sh_list {n : Nat} {ds : List Pd} (h : ∀ d ∈ ds, Sh n d) : Sh (n + 1) (.list ds) := ⟨by simp only [PyData.canLay0]; exact (sh_all h).1, by simp only [PyData.depth]; have := (sh_all h).2; omega⟩
theorem sh_tuple {n : Nat} {ds : List Pd} (h : ∀ d ∈ ds, Sh n d) : Sh (n + 1) (.tuple ds) := ⟨by simp only [PyData.canLay0]; exact (sh_all h).1, by simp only [PyData.depth]; have := (sh_all h).2; omega⟩
theorem sh_map {α : Type} {n : Nat} {em : α → Pd} (h : ∀ x, Sh n (em x)) (xs : List α) : ∀ d ∈ xs.map em, Sh n d := fun d hd => by
  obtain ⟨x, _, rfl⟩ := List.mem_map.mp hd
  exact h x
/-- an embedding that == sees through -/
def Emb {α : Type} [DecidableEq α] (em : α → Pd) : Prop := ∀ a b, PyData.eqv (em a) (em b) = decide (a = b)
theorem emb_int : Emb PyData.int := fun a b => by simp only [PyData.eqv]; exact Bool.beq_eq_decide_eq a b
theorem emb_bool : Emb PyData.bool := fun a b => by simp only [PyData.eqv]; exact Bool.beq_eq_decide_eq a b
theorem eqvAll_map {α : Type} [DecidableEq α] {em : α → Pd} (h : Emb em) : ∀ xs ys : List α, PyData.eqvAll (xs.map em) (ys.map em) = decide (xs = ys)
  | [], [] => by simp [PyData.eqvAll]
  | [], _ :: _ => by simp [PyData.eqvAll]
  | _ :: _, [] => by simp [PyData.eqvAll]
  | x :: xs, y :: ys => by
    simp only [List.map_cons, PyData.eqvAll, h x y, eqvAll_map h xs ys]
    by_cases e : x = y
    · subst e; simp
    · simp [e]
theorem emb_list {α : Type} [DecidableEq α] {em : α → Pd} (h : Emb em) : Emb fun xs : List α => PyData.list (xs.map em) := fun a b => by simp only [PyData.eqv]; exact eqvAll_map h a b
theorem emb_tuple {α : Type} [DecidableEq α] {em : α → Pd} (h : Emb em) : Emb fun xs : List α => PyData.tuple (xs.map em) := fun a b => by simp only [PyData.eqv]; exact eqvAll_map h a b
theorem emb_pair {α β : Type} [DecidableEq α] [DecidableEq β] {em : α → Pd} {en : β → Pd} (h : Emb em) (k : Emb en) : Emb fun p : α × β => PyData.tuple [em p.1, en p.2] := fun a b => by
  simp only [PyData.eqv, PyData.eqvAll, h a.1 b.1, k a.2 b.2, Bool.and_true]
  obtain ⟨a1, a2⟩ := a
  obtain ⟨b1, b2⟩ := b
  by_cases e : a1 = b1 <;> by_cases f : a2 = b2 <;> simp [e, f]
mutual
theorem eqv_refl : ∀ {d : Pd} {n : Nat}, Sh n d → PyData.eqv d d = true
  | .none, _, _ => by simp only [PyData.eqv]
  | .bool b, _, _ => by simp only [PyData.eqv, beq_self_eq_true]
  | .int i, _, _ => by simp only [PyData.eqv, beq_self_eq_true]
  | .str x, _, _ => by simp only [PyData.eqv, beq_self_eq_true]
  | .list ds, n, h => by
    simp only [PyData.eqv]
    exact eqvAll_refl (by have := h.1; simpa only [PyData.canLay0] using this)
  | .tuple ds, n, h => by
    simp only [PyData.eqv]
    exact eqvAll_refl (by have := h.1; simpa only [PyData.canLay0] using this)
  | .dict _, _, h => by have := h.1; simp only [PyData.canLay0] at this; cases this
theorem eqvAll_refl : ∀ {ds : List Pd}, PyData.canLayAll0 ds = true → PyData.eqvAll ds ds = true
  | [], _ => by simp only [PyData.eqvAll]
  | d :: ds, h => by
    simp only [PyData.canLayAll0, Bool.and_eq_true] at h
    simp only [PyData.eqvAll, eqv_refl (n := d.depth) ⟨h.1, Nat.le_refl _⟩, eqvAll_refl h.2, Bool.and_self]
end

/-! ### calls of built-ins -/
section
variable {g : Gh} {X : Cx} {ρ ρ1 ρ2 ρ3 : List Sl} {pos p : Pos} {x : Str} {e : Expr} {es : List Expr} {a b c : Expr} {ra rb rc : R} {rs : List R} {k : Nat}
/-- what a call does with data -/
def Cl (g : Gh) (ρ1 : List Sl) (rs : List R) (rc : R) (ρ2 : List Sl) (r : List V → Hp → VK → Prop) : Prop := ∀ F H σ vs Q, Sg g F H σ ρ1 → RsAt F σ rs vs →
  (∀ u F' H', Sg g F' H' σ ρ2 → Same F F' → RAt F' σ rc u → Q u H') → r vs H Q
theorem de_callB {id : String} {r : List V → Hp → VK → Prop} (hc : CallR X (.builtin id) r) (hm : X.mg x = none) (hv : bootBuiltins x = some (.builtin id)) (ha : DA g X (e :: es) ρ rs ρ1) (h : Cl g ρ1 rs rc ρ2 r) (hg : Gl X x := by rfl) (hn : x ≠ "__name__" := by decide) (hdb : (x == ("__debug__" : Str)) = false := by decide)
    (he : starEach (e :: es) X.env = (false, eval e X.env) :: starEach es X.env := by rfl) (hpl : (backTo pos (starEach es X.env)).any (·.1) = false := by rfl) : DE g X (.Call (.Name x p) (e :: es) [] pos) ρ rc ρ2 :=
  pe_mono (pe_callB hc hg hm hv ha hn hdb he hpl) fun σ H Q ⟨F, S, q⟩ => ⟨F, S, fun vs F1 H1 S1 k1 a => h F1 H1 σ vs Q S1 a fun u F2 H2 S2 k2 r => q u F2 H2 S2 (k1.trans k2) r⟩
theorem de_callTy {T : String} {r : List V → Hp → VK → Prop} (hc : CallR X (.type T) r) (hm : X.mg x = none) (hv : bootBuiltins x = some (.type T)) (ha : DA g X (e :: es) ρ rs ρ1) (h : Cl g ρ1 rs rc ρ2 r) (hg : Gl X x := by rfl) (hn : x ≠ "__name__" := by decide) (hdb : (x == ("__debug__" : Str)) = false := by decide)
    (he : starEach (e :: es) X.env = (false, eval e X.env) :: starEach es X.env := by rfl) (hpl : (backTo pos (starEach es X.env)).any (·.1) = false := by rfl) : DE g X (.Call (.Name x p) (e :: es) [] pos) ρ rc ρ2 :=
  pe_mono (pe_callTy hc hg hm hv ha hn hdb he hpl) fun σ H Q ⟨F, S, q⟩ => ⟨F, S, fun vs F1 H1 S1 k1 a => h F1 H1 σ vs Q S1 a fun u F2 H2 S2 k2 r => q u F2 H2 S2 (k1.trans k2) r⟩
/-- .. a new object, own -/
def ClF (g : Gh) (ρ1 : List Sl) (rs : List R) (o : Ow) (ρ2 : List Sl) (r : List V → Hp → VK → Prop) : Prop := ∀ F H σ vs Q, Sg g F H σ ρ1 → RsAt F σ rs vs →
  (∀ p h F' H', Sg g F' H' σ ρ2 → Same F F' → F' p = none → ¬ Own ρ2 p → (g.H p = none ∨ g.O p) → H' p = some h → OwAt F' o h → Q (.ref p) H') → r vs H Q
theorem df_callB {id : String} {r : List V → Hp → VK → Prop} {o : Ow} (hc : CallR X (.builtin id) r) (hm : X.mg x = none) (hv : bootBuiltins x = some (.builtin id)) (ha : DA g X (e :: es) ρ rs ρ1) (h : ClF g ρ1 rs o ρ2 r) (hg : Gl X x := by rfl) (hn : x ≠ "__name__" := by decide) (hdb : (x == ("__debug__" : Str)) = false := by decide)
    (he : starEach (e :: es) X.env = (false, eval e X.env) :: starEach es X.env := by rfl) (hpl : (backTo pos (starEach es X.env)).any (·.1) = false := by rfl) : DF g X (.Call (.Name x p) (e :: es) [] pos) ρ o ρ2 :=
  pe_mono (pe_callB hc hg hm hv ha hn hdb he hpl) fun σ H Q ⟨F, S, q⟩ => ⟨F, S, fun vs F1 H1 S1 k1 a => h F1 H1 σ vs Q S1 a fun p h F2 H2 S2 k2 => q p h F2 H2 S2 (k1.trans k2)⟩
theorem df_callTy {T : String} {r : List V → Hp → VK → Prop} {o : Ow} (hc : CallR X (.type T) r) (hm : X.mg x = none) (hv : bootBuiltins x = some (.type T)) (ha : DA g X (e :: es) ρ rs ρ1) (h : ClF g ρ1 rs o ρ2 r) (hg : Gl X x := by rfl) (hn : x ≠ "__name__" := by decide) (hdb : (x == ("__debug__" : Str)) = false := by decide)
    (he : starEach (e :: es) X.env = (false, eval e X.env) :: starEach es X.env := by rfl) (hpl : (backTo pos (starEach es X.env)).any (·.1) = false := by rfl) : DF g X (.Call (.Name x p) (e :: es) [] pos) ρ o ρ2 :=
  pe_mono (pe_callTy hc hg hm hv ha hn hdb he hpl) fun σ H Q ⟨F, S, q⟩ => ⟨F, S, fun vs F1 H1 S1 k1 a => h F1 H1 σ vs Q S1 a fun p h F2 H2 S2 k2 => q p h F2 H2 S2 (k1.trans k2)⟩
theorem rs1 {F : Hp} {σ : L2.St} {r : R} {vs : List V} (h : RsAt F σ [r] vs) : ∃ v, vs = [v] ∧ RAt F σ r v := by
  obtain ⟨v, ws, e, a, b⟩ := h
  cases (show ws = _ from b)
  exact ⟨v, e, a⟩
theorem rs2 {F : Hp} {σ : L2.St} {r q : R} {vs : List V} (h : RsAt F σ [r, q] vs) : ∃ v w, vs = [v, w] ∧ RAt F σ r v ∧ RAt F σ q w := by
  obtain ⟨v, ws, e, a, b⟩ := h
  obtain ⟨w, e2, c⟩ := rs1 b
  subst e2
  exact ⟨v, w, e, a, c⟩
/-- own list behind an allocation -/
theorem kept_own {F H F' H' : Hp} {σ : L2.St} {v : V} {ds : List Pd} (S' : Sg g F' H' σ ρ) (k : Same F F') (a : RAt F σ ra v) : RAt F' σ ra v := a.mono k
theorem de_len {n : Int} {ds : List Pd} (hX : XO k X) (ha : DA g X [e] ρ [ra] ρ1) (h : seqo ρ1 ra = some ds) (hn : (ds.length : Int) = n) (hg : Gl X "len" := by rfl) (he : starEach [e] X.env = (false, eval e X.env) :: starEach [] X.env := by rfl) (hpl : (backTo pos (starEach [] X.env)).any (·.1) = false := by rfl) :
    DE g X (.Call (.Name "len" p) [e] [] pos) ρ (.d (.int n)) ρ1 :=
  de_callB call_len_seq hX.bi.len PySem.boot_len ha (fun F H σ vs Q S r q => by
    obtain ⟨v, ev, a⟩ := rs1 r
    obtain ⟨a1, ws, e1, hq, z, dl⟩ := seqo_at S.st a h
    subst ev e1
    exact ⟨a1, ws, rfl, sq_or hq, by rw [← dl.length, hn]; exact q _ F H S (Same.refl _) rfl⟩) hg (he := he) (hpl := hpl)
theorem ints_seq {F H : Hp} {σ : L2.St} {v : V} {ns : List Int} {K : PySem.W.Frag} (S : Sg g F H σ ρ) (a : RAt F σ ra v) (h : seqo ρ ra = some (ns.map .int)) : ∃ p, v = .ref p ∧ SqX K H p (ns.map V.int) := by
  obtain ⟨p, ws, e1, hq, z, dl⟩ := seqo_at S.st a h
  have ew := dl.ints
  subst ew
  exact ⟨p, e1, sq_or hq⟩
theorem de_sum {ns : List Int} (hX : XO k X) (ha : DA g X [e] ρ [ra] ρ1) (h : seqo ρ1 ra = some (ns.map .int)) (hg : Gl X "sum" := by rfl) (he : starEach [e] X.env = (false, eval e X.env) :: starEach [] X.env := by rfl) (hpl : (backTo pos (starEach [] X.env)).any (·.1) = false := by rfl) :
    DE g X (.Call (.Name "sum" p) [e] [] pos) ρ (.d (.int ns.sum)) ρ1 :=
  de_callB (cr_sumX hX.calm) hX.bi.sum (by decide +kernel) ha (fun F H σ vs Q S r q => by
    obtain ⟨v, ev, a⟩ := rs1 r
    obtain ⟨a1, e1, hq⟩ := ints_seq S a h
    subst ev e1
    exact ⟨a1, ns, rfl, hq, q _ F H S (Same.refl _) rfl⟩) hg (he := he) (hpl := hpl)
theorem de_maxL {ns : List Int} (hX : XO k X) (ha : DA g X [e] ρ [ra] ρ1) (h : seqo ρ1 ra = some (ns.map .int)) (hne : 0 < ns.length) (hg : Gl X "max" := by rfl) (he : starEach [e] X.env = (false, eval e X.env) :: starEach [] X.env := by rfl) (hpl : (backTo pos (starEach [] X.env)).any (·.1) = false := by rfl) :
    DE g X (.Call (.Name "max" p) [e] [] pos) ρ (.d (.int (mxL ns))) ρ1 :=
  de_callB (cr_maxX hX.calm) hX.bi.max (by decide +kernel) ha (fun F H σ vs Q S r q => by
    obtain ⟨v, ev, a⟩ := rs1 r
    obtain ⟨a1, e1, hq⟩ := ints_seq S a h
    subst ev e1
    exact ⟨a1, ns, rfl, hq, hne, fun m h1 h2 => by rw [mxL_unique h1 h2]; exact q _ F H S (Same.refl _) rfl⟩) hg (he := he) (hpl := hpl)
theorem de_minL {ns : List Int} (hX : XO k X) (ha : DA g X [e] ρ [ra] ρ1) (h : seqo ρ1 ra = some (ns.map .int)) (hne : 0 < ns.length) (hg : Gl X "min" := by rfl) (he : starEach [e] X.env = (false, eval e X.env) :: starEach [] X.env := by rfl) (hpl : (backTo pos (starEach [] X.env)).any (·.1) = false := by rfl) :
    DE g X (.Call (.Name "min" p) [e] [] pos) ρ (.d (.int (mnL ns))) ρ1 :=
  de_callB (cr_minX hX.calm) hX.bi.min (by decide +kernel) ha (fun F H σ vs Q S r q => by
    obtain ⟨v, ev, a⟩ := rs1 r
    obtain ⟨a1, e1, hq⟩ := ints_seq S a h
    subst ev e1
    exact ⟨a1, ns, rfl, hq, hne, fun m h1 h2 => by rw [mnL_unique h1 h2]; exact q _ F H S (Same.refl _) rfl⟩) hg (he := he) (hpl := hpl)
variable {e2 : Expr} {i j : Int}
theorem de_max2 (hX : XO k X) (ha : DA g X [e, e2] ρ [.d (.int i), .d (.int j)] ρ1) (hg : Gl X "max" := by rfl) (he : starEach [e, e2] X.env = (false, eval e X.env) :: starEach [e2] X.env := by rfl) (hpl : (backTo pos (starEach [e2] X.env)).any (·.1) = false := by rfl) :
    DE g X (.Call (.Name "max" p) [e, e2] [] pos) ρ (.d (.int (max i j))) ρ1 :=
  de_callB (call_max2 hX.calm) hX.bi.max (by decide +kernel) ha (fun F H σ vs Q S r q => by
    obtain ⟨v, w, ev, a, b⟩ := rs2 r
    cases (show v = _ from a)
    cases (show w = _ from b)
    have e3 : (if j > i then j else i) = max i j := by split <;> omega
    exact ⟨i, j, ev, by rw [e3]; exact q _ F H S (Same.refl _) rfl⟩) hg (he := he) (hpl := hpl)
theorem de_min2 (hX : XO k X) (ha : DA g X [e, e2] ρ [.d (.int i), .d (.int j)] ρ1) (hg : Gl X "min" := by rfl) (he : starEach [e, e2] X.env = (false, eval e X.env) :: starEach [e2] X.env := by rfl) (hpl : (backTo pos (starEach [e2] X.env)).any (·.1) = false := by rfl) :
    DE g X (.Call (.Name "min" p) [e, e2] [] pos) ρ (.d (.int (min i j))) ρ1 :=
  de_callB (call_min2 hX.calm) hX.bi.min (by decide +kernel) ha (fun F H σ vs Q S r q => by
    obtain ⟨v, w, ev, a, b⟩ := rs2 r
    cases (show v = _ from a)
    cases (show w = _ from b)
    have e3 : (if j < i then j else i) = min i j := by split <;> omega
    exact ⟨i, j, ev, by rw [e3]; exact q _ F H S (Same.refl _) rfl⟩) hg (he := he) (hpl := hpl)
theorem de_all {bs : List Bool} {ds : List Pd} (hX : XO k X) (ha : DA g X [e] ρ [ra] ρ1) (h : lsto ρ1 ra = some ds) (hb : ds = bs.map .bool) (hg : Gl X "all" := by rfl) (he : starEach [e] X.env = (false, eval e X.env) :: starEach [] X.env := by rfl) (hpl : (backTo pos (starEach [] X.env)).any (·.1) = false := by rfl) :
    DE g X (.Call (.Name "all" p) [e] [] pos) ρ (.d (.bool (bs.all id))) ρ1 :=
  de_callB (cr_all hX.calm) hX.bi.all (by decide +kernel) ha (fun F H σ vs Q S r q => by
    subst hb
    obtain ⟨v, ev, a⟩ := rs1 r
    obtain ⟨a1, ws, e1, hq, z, dl⟩ := lsto_at S.st a h
    have ew := dl.bools
    subst ev e1 ew
    exact ⟨a1, bs, rfl, SqL.of hq, q _ F H S (Same.refl _) rfl⟩) hg (he := he) (hpl := hpl)
theorem df_sorted {ns : List Int} {ds : List Pd} (hX : XO k X) (ha : DA g X [e] ρ [ra] ρ1) (h : seqo ρ1 ra = some ds) (hd : ds = ns.map .int) (hg : Gl X "sorted" := by rfl) (he : starEach [e] X.env = (false, eval e X.env) :: starEach [] X.env := by rfl) (hpl : (backTo pos (starEach [] X.env)).any (·.1) = false := by rfl) :
    DF g X (.Call (.Name "sorted" p) [e] [] pos) ρ (.lst ((srt ns).map .int)) ρ1 :=
  df_callB cr_sortX hX.bi.sorted (by decide +kernel) ha (fun F H σ vs Q S r q => by
    subst hd
    obtain ⟨v, ev, a⟩ := rs1 r
    obtain ⟨a1, ws, e1, hq, z, dl⟩ := seqo_at S.st a h
    have ew := dl.ints
    subst ev e1 ew
    refine ⟨a1, ns, rfl, sq_or hq, fun ns' l p1 p2 hl => ?_⟩
    rw [srt_unique p1 p2]
    exact new_lst S q (by rw [List.length_map] at z ⊢; rw [srt_length]; exact z) DaL.of_ints l hl) hg (he := he) (hpl := hpl)
theorem de_tuple {ds : List Pd} (hX : XO k X) (ha : DA g X [e] ρ [ra] ρ1) (h : seqo ρ1 ra = some ds) (hg : Gl X "tuple" := by rfl) (he : starEach [e] X.env = (false, eval e X.env) :: starEach [] X.env := by rfl) (hpl : (backTo pos (starEach [] X.env)).any (·.1) = false := by rfl) :
    DE g X (.Call (.Name "tuple" p) [e] [] pos) ρ (.d (.tuple ds)) ρ1 :=
  de_callTy call_tupF hX.bi.tuple (by decide +kernel) ha (fun F H σ vs Q S r q => by
    obtain ⟨v, ev, a⟩ := rs1 r
    by_cases ht : ra = .d (.tuple ds)
    · subst ht
      obtain ⟨a1, ws, e1, hq, z, dl⟩ := id a
      subst ev e1
      exact ⟨a1, ws, rfl, .inr ⟨(hq.mono S.st.sub).sq, q _ F H S (Same.refl _) a⟩⟩
    · obtain ⟨a1, ws, e1, hq, z, dl⟩ := seqo_at S.st a h
      subst ev e1
      rcases hq with hq | hq
      · exact ⟨a1, ws, rfl, .inl ⟨SqL.of hq, new_tup S q z dl⟩⟩
      · exfalso
        unfold seqo at h
        split at h
        · obtain ⟨a2, ws2, e2, hq2, _⟩ := a
          cases e2
          obtain ⟨o, eo, _⟩ := hq
          rw [S.st.sub _ _ hq2] at eo
          cases eo
        · cases h
          exact ht rfl
        · split at h
          · rename_i i _ pp oo ee
            obtain ⟨e3, _, h0, e4, us, rfl, _⟩ := S.st.own ee
            have a' : σ[i]? = some (some (.ref a1)) := a
            rw [e3] at a'
            cases a'
            obtain ⟨o, eo, _⟩ := hq
            rw [e4] at eo
            cases eo
          · cases h
        · cases h) hg (he := he) (hpl := hpl)
theorem df_list {ds : List Pd} (hX : XO k X) (ha : DA g X [e] ρ [ra] ρ1) (h : seqo ρ1 ra = some ds) (hg : Gl X "list" := by rfl) (he : starEach [e] X.env = (false, eval e X.env) :: starEach [] X.env := by rfl) (hpl : (backTo pos (starEach [] X.env)).any (·.1) = false := by rfl) :
    DF g X (.Call (.Name "list" p) [e] [] pos) ρ (.lst ds) ρ1 :=
  df_callTy call_list_of hX.bi.list (by decide +kernel) ha (fun F H σ vs Q S r q => by
    obtain ⟨v, ev, a⟩ := rs1 r
    obtain ⟨a1, ws, e1, hq, z, dl⟩ := seqo_at S.st a h
    subst ev e1
    exact ⟨a1, ws, rfl, sq_or hq, new_lst S q z dl⟩) hg (he := he) (hpl := hpl)

/-! ### isinstance -/
def tyN : Pd → String
  | .none => "NoneType"
  | .bool _ => "bool"
  | .int _ => "int"
  | .str _ => "str"
  | .list _ => "list"
  | .tuple _ => "tuple"
  | .dict _ => "dict"
theorem tyX_at {K : PySem.W.Frag} {F H : Hp} {d : Pd} {v : V} (k : Same F H) (a : Da F d v) : TyX K H v (.type (tyN d)) := by
  cases d with
  | none => cases (show v = _ from a); exact .base .non
  | bool b => cases (show v = _ from a); exact .base (.bl b)
  | int i => cases (show v = _ from a); exact .base (.int i)
  | str x => cases (show v = _ from a); exact .base (.str x)
  | list ds => obtain ⟨p, vs, e, f, _⟩ := a; subst e; exact .base (.lst (k _ _ f))
  | tuple ds => obtain ⟨p, vs, e, ⟨o, f, _⟩, _⟩ := a; subst e; exact .fTuple (k _ _ f)
  | dict _ => exact False.elim a
theorem tyN_in (d : Pd) (hd : tyN d ≠ "dict") : tyN d = "NoneType" ∨ tyN d = "bool" ∨ tyN d = "int" ∨ tyN d = "str" ∨ tyN d = "list" ∨ tyN d = "tuple" := by
  cases d with
  | none => exact .inl rfl
  | bool _ => exact .inr (.inl rfl)
  | int _ => exact .inr (.inr (.inl rfl))
  | str _ => exact .inr (.inr (.inr (.inl rfl)))
  | list _ => exact .inr (.inr (.inr (.inr (.inl rfl))))
  | tuple _ => exact .inr (.inr (.inr (.inr (.inr rfl))))
  | dict _ => exact absurd rfl hd
theorem kit_str (S T : String) (hS : S = "NoneType" ∨ S = "bool" ∨ S = "int" ∨ S = "str" ∨ S = "list" ∨ S = "tuple") (hT : T = "int" ∨ T = "bool" ∨ T = "list" ∨ T = "tuple" ∨ T = "str") : kitB S T = some ((S == T) || (S == "bool" && T == "int")) := by
  rcases hS with rfl | rfl | rfl | rfl | rfl | rfl <;> rcases hT with rfl | rfl | rfl | rfl | rfl <;> decide +kernel
theorem kit_all (T : String) (hT : T = "int" ∨ T = "bool" ∨ T = "list" ∨ T = "tuple" ∨ T = "str") (d : Pd) (hd : tyN d ≠ "dict") : kitB (tyN d) T = some ((tyN d == T) || (tyN d == "bool" && T == "int")) := kit_str _ _ (tyN_in d hd) hT
theorem noDict {F : Hp} {d : Pd} {v : V} (a : Da F d v) : tyN d ≠ "dict" := by
  have hs (S : String) (h : S = "NoneType" ∨ S = "bool" ∨ S = "int" ∨ S = "str" ∨ S = "list" ∨ S = "tuple") : S ≠ "dict" := by
    rcases h with rfl | rfl | rfl | rfl | rfl | rfl <;> decide
  refine hs _ ?_
  cases d with
  | none => exact .inl rfl
  | bool _ => exact .inr (.inl rfl)
  | int _ => exact .inr (.inr (.inl rfl))
  | str _ => exact .inr (.inr (.inr (.inl rfl)))
  | list _ => exact .inr (.inr (.inr (.inr (.inl rfl))))
  | tuple _ => exact .inr (.inr (.inr (.inr (.inr rfl))))
  | dict _ => exact False.elim a
def isI (T : String) (d : Pd) : Bool := (tyN d == T) || (tyN d == "bool" && T == "int")
theorem de_isi {T : String} {d : Pd} (hX : XO k X) (ha : DA g X [e, e2] ρ [.d d, .r (.ty T)] ρ1) (hT : T = "int" ∨ T = "bool" ∨ T = "list" ∨ T = "tuple" ∨ T = "str") (hg : Gl X "isinstance" := by rfl)
    (he : starEach [e, e2] X.env = (false, eval e X.env) :: starEach [e2] X.env := by rfl) (hpl : (backTo pos (starEach [e2] X.env)).any (·.1) = false := by rfl) :
    DE g X (.Call (.Name "isinstance" p) [e, e2] [] pos) ρ (.d (.bool (isI T d))) ρ1 :=
  de_callB call_isi hX.bi.isinstance (by decide +kernel) ha (fun F H σ vs Q S r q => by
    obtain ⟨v, w, ev, a, b⟩ := rs2 r
    cases (show w = _ from b)
    have hd : tyN d ≠ "dict" := noDict a
    exact ⟨v, .ty T, _, _, isI T d, ev, .ty T, tyX_at S.st.sub a, kit_ty (kit_all T hT d hd), q _ F H S (Same.refl _) rfl⟩) hg (he := he) (hpl := hpl)
/-- isinstance(x, (S, T, ..)) -/
def isAny (Ts : List String) (d : Pd) : Bool := Ts.any fun T => isI T d
theorem kit_any {K : PySem.W.Frag} {d : Pd} (hd : tyN d ≠ "dict") : ∀ {Ts : List String}, (∀ T ∈ Ts, T = "int" ∨ T = "bool" ∨ T = "list" ∨ T = "tuple" ∨ T = "str") → PySem.W.kitAny K (.type (tyN d)) (Ts.map Value.type) = some (isAny Ts d)
  | [], _ => rfl
  | T :: Ts, h => by
    refine kitAny_cons (kit_ty (kit_all T (h T List.mem_cons_self) d hd)) (fun e => ?_) fun e => ?_
    · have e' : isI T d = false := e
      rw [show isAny (T :: Ts) d = (isI T d || isAny Ts d) from rfl, e', Bool.false_or]
      exact kit_any hd fun T' h' => h T' (List.mem_cons_of_mem _ h')
    · have e' : isI T d = true := e
      rw [show isAny (T :: Ts) d = (isI T d || isAny Ts d) from rfl, e', Bool.true_or]
def tysA (Ts : List String) : List R := Ts.map fun T => R.r (.ty T)
theorem tys_at {F : Hp} {σ : L2.St} : ∀ {Ts : List String} {vs : List V}, RsAt F σ (tysA Ts) vs → vs = Ts.map V.ty
  | [], _, h => h
  | T :: Ts, _, ⟨v, ws, e, a, b⟩ => by rw [e, show v = .ty T from a, tys_at b]; rfl
theorem tys_cls : ∀ Ts : List String, Paired ClsV (Ts.map V.ty) (Ts.map Value.type)
  | [] => .nil
  | T :: Ts => .cons (.ty T) (tys_cls Ts)
theorem de_isiT {Ts : List String} {d : Pd} {ts : List Expr} {x1 : Nat} {pt : Pos} (hX : XO k X) (ha : DE g X e ρ (.d d) ρ) (ht : DA g X ts ρ (tysA Ts) ρ) (hT : ∀ T ∈ Ts, T = "int" ∨ T = "bool" ∨ T = "list" ∨ T = "tuple" ∨ T = "str") (hz : Ts.length ≤ 1000 := by decide) (hg : Gl X "isinstance" := by rfl)
    (he : starEach [e, .Tuple ts x1 pt] X.env = (false, eval e X.env) :: starEach [.Tuple ts x1 pt] X.env := by rfl) (he2 : starEach [.Tuple ts x1 pt] X.env = (false, eval (.Tuple ts x1 pt) X.env) :: starEach [] X.env := by rfl) (hpl : (backTo pos (starEach [.Tuple ts x1 pt] X.env)).any (·.1) = false := by rfl) :
    DE g X (.Call (.Name "isinstance" p) [e, .Tuple ts x1 pt] [] pos) ρ (.d (.bool (isAny Ts d))) ρ :=
  pe_mono (pe_callB call_isiT hg hX.bi.isinstance (by decide +kernel) (pa_cons ha (pa_cons (pe_tup ht) pa_nil he2) he) (by decide) (by decide) he hpl) fun σ H Q ⟨F, S, q⟩ => ⟨F, S, fun v F1 H1 S1 k1 a => ⟨F1, S1, fun vs F2 H2 S2 k2 b => by
    have eb := tys_at b
    subst eb
    have hd : tyN d ≠ "dict" := noDict a
    refine ⟨by rw [List.length_map]; exact Nat.le_of_lt (small1000 hz), fun l hl => ?_⟩
    obtain ⟨S3, k3, e3⟩ := S2.newF hl (o := .tup (Ts.map V.ty))
    exact ⟨v, l, Ts.map V.ty, _, Ts.map Value.type, isAny Ts d, rfl, by rw [upd_same], tys_cls Ts, tyX_at S3.st.sub ((show Da F1 d v from a).mono (k2.trans k3)), kit_any hd hT, q _ _ _ S3 (k1.trans (k2.trans k3)) rfl⟩⟩⟩
end

/-! ### subscripts, slices -/
section
variable {g : Gh} {X : Cx} {ρ ρ1 ρ2 ρ3 ρ4 : List Sl} {pos p p2 : Pos} {a b : Expr} {ra rb : R} {ds es : List Pd} {k : Nat} {i j : Int}
theorem atI_da {F : Hp} {vs : List V} {d : Pd} (dl : DaL F ds vs) (h : atI ds i = some d) : ∃ v, atI vs i = some v ∧ Da F d v := by
  unfold atI at h ⊢
  rw [dl.length] at h
  cases e : ixN vs.length i with
  | none => rw [e] at h; cases h
  | some m =>
    rw [e] at h
    obtain ⟨v, hv, a⟩ := dl.get' (show ds[m]? = some d from h)
    exact ⟨v, hv, a⟩
theorem de_ix {d : Pd} (ha : DE g X a ρ ra ρ1) (hb : DE g X b ρ1 (.d (.int i)) ρ2) (h : seqo ρ2 ra = some ds) (hd : atI ds i = some d) (hs : PlainIx b := by exact fun _ _ => rfl) : DE g X (.Subscript a b pos) ρ (.d d) ρ2 :=
  op2_tOp (pe_ix ix_seq ha hb hs) rfl rfl fun F H σ v w Q S av aw q => by
    obtain ⟨a1, ws, e1, hq, z, dl⟩ := seqo_at S.st av h
    subst e1
    cases (show w = _ from aw)
    obtain ⟨u, hu, au⟩ := atI_da dl hd
    rcases hq with hq | hq
    · exact .inl ⟨a1, ws, i, u, rfl, rfl, SqL.of hq, hu, q _ F H S (Same.refl _) au⟩
    · exact .inr (.inl ⟨a1, ws, i, u, rfl, rfl, hq.sq, hu, q _ F H S (Same.refl _) au⟩)
/-- a slice's part -/
def tDO (g : Gh) (ρ : List Sl) (o : Option Int) (ρ' : List Sl) : TO := fun σ H Q => ∃ F, Sg g F H σ ρ ∧ ∀ F' H', Sg g F' H' σ ρ' → Same F F' → Q o H'
abbrev DO (g : Gh) (X : Cx) (e : Option Expr) (ρ : List Sl) (o : Option Int) (ρ' : List Sl) : Prop := PO X e (tDO g ρ o ρ')
theorem po_mono {e : Option Expr} {t t' : TO} (h : PO X e t) (k : ∀ σ H Q, t' σ H Q → t σ H Q) : PO X e t' := ⟨fun pins s σ H Q I q => h.run pins s σ H Q I (k σ H Q q)⟩
theorem do_none : DO g X none ρ none ρ := po_mono po_none fun σ H Q ⟨F, S, k⟩ => k F H S (Same.refl _)
theorem do_some {e : Expr} (h : DE g X e ρ (.d (.int i)) ρ1) : DO g X (some e) ρ (some i) ρ1 := po_mono (po_some h) fun σ H Q ⟨F, S, k⟩ => ⟨F, S, fun v F1 H1 S1 k1 a => ⟨i, a, k F1 H1 S1 k1⟩⟩
def cutP {α : Type} (xs : List α) (lo hi : Option Int) : List α := (xs.drop (HT.sIx xs.length 0 lo)).take (HT.sIx xs.length xs.length hi - HT.sIx xs.length 0 lo)
theorem cutP_da {F : Hp} {vs : List V} (dl : DaL F ds vs) (lo hi : Option Int) : DaL F (cutP ds lo hi) (cutV vs lo hi) := by
  unfold cutP cutV
  rw [dl.length]
  exact (dl.drop _).take _
theorem cutP_map {α β : Type} (f : α → β) (xs : List α) (lo hi : Option Int) : cutP (xs.map f) lo hi = (cutP xs lo hi).map f := by
  unfold cutP
  rw [List.length_map, List.map_take, List.map_drop]
theorem cutP_to {α : Type} (xs : List α) (n : Int) (h : 0 ≤ n) : cutP xs none (some n) = xs.take n.toNat := by
  unfold cutP
  rw [HT.sIx_none, List.drop_zero, Nat.sub_zero]
  have e : n = ((n.toNat : Nat) : Int) := by omega
  rw [e, HT.sIx_nat]
  show xs.take (min n.toNat xs.length) = xs.take n.toNat
  rw [List.take_eq_take_iff]
  omega
theorem cutP_from {α : Type} (xs : List α) (n : Int) (h : 0 ≤ n) : cutP xs (some n) none = xs.drop n.toNat := by
  unfold cutP
  rw [HT.sIx_none]
  have e : n = ((n.toNat : Nat) : Int) := by omega
  rw [e, HT.sIx_nat]
  show (xs.drop (min n.toNat xs.length)).take (xs.length - min n.toNat xs.length) = xs.drop n.toNat
  by_cases hl : n.toNat ≤ xs.length
  · rw [Nat.min_eq_left hl, List.take_of_length_le (by rw [List.length_drop]; omega)]
  · rw [Nat.min_eq_right (by omega), List.drop_of_length_le (Nat.le_refl _), List.drop_of_length_le (by omega), List.take_nil]
theorem cutP_neg {α : Type} (xs : List α) : cutP xs none (some (-1)) = xs.dropLast := by
  unfold cutP
  rw [HT.sIx_none, List.drop_zero, Nat.sub_zero]
  have e : HT.sIx xs.length xs.length (some (-1)) = xs.length - 1 := by
    unfold HT.sIx
    simp only [Int.reduceNeg]
    rw [if_pos (by decide)]
    omega
  rw [e, List.dropLast_eq_take]
theorem df_sl {lo hi : Option Expr} {ol oh : Option Int} (ha : DE g X a ρ ra ρ1) (hl : DO g X lo ρ1 ol ρ2) (hh : DO g X hi ρ2 oh ρ3) (h : lsto ρ3 ra = some ds) (he : cutP ds ol oh = es) : DF g X (.Subscript a (.Slice lo hi none p2) pos) ρ (.lst es) ρ3 :=
  pe_mono (pe_slice sl_list ha hl hh) fun σ H Q ⟨F, S, q⟩ => ⟨F, S, fun v F1 H1 S1 k1 av => ⟨F1, S1, fun F2 H2 S2 k2 => ⟨F2, S2, fun F3 H3 S3 k3 => by
    obtain ⟨a1, ws, e1, hq, z, dl⟩ := lsto_at S3.st (av.mono (k2.trans k3)) h
    subst e1 he
    exact ⟨a1, ws, rfl, SqL.of hq, new_lst S3 (fun p h F' H' S' k' => q p h F' H' S' (k1.trans (k2.trans (k3.trans k')))) (Nat.le_trans (cutV_length _ _ _) z) (cutP_da dl ol oh)⟩⟩⟩⟩
theorem cutV_whole {xs : List V} {lo hi : Option Int} (h : HT.sIx xs.length 0 lo = 0 ∧ HT.sIx xs.length xs.length hi = xs.length) : cutV xs lo hi = xs := by
  unfold cutV
  rw [h.1, h.2, List.drop_zero, Nat.sub_zero, List.take_length]
theorem de_sl {lo hi : Option Expr} {ol oh : Option Int} (ha : DE g X a ρ (.d (.tuple ds)) ρ1) (hl : DO g X lo ρ1 ol ρ2) (hh : DO g X hi ρ2 oh ρ3) (he : cutP ds ol oh = es) : DE g X (.Subscript a (.Slice lo hi none p2) pos) ρ (.d (.tuple es)) ρ3 :=
  pe_mono (pe_slice sl_tupF ha hl hh) fun σ H Q ⟨F, S, q⟩ => ⟨F, S, fun v F1 H1 S1 k1 av => ⟨F1, S1, fun F2 H2 S2 k2 => ⟨F2, S2, fun F3 H3 S3 k3 => by
    obtain ⟨a1, ws, e1, hq, z, dl⟩ := (show Da F3 (.tuple ds) v from (show Da F1 (.tuple ds) v from av).mono (k2.trans k3))
    subst e1 he
    have q' : ∀ v F' H', Sg g F' H' σ ρ3 → Same F3 F' → RAt F' σ (.d (.tuple (cutP ds ol oh))) v → Q v H' := fun v F' H' S' k' r => q v F' H' S' (k1.trans (k2.trans (k3.trans k'))) r
    refine ⟨a1, ws, rfl, (hq.mono S3.st.sub).sq, fun hw => ?_, new_tup S3 q' (Nat.le_trans (cutV_length _ _ _) z) (cutP_da dl ol oh)⟩
    have dl2 := cutP_da dl ol oh
    rw [cutV_whole hw] at dl2
    exact q' _ F3 H3 S3 (Same.refl _) ⟨a1, ws, rfl, hq, z, dl2⟩⟩⟩⟩
theorem df_rev {n : Nat} {p1 p3 : Pos} (ha : DE g X a ρ ra ρ1) (h : lsto ρ1 ra = some ds) : DF g X (.Subscript a (.Slice none none (some (.UnaryOp .USub (.Constant (.int 1) n p1) p2)) p3) pos) ρ (.lst ds.reverse) ρ1 :=
  pe_mono (pe_revL ha) fun σ H Q ⟨F, S, q⟩ => ⟨F, S, fun v F1 H1 S1 k1 av => by
    obtain ⟨a1, ws, e1, hq, z, dl⟩ := lsto_at S1.st av h
    subst e1
    exact ⟨a1, ws, rfl, SqL.of hq, new_lst S1 (fun p h F' H' S' k' => q p h F' H' S' (k1.trans k')) (by rw [List.length_reverse]; exact z) dl.reverse⟩⟩
theorem de_rev {n : Nat} {p1 p3 : Pos} (ha : DE g X a ρ (.d (.tuple ds)) ρ1) : DE g X (.Subscript a (.Slice none none (some (.UnaryOp .USub (.Constant (.int 1) n p1) p2)) p3) pos) ρ (.d (.tuple ds.reverse)) ρ1 :=
  pe_mono (pe_revF ha) fun σ H Q ⟨F, S, q⟩ => ⟨F, S, fun v F1 H1 S1 k1 av => by
    obtain ⟨a1, ws, e1, hq, z, dl⟩ := av
    subst e1
    exact ⟨a1, ws, rfl, (hq.mono S1.st.sub).sq, new_tup S1 (fun v F' H' S' k' r => q v F' H' S' (k1.trans k') r) (by rw [List.length_reverse]; exact z) dl.reverse⟩⟩
/-! + and * of sequences -/
theorem df_cat (ha : DE g X a ρ ra ρ1) (hb : DE g X b ρ1 rb ρ2) (h1 : lsto ρ2 ra = some ds) (h2 : lsto ρ2 rb = some es) (hz : ds.length + es.length ≤ 16777216) : DF g X (.BinOp a .Add b pos) ρ (.lst (ds ++ es)) ρ2 :=
  pe_mono (pe_op op_cat ha hb) fun σ H Q ⟨F, S, q⟩ => ⟨F, S, fun v F1 H1 S1 k1 av => ⟨F1, S1, fun w F2 H2 S2 k2 aw => by
    obtain ⟨a1, ws, e1, hq, z, dl⟩ := lsto_at S2.st (av.mono k2) h1
    obtain ⟨a2, us, e2, hq2, z2, dl2⟩ := lsto_at S2.st aw h2
    subst e1 e2
    have hs : ws.length + us.length ≤ sizeLine := by rw [← dl.length, ← dl2.length, sizeLine_eq]; exact hz
    exact ⟨a1, a2, ws, us, rfl, rfl, hq, hq2, hs, new_lst S2 (fun p h F' H' S' k' => q p h F' H' S' (k1.trans (k2.trans k'))) (by rw [List.length_append]; exact hs) (dl.append dl2)⟩⟩⟩
theorem de_cat (ha : DE g X a ρ (.d (.tuple ds)) ρ1) (hb : DE g X b ρ1 (.d (.tuple es)) ρ2) (hz : ds.length + es.length ≤ 16777216) : DE g X (.BinOp a .Add b pos) ρ (.d (.tuple (ds ++ es))) ρ2 :=
  op2_tOp (pe_op op_catF ha hb) rfl rfl fun F H σ v w Q S av aw q => by
    obtain ⟨a1, ws, e1, hq, z, dl⟩ := id av
    obtain ⟨a2, us, e2, hq2, z2, dl2⟩ := id aw
    subst e1 e2
    have hs : ws.length + us.length ≤ sizeLine := by rw [← dl.length, ← dl2.length, sizeLine_eq]; exact hz
    refine ⟨a1, a2, ws, us, rfl, rfl, (hq.mono S.st.sub).sq, (hq2.mono S.st.sub).sq, hs, fun e => ?_, fun e => ?_, new_tup S q (by rw [List.length_append]; exact hs) (dl.append dl2)⟩
    · have : ds = [] := List.eq_nil_of_length_eq_zero (by rw [dl.length, e]; rfl)
      subst this
      exact q _ F H S (Same.refl _) aw
    · have : es = [] := List.eq_nil_of_length_eq_zero (by rw [dl2.length, e]; rfl)
      subst this
      refine q _ F H S (Same.refl _) ?_
      rw [List.append_nil]
      exact av
/-! in -/
theorem inV_ints (x : Int) (ns : List Int) : inV (.int x) (ns.map V.int) = decide (x ∈ ns) := by
  unfold inV
  rw [List.any_map]
  induction ns with
  | nil => simp
  | cons n ns ih =>
    rw [List.any_cons, ih]
    show ((n == x) || decide (x ∈ ns)) = _
    by_cases h : x = n
    · subst h; simp
    · have : (n == x) = false := beq_eq_false_iff_ne.mpr (fun e => h e.symm)
      rw [this, Bool.false_or]
      simp [h]
theorem flat_ints (ns : List Int) : (ns.map V.int).all flatV = true := by
  rw [List.all_map, List.all_eq_true]
  intro x _
  rfl
theorem op2_in {K : PySem.W.Frag} {ns : List Int} (h : seqo ρ2 rb = some (ns.map .int)) : Op2 g ρ2 (.d (.int i)) rb (.d (.bool (decide (i ∈ ns)))) ρ2 (rIn K false) :=
  fun F H σ v w Q S a b q => by
    obtain ⟨a1, e1, hq⟩ := ints_seq (K := K) S b h
    subst e1
    cases (show v = _ from a)
    exact ⟨a1, ns.map V.int, rfl, hq, rfl, flat_ints ns, by
      rw [inV_ints]
      exact q _ F H S (Same.refl _) rfl⟩
theorem op2_notIn {K : PySem.W.Frag} {ns : List Int} (h : seqo ρ2 rb = some (ns.map .int)) : Op2 g ρ2 (.d (.int i)) rb (.d (.bool (!decide (i ∈ ns)))) ρ2 (rIn K true) :=
  fun F H σ v w Q S a b q => by
    obtain ⟨a1, e1, hq⟩ := ints_seq (K := K) S b h
    subst e1
    cases (show v = _ from a)
    exact ⟨a1, ns.map V.int, rfl, hq, rfl, flat_ints ns, by
      rw [inV_ints]
      exact q _ F H S (Same.refl _) rfl⟩
theorem dt_in {ns : List Int} (ha : DE g X a ρ (.d (.int i)) ρ1) (hb : DE g X b ρ1 rb ρ2) (h : seqo ρ2 rb = some (ns.map .int)) (hm : behindInMarks .In b = false := by with_unfolding_all rfl) : DT g X (.Compare a [.In] [b] pos) ρ (decide (i ∈ ns)) ρ2 := dt_cmp2 op_in_seq (op2_in h) ha hb hm
theorem dt_notIn {ns : List Int} (ha : DE g X a ρ (.d (.int i)) ρ1) (hb : DE g X b ρ1 rb ρ2) (h : seqo ρ2 rb = some (ns.map .int)) (hm : behindInMarks .NotIn b = false := by with_unfolding_all rfl) : DT g X (.Compare a [.NotIn] [b] pos) ρ (!decide (i ∈ ns)) ρ2 := dt_cmp2 op_notIn_seq (op2_notIn h) ha hb hm
end
end DL

set_option Elab.async false
set_option linter.all false
set_option maxRecDepth 100000
set_option maxHeartbeats 1000000
set_option autoImplicit false
/-! DL8: what defs promise over data, their bodies, their calls. -/
namespace DL
open PySem PySem.Spec PyProof.Rows L2 LB

abbrev RR := List Sl → Rt → List Sl → Prop
/-- a promise: the slots of the arguments ahead, what is returned, the slots behind -/
def spD (R : RR) : Sp := fun vs H Q _ => ∃ F as r as', R as r as' ∧ Sat F H (vs.map some) as ∧ ∀ v F' H', Sat F' H' (vs.map some) as' → Xt (Own as) F H (Own as') F' H' → RtAt ⟨F, H, Own as⟩ as' F' H' r v → Q v H'
/-- all arguments are data -/
def rP (f : List Pd → Rt → Prop) : RR := fun as r as' => ∃ ds, as = ds.map .dat ∧ as' = as ∧ f ds r
/-- the first argument is an own object, written in place -/
def rB (f : Ow → List Pd → Rt → Ow → Prop) : RR := fun as r as' => ∃ p o ds o', as = .own p o :: ds.map .dat ∧ as' = .own p o' :: ds.map .dat ∧ f o ds r o'

theorem fps_dats : ∀ ds : List Pd, fps (ds.map Sl.dat) = []
  | [] => rfl
  | d :: ds => by show fp (.dat d) ++ fps (ds.map Sl.dat) = []; rw [fps_dats ds]; rfl
theorem fps_app (a b : List Sl) : fps (a ++ b) = fps a ++ fps b := by unfold fps; rw [List.flatMap_append]
theorem fps_any : ∀ n, fps (List.replicate n Sl.any) = []
  | 0 => rfl
  | n + 1 => by show fp .any ++ fps (List.replicate n Sl.any) = []; rw [fps_any n]; rfl
theorem own_any {as : List Sl} {n : Nat} {p : Addr} : Own (as ++ List.replicate n .any) p ↔ Own as p := by
  show p ∈ fps _ ↔ p ∈ fps as
  rw [fps_app, fps_any, List.append_nil]
theorem Sat.start {F H : Hp} {N : List Str} {vs : List V} {as : List Sl} (S : Sat F H (vs.map some) as) : Sat F H (L2.start N vs) (as ++ List.replicate (N.length - as.length) .any) := by
  have hl : vs.length = as.length := by have := S.len; rwa [List.length_map] at this
  have hlm : (vs.map some).length = as.length := S.len
  refine ⟨S.sub, ?_, fun i s h => ?_, fun i j p o o' hi hj q1 q2 => ?_⟩
  · unfold L2.start
    rw [List.length_append, List.length_append, List.length_map, List.length_replicate, List.length_replicate, hl]
  · unfold L2.start
    by_cases hi : i < as.length
    · rw [List.getElem?_append_left hi] at h
      rw [List.getElem?_append_left (by rw [hlm]; exact hi)]
      exact S.at_ i s h
    · rw [List.getElem?_append_right (by omega)] at h
      rw [List.getElem?_append_right (by rw [hlm]; omega), hlm, hl]
      rw [List.getElem?_replicate] at h ⊢
      split at h
      · rename_i hlt
        cases h
        exact ⟨none, by rw [if_pos hlt], trivial⟩
      · cases h
  · have aux : ∀ {i : Nat} {o : Sl}, (as ++ List.replicate (N.length - as.length) Sl.any)[i]? = some o → p ∈ fp o → as[i]? = some o := fun {i o} h hp => by
      by_cases hi : i < as.length
      · rwa [List.getElem?_append_left hi] at h
      · rw [List.getElem?_append_right (by omega), List.getElem?_replicate] at h
        split at h
        · cases h
          cases hp
        · cases h
    exact S.apart i j p o o' (aux hi q1) (aux hj q2) q1 q2
/-- the same objects, told anew -/
inductive Alike : Sl → Sl → Prop where
  | own (p : Addr) (o o' : Ow) : Alike (.own p o) (.own p o')
  | sem (B B' : Blk) (hf : B'.fp = B.fp) (hv : ∀ x, B.val x → B'.val x) : Alike (.sem B) (.sem B')
theorem Alike.fp {s t : Sl} (h : Alike s t) : fp t = fp s := by
  cases h with
  | own p o o' => rfl
  | sem B B' hf hv => exact hf
/-- the arguments behind a body -/
structure Kp (as as' ρ' : List Sl) : Prop where
  len : as'.length = as.length
  at_ : ∀ (i : Nat) (s' : Sl), as'[i]? = some s' → (as[i]? = some s' ∧ fp s' = []) ∨ ∃ s, as[i]? = some s ∧ Alike s s' ∧ ρ'[i]? = some s'
theorem Kp.own {as as' ρ' : List Sl} (h : Kp as as' ρ') {p : Addr} (ho : Own as' p) : Own as p ∧ Own ρ' p := by
  obtain ⟨i, o, hi, hp⟩ := of_own ho
  rcases h.at_ i _ hi with ⟨_, z⟩ | ⟨s, h1, e, h2⟩
  · rw [z] at hp; cases hp
  · exact ⟨own_at h1 (e.fp ▸ hp), own_at h2 hp⟩
theorem Sat.back {F H F' H' : Hp} {σ σ' : L2.St} {as as' ρ' : List Sl} (S : Sat F H σ as) (S' : Sat F' H' σ' ρ') (k : Same F F') (h : Kp as as' ρ') : Sat F' H' σ as' := by
  refine ⟨S'.sub, by rw [S.len, h.len], fun i s hi => ?_, fun i j p o o' hi hj q1 q2 => ?_⟩
  · rcases h.at_ i s hi with ⟨h1, z⟩ | ⟨s0, h1, e, h2⟩
    · obtain ⟨x, hx, a⟩ := S.at_ i s h1
      refine ⟨x, hx, ?_⟩
      cases s with
      | any => trivial
      | dat d => obtain ⟨v, e, b⟩ := a; exact ⟨v, e, b.mono k⟩
      | raw v => exact a
      | fz p kvs => exact let ⟨e, od, ws, f, kd⟩ := a; ⟨e, od, ws, k _ _ f, kd.mono k⟩
      | own p o => cases z
      | sem B => exact ⟨a.1, B.grow a.2 k fun q hq => absurd hq (by rw [show B.fp = [] from z]; exact List.not_mem_nil)⟩
    · obtain ⟨x, hx, a⟩ := S.at_ i _ h1
      obtain ⟨y, hy, b⟩ := S'.at_ i _ h2
      refine ⟨x, hx, ?_⟩
      cases e with
      | own p o o' => exact ⟨a.1, b.2⟩
      | sem B B' hf hv => exact ⟨hv _ a.1, b.2⟩
  · have aux : ∀ {i : Nat} {o : Sl}, as'[i]? = some o → p ∈ fp o → ∃ o1, as[i]? = some o1 ∧ p ∈ fp o1 := fun {i o} hi hp => by
      rcases h.at_ i _ hi with ⟨_, z⟩ | ⟨s0, h1, e, h2⟩
      · rw [z] at hp; cases hp
      · exact ⟨s0, h1, e.fp ▸ hp⟩
    obtain ⟨_, a, a2⟩ := aux hi q1
    obtain ⟨_, b, b2⟩ := aux hj q2
    exact S.apart i j p _ _ a b a2 b2
theorem Kp.dats (ds : List Pd) (ρ' : List Sl) : Kp (ds.map Sl.dat) (ds.map Sl.dat) ρ' := ⟨rfl, fun i s h => .inl ⟨h, by
  rw [List.getElem?_map] at h
  cases e : ds[i]? with
  | none => rw [e] at h; cases h
  | some d => rw [e] at h; cases h; rfl⟩⟩
theorem Kp.bag {p : Addr} {o o' : Ow} {ρ' : List Sl} (ds : List Pd) (h : ρ'[0]? = some (.own p o')) : Kp (.own p o :: ds.map Sl.dat) (.own p o' :: ds.map Sl.dat) ρ' := ⟨rfl, fun i s hi => by
  cases i with
  | zero => cases hi; exact .inr ⟨.own p o, rfl, .own p o o', h⟩
  | succ i =>
    rcases (Kp.dats ds ρ').at_ i s hi with z | ⟨s0, h1, e, _⟩
    · exact .inl z
    · rw [List.getElem?_map] at h1
      cases e2 : ds[i]? with
      | none => rw [e2] at h1; cases h1
      | some d => rw [e2] at h1; cases h1; cases e⟩

section
variable {P : Program} {w : World} {K : PySem.W.Frag} {mg : Str → Option Value} {base : Heap}
abbrev cxF (P : Program) (w : World) (K : PySem.W.Frag) (mg : Str → Option Value) (base : Heap) (N : List Str) (qual : Str) (scope : Scope) (f : Addr) (cd : Value) (A : Around) (outer : List Env) (s : Shared) (H : Hp) (E : XK) : Cx :=
  (cxOf CX0 P w K mg base N qual scope f cd A outer s H E).nox
/-- THE RULE for a def over data -/
theorem fn_okD {x qual : Str} {st : Stmt} {f : Addr} {fd : FuncData} {N ps : List Str} {k : Nat} {R : RR} (B : Bi mg) (Fn : Fun K x qual st f fd) (S : FnScope N ps (defScope st)) (hl : ∀ as r as', R as r as' → as.length = ps.length)
    (hb : ∀ (cdv : Value) (A : Around) (outer : List Env) (s : Shared) (H : Hp) (E : XK) (g : Gh) (as : List Sl) (r : Rt) (as' : List Sl), XO k (cxF P w K mg base N qual (defScope st) f cdv A outer s H E) → R as r as' →
      DSs g (cxF P w K mg base N qual (defScope st) f cdv A outer s H E) (defBody st) (as ++ List.replicate (N.length - as.length) .any) (fun ρ => r = .d .none ∧ Kp as as' ρ) (fun r' ρ => r' = r ∧ Kp as as' ρ)) :
    FnOk P w K mg base CX0 (k + 1) f fd ps (spD R) := by
  refine Fn.ok S (fun vs H Q E h => ?_) fun cdv A outer s H vs Q E hr h => ?_
  · obtain ⟨F, as, r, as', h1, S1, _⟩ := h
    rw [← hl _ _ _ h1, ← S1.len, List.length_map]
  · obtain ⟨F, as, r, as', h1, S1, q⟩ := h
    refine ⟨_, hb cdv A outer s H E ⟨F, H, Own as⟩ as r as' ⟨rfl, hr, S.nd, B, PassesOwn.never⟩ h1, F, ⟨S1.start, ⟨Same.refl _, fun p _ f o => ⟨f, rfl, fun z => o (own_any.mp z)⟩⟩⟩, ?_, ?_⟩
    · rintro σ' F' H' ρ' ⟨rfl, kp⟩ S' k'
      exact q _ F' H' (S1.back S'.st k' kp) ⟨S'.xt.same, fun p a b c => let ⟨a', b', c'⟩ := S'.xt.rest p a b c; ⟨a', b', fun z => c' (kp.own z).2⟩⟩ rfl
    · rintro d v σ' F' H' ρ' ⟨rfl, kp⟩ S' k' a
      refine q _ F' H' (S1.back S'.st k' kp) ⟨S'.xt.same, fun p a b c => let ⟨a', b', c'⟩ := S'.xt.rest p a b c; ⟨a', b', fun z => c' (kp.own z).2⟩⟩ ?_
      cases d with
      | d d => exact a
      | b _ => exact a.elim
      | o o =>
        obtain ⟨p, h, e, f, no, gn, hh, oa⟩ := a
        exact ⟨p, h, e, f, fun z => no (kp.own z).2, gn, hh, oa⟩
theorem fn_okP {x qual : Str} {st : Stmt} {f : Addr} {fd : FuncData} {N ps : List Str} {k : Nat} {R : List Pd → Rt → Prop} (B : Bi mg) (Fn : Fun K x qual st f fd) (S : FnScope N ps (defScope st)) (hl : ∀ ds r, R ds r → ds.length = ps.length)
    (hb : ∀ (cdv : Value) (A : Around) (outer : List Env) (s : Shared) (H : Hp) (E : XK) (g : Gh) (ds : List Pd) (r : Rt), XO k (cxF P w K mg base N qual (defScope st) f cdv A outer s H E) → R ds r →
      DSs g (cxF P w K mg base N qual (defScope st) f cdv A outer s H E) (defBody st) (ds.map .dat ++ List.replicate (N.length - ds.length) .any) (fun _ => r = .d .none) (fun r' _ => r' = r)) :
    FnOk P w K mg base CX0 (k + 1) f fd ps (spD (rP R)) := by
  refine fn_okD B Fn S (fun as r as' ⟨ds, e, _, h⟩ => by rw [e, List.length_map]; exact hl ds r h) ?_
  rintro cdv A outer s H E g as r as' hX ⟨ds, rfl, rfl, h⟩
  have hb1 := hb cdv A outer s H E g ds r hX h
  rw [List.length_map]
  exact dss_imp hb1 (fun ρ e => ⟨e, Kp.dats ds ρ⟩) fun d ρ e => ⟨e, Kp.dats ds ρ⟩
theorem fn_okB {x qual : Str} {st : Stmt} {f : Addr} {fd : FuncData} {N ps : List Str} {k : Nat} {R : Ow → List Pd → Rt → Ow → Prop} (B : Bi mg) (Fn : Fun K x qual st f fd) (S : FnScope N ps (defScope st)) (hl : ∀ o ds r o', R o ds r o' → ds.length + 1 = ps.length)
    (hb : ∀ (cdv : Value) (A : Around) (outer : List Env) (s : Shared) (H : Hp) (E : XK) (g : Gh) (p : Addr) (o : Ow) (ds : List Pd) (r : Rt) (o' : Ow), XO k (cxF P w K mg base N qual (defScope st) f cdv A outer s H E) → R o ds r o' →
      DSs g (cxF P w K mg base N qual (defScope st) f cdv A outer s H E) (defBody st) (.own p o :: ds.map .dat ++ List.replicate (N.length - (ds.length + 1)) .any) (fun ρ => r = .d .none ∧ ρ[0]? = some (.own p o')) (fun r' ρ => r' = r ∧ ρ[0]? = some (.own p o'))) :
    FnOk P w K mg base CX0 (k + 1) f fd ps (spD (rB R)) := by
  refine fn_okD B Fn S (fun as r as' ⟨p, o, ds, o', e, _, h⟩ => by rw [e, List.length_cons, List.length_map]; exact hl o ds r o' h) ?_
  rintro cdv A outer s H E g as r as' hX ⟨p, o, ds, o', rfl, rfl, h⟩
  have hb1 := hb cdv A outer s H E g p o ds r o' hX h
  rw [List.length_cons, List.length_map]
  exact dss_imp hb1 (fun ρ e => ⟨e.1, Kp.bag ds e.2⟩) fun d ρ e => ⟨e.1, Kp.bag ds e.2⟩

/-- the name holds a def that keeps the promise -/
structure Dn (P : Program) (w : World) (K : PySem.W.Frag) (mg : Str → Option Value) (base : Heap) (k : Nat) (x : Str) (R : RR) : Prop where
  ex : ∃ (f : Addr) (fd : FuncData) (ps : List Str), FnOk P w K mg base CX0 k f fd ps (spD R) ∧ mg x = some (.ref f) ∧ PySem.W.keepIn K (.ref f) = true ∧ Binds K fd ps []
theorem Dn.mono {j k : Nat} {x : Str} {R : RR} (D : Dn P w K mg base j x R) (h : j ≤ k) : Dn P w K mg base k x R := let ⟨f, fd, ps, a, b⟩ := D.ex; ⟨f, fd, ps, a.mono h, b⟩
theorem Dn.imp {k : Nat} {x : Str} {R R' : RR} (D : Dn P w K mg base k x R) (h : ∀ as r as', R' as r as' → R as r as') : Dn P w K mg base k x R' :=
  let ⟨f, fd, ps, a, b⟩ := D.ex; ⟨f, fd, ps, a.imp (fun vs H Q E ⟨F, as, r, as', h1, z⟩ => ⟨F, as, r, as', h _ _ _ h1, z⟩), b⟩
end

/-! ### calls -/
section
variable {g : Gh} {X : Cx} {ρ ρ1 ρ2 : List Sl} {pos p : Pos} {x : Str} {e : Expr} {es : List Expr} {k j : Nat} {a : Addr} {o o' : Ow} {ds : List Pd} {d : Pd}
theorem RsAt.dats' {F : Hp} {σ : L2.St} : ∀ {ds : List Pd} {vs : List V}, RsAt F σ (ds.map R.d) vs → Sat F F (vs.map some) (ds.map .dat)
  | [], _, h => by
    cases (show _ = _ from h)
    exact ⟨Same.refl _, rfl, fun i s h => by simp at h, fun i j p o o' h _ _ _ => by simp at h⟩
  | d :: ds, _, ⟨v, ws, e, a, b⟩ => by
    subst e
    have ih := RsAt.dats' b
    refine ⟨Same.refl _, by have := ih.len; simpa using this, fun i s h => ?_, fun i j p o o' h _ hp _ => ?_⟩
    · cases i with
      | zero => cases h; exact ⟨_, rfl, v, rfl, a⟩
      | succ i => exact ih.at_ i s h
    · cases i with
      | zero => cases h; cases hp
      | succ i =>
        rw [List.map_cons, List.getElem?_cons_succ, List.getElem?_map] at h
        cases e2 : ds[i]? with
        | none => rw [e2] at h; cases h
        | some d => rw [e2] at h; cases h; cases hp
theorem Sat.dats {F H : Hp} {σ : L2.St} {vs : List V} (k : Same F H) (h : RsAt F σ (ds.map R.d) vs) : Sat F H (vs.map some) (ds.map .dat) := by
  have S := RsAt.dats' h
  refine ⟨k, S.len, fun i s hi => ?_, S.apart⟩
  obtain ⟨y, hy, b⟩ := S.at_ i s hi
  rw [List.getElem?_map] at hi
  cases e : ds[i]? with
  | none => rw [e] at hi; cases hi
  | some d => rw [e] at hi; cases hi; exact ⟨y, hy, b⟩
theorem Sat.bagged {F H : Hp} {σ : L2.St} {vs : List V} {i : Nat} (S : Sat F H σ ρ) (hi : ρ[i]? = some (.own a o)) (h : RsAt F σ (.s i :: ds.map R.d) vs) : Sat F H (vs.map some) (.own a o :: ds.map .dat) := by
  obtain ⟨v, ws, e, b, c⟩ := h
  subst e
  have T := Sat.dats S.sub c
  obtain ⟨e1, f, h0, h1, oa⟩ := S.own hi
  have b' : σ[i]? = some (some v) := b
  rw [e1] at b'
  cases b'
  refine ⟨S.sub, by have := T.len; simpa using this, fun j s hj => ?_, fun j l p u u' hj hl q1 q2 => ?_⟩
  · cases j with
    | zero => cases hj; exact ⟨_, rfl, rfl, f, h0, h1, oa⟩
    | succ j => exact T.at_ j s hj
  · have no : ∀ {j : Nat} {u : Sl}, (ds.map Sl.dat)[j]? = some u → p ∉ fp u := fun {j u} z hp => by
      rw [List.getElem?_map] at z
      cases e2 : ds[j]? with
      | none => rw [e2] at z; cases z
      | some d => rw [e2] at z; cases z; cases hp
    cases j with
    | zero =>
      cases l with
      | zero => rfl
      | succ l => exact absurd q2 (no hl)
    | succ j => exact absurd q1 (no hj)
theorem Sg.called {F H F' H' : Hp} {σ : L2.St} {as as' : List Sl} (S : Sg g F H σ ρ) (hin : ∀ p, Own as p → Own ρ p) (no : ∀ p, ¬ Own as' p) (xt : Xt (Own as) F H (Own as') F' H') (sub : Same F' H') (hno : ∀ p, ¬ Own as p) : Sg g F' H' σ ρ :=
  ⟨S.st.grow xt.same sub fun q hq => by
    obtain ⟨a, b⟩ := S.st.ownF hq
    obtain ⟨c, d, _⟩ := xt.rest q b a (hno q)
    exact ⟨c, d⟩, ⟨S.xt.same.trans xt.same, fun p hp fp op => by
    obtain ⟨a, b, c⟩ := S.xt.rest p hp fp op
    obtain ⟨a', b', _⟩ := xt.rest p (by rw [b]; exact hp) a (hno p)
    exact ⟨a', b'.trans b, c⟩⟩⟩
theorem Sg.calledB {F H F' H' : Hp} {σ : L2.St} {i : Nat} {vs : List V} (S : Sg g F H σ ρ) (hi : ρ[i]? = some (.own a o)) (xt : Xt (Own (.own a o :: ds.map .dat)) F H (Own (.own a o' :: ds.map .dat)) F' H') (S' : Sat F' H' (vs.map some) (.own a o' :: ds.map .dat)) : Sg g F' H' σ (ρ.set i (.own a o')) := by
  have ow : ∀ {q : Addr} {u : Ow}, Own (.own a u :: ds.map Sl.dat) q ↔ q = a := fun {q u} => by
    show q ∈ fp (.own a u) ++ fps (ds.map Sl.dat) ↔ _
    rw [fps_dats, List.append_nil]
    exact List.mem_singleton
  have hil : i < ρ.length := (List.getElem?_eq_some_iff.mp hi).1
  obtain ⟨_, fa', h1, ha', oa'⟩ := S'.own (i := 0) rfl
  obtain ⟨e1, _⟩ := S.st.own hi
  have far : ∀ q, Own ρ q → q ≠ a → F' q = none ∧ H' q = H q := fun q hq hne => by
    obtain ⟨a1, b1⟩ := S.st.ownF hq
    obtain ⟨c, d, _⟩ := xt.rest q b1 a1 (fun z => hne (ow.mp z))
    exact ⟨c, d⟩
  have back : ∀ {j : Nat} {q : Addr} {u : Sl}, (ρ.set i (.own a o'))[j]? = some u → q ∈ fp u → ∃ u', ρ[j]? = some u' ∧ q ∈ fp u' := fun {j q u} hj hu => by
    by_cases e : i = j
    · subst e
      rw [List.getElem?_set_self hil] at hj
      cases hj
      exact ⟨_, hi, hu⟩
    · rw [List.getElem?_set_ne e] at hj
      exact ⟨_, hj, hu⟩
  refine ⟨⟨S'.sub, by rw [List.length_set]; exact S.st.len, fun j t hj => ?_, fun j l q u u' hj hl q1 q2 => ?_⟩, ⟨S.xt.same.trans xt.same, fun q hq fq oq => ?_⟩⟩
  · by_cases e : i = j
    · subst e
      rw [List.getElem?_set_self hil] at hj
      cases hj
      exact ⟨_, e1, rfl, fa', h1, ha', oa'⟩
    · rw [List.getElem?_set_ne e] at hj
      obtain ⟨y, hy, b⟩ := S.st.at_ j t hj
      refine ⟨y, hy, b.grow xt.same fun q hq => far q (List.mem_flatMap.mpr ⟨t, List.mem_of_getElem? hj, hq⟩) fun z => ?_⟩
      subst z
      exact e (S.st.apart i j q _ t hi hj (List.mem_singleton.mpr rfl) hq)
  · obtain ⟨_, x1, y1⟩ := back hj q1
    obtain ⟨_, x2, y2⟩ := back hl q2
    exact S.st.apart _ _ _ _ _ x1 x2 y1 y2
  · obtain ⟨a1, b1, c1⟩ := S.xt.rest q hq fq oq
    have hqa : q ≠ a := fun z => c1 (z ▸ own_of hi)
    obtain ⟨a2, b2, _⟩ := xt.rest q (by rw [b1]; exact hq) a1 (fun z => hqa (ow.mp z))
    refine ⟨a2, b2.trans b1, fun z => ?_⟩
    obtain ⟨j, u, hj, hu⟩ := of_own z
    obtain ⟨u', hj', hu'⟩ := back hj hu
    exact c1 (own_at hj' hu')
theorem fresh_own {F H F' H' : Hp} {σ : L2.St} {q : Addr} (S : Sg g F H σ ρ) (hq : H q = none) : ¬ Own ρ q ∧ (g.H q = none ∨ g.O q) := by
  refine ⟨fun z => (S.st.ownF z).2 hq, ?_⟩
  by_cases h0 : g.H q = none
  · exact .inl h0
  · refine .inr (Classical.byContradiction fun ho => ?_)
    have gf : g.F q = none := S.xt.same.free (S.st.sub.free hq)
    obtain ⟨_, b, _⟩ := S.xt.rest q h0 gf ho
    exact h0 (b.symm.trans hq)
variable {f : List Pd → Rt → Prop} {fb : Ow → List Pd → Rt → Ow → Prop}
theorem no_dats {q : Addr} : ¬ Own (ds.map Sl.dat) q := by
  show ¬ q ∈ fps _
  rw [fps_dats]
  exact List.not_mem_nil
theorem de_callP (ds : List Pd) (D : Dn X.prog X.w X.K X.mg X.base j x (rP f)) (hX : XO k X) (hj : j ≤ k) (ha : DA g X (e :: es) ρ (ds.map R.d) ρ1) (hf : f ds (.d d)) (hg : Gl X x := by rfl) (hdb : (x == ("__debug__" : Str)) = false := by decide)
    (he : starEach (e :: es) X.env = (false, eval e X.env) :: starEach es X.env := by rfl) (hpl : (backTo pos (starEach es X.env)).any (·.1) = false := by rfl) : DE g X (.Call (.Name x p) (e :: es) [] pos) ρ (.d d) ρ1 := by
  obtain ⟨fa, fd, ps, F, hm, hk, hb⟩ := D.ex
  refine pe_mono (pe_call F (hX.room.mono hj) hg hm hk hb .nil pass0 ha hdb he hpl) fun σ H Q ⟨F0, S, q⟩ => ⟨F0, S, fun vs F1 H1 S1 k1 a => ?_⟩
  refine ⟨F1, ds.map .dat, .d d, ds.map .dat, ⟨ds, rfl, rfl, hf⟩, by rw [List.append_nil]; exact Sat.dats S1.st.sub a, fun v F' H' S' xt r => q v F' H' (S1.called (fun p z => absurd z no_dats) (fun p => no_dats) xt S'.sub fun p => no_dats) (k1.trans xt.same) r⟩
theorem df_callP (ds : List Pd) (D : Dn X.prog X.w X.K X.mg X.base j x (rP f)) (hX : XO k X) (hj : j ≤ k) (ha : DA g X (e :: es) ρ (ds.map R.d) ρ1) (hf : f ds (.o o)) (hg : Gl X x := by rfl) (hdb : (x == ("__debug__" : Str)) = false := by decide)
    (he : starEach (e :: es) X.env = (false, eval e X.env) :: starEach es X.env := by rfl) (hpl : (backTo pos (starEach es X.env)).any (·.1) = false := by rfl) : DF g X (.Call (.Name x p) (e :: es) [] pos) ρ o ρ1 := by
  obtain ⟨fa, fd, ps, F, hm, hk, hb⟩ := D.ex
  refine pe_mono (pe_call F (hX.room.mono hj) hg hm hk hb .nil pass0 ha hdb he hpl) fun σ H Q ⟨F0, S, q⟩ => ⟨F0, S, fun vs F1 H1 S1 k1 a => ?_⟩
  refine ⟨F1, ds.map .dat, .o o, ds.map .dat, ⟨ds, rfl, rfl, hf⟩, by rw [List.append_nil]; exact Sat.dats S1.st.sub a, fun v F' H' S' xt r => ?_⟩
  obtain ⟨p, h, rfl, fn, _, gn, hh, oa⟩ := r
  have hq : H1 p = none := gn.resolve_right no_dats
  obtain ⟨n1, n2⟩ := fresh_own (F' := F') (H' := H') S1 hq
  exact q p h F' H' (S1.called (fun p z => absurd z no_dats) (fun p => no_dats) xt S'.sub fun p => no_dats) (k1.trans xt.same) fn n1 n2 hh oa
theorem de_callB' {i : Nat} (ds : List Pd) (D : Dn X.prog X.w X.K X.mg X.base j x (rB fb)) (hX : XO k X) (hj : j ≤ k) (ha : DA g X (e :: es) ρ (.s i :: ds.map R.d) ρ1) (hi : ρ1[i]? = some (.own a o)) (hf : fb o ds (.d d) o') (hg : Gl X x := by rfl) (hdb : (x == ("__debug__" : Str)) = false := by decide)
    (he : starEach (e :: es) X.env = (false, eval e X.env) :: starEach es X.env := by rfl) (hpl : (backTo pos (starEach es X.env)).any (·.1) = false := by rfl) : DE g X (.Call (.Name x p) (e :: es) [] pos) ρ (.d d) (ρ1.set i (.own a o')) := by
  obtain ⟨fa, fd, ps, F, hm, hk, hb⟩ := D.ex
  refine pe_mono (pe_call F (hX.room.mono hj) hg hm hk hb .nil pass0 ha hdb he hpl) fun σ H Q ⟨F0, S, q⟩ => ⟨F0, S, fun vs F1 H1 S1 k1 r => ?_⟩
  exact ⟨F1, _, .d d, _, ⟨a, o, ds, o', rfl, rfl, hf⟩, by rw [List.append_nil]; exact Sat.bagged S1.st hi r, fun v F' H' S' xt r => q v F' H' (S1.calledB hi xt S') (k1.trans xt.same) r⟩
theorem df_callB' {i : Nat} {u : Ow} (ds : List Pd) (D : Dn X.prog X.w X.K X.mg X.base j x (rB fb)) (hX : XO k X) (hj : j ≤ k) (ha : DA g X (e :: es) ρ (.s i :: ds.map R.d) ρ1) (hi : ρ1[i]? = some (.own a o)) (hf : fb o ds (.o u) o') (hg : Gl X x := by rfl) (hdb : (x == ("__debug__" : Str)) = false := by decide)
    (he : starEach (e :: es) X.env = (false, eval e X.env) :: starEach es X.env := by rfl) (hpl : (backTo pos (starEach es X.env)).any (·.1) = false := by rfl) : DF g X (.Call (.Name x p) (e :: es) [] pos) ρ u (ρ1.set i (.own a o')) := by
  obtain ⟨fa, fd, ps, F, hm, hk, hb⟩ := D.ex
  refine pe_mono (pe_call F (hX.room.mono hj) hg hm hk hb .nil pass0 ha hdb he hpl) fun σ H Q ⟨F0, S, q⟩ => ⟨F0, S, fun vs F1 H1 S1 k1 r => ?_⟩
  refine ⟨F1, _, .o u, _, ⟨a, o, ds, o', rfl, rfl, hf⟩, by rw [List.append_nil]; exact Sat.bagged S1.st hi r, fun v F' H' S' xt r => ?_⟩
  obtain ⟨p, h, rfl, fn, no, gn, hh, oa⟩ := r
  have oe : ∀ {q : Addr} {u : Ow}, Own (.own a u :: ds.map Sl.dat) q ↔ q = a := fun {q u} => by
    show q ∈ fp (.own a u) ++ fps (ds.map Sl.dat) ↔ _
    rw [fps_dats, List.append_nil]
    exact List.mem_singleton
  have hne : p ≠ a := fun z => no (oe.mpr z)
  have hq : H1 p = none := gn.resolve_right fun z => hne (oe.mp z)
  obtain ⟨n1, n2⟩ := fresh_own (F' := F') (H' := H') S1 hq
  refine q p h F' H' (S1.calledB hi xt S') (k1.trans xt.same) fn (fun z => ?_) n2 hh oa
  rcases own_set z with y | y
  · exact hne (List.mem_singleton.mp y)
  · exact n1 y
end
end DL

set_option Elab.async false
set_option linter.all false
set_option maxRecDepth 100000
set_option maxHeartbeats 1000000
set_option autoImplicit false
/-! DL9: methods of own lists, dicts with plain keys, places in a tuple. -/
namespace DL
open PySem PySem.Spec PyProof.Rows L2 LB

/-! ### t.index(k) -/
/-- o.index(e), a tuple of ints -/
def tIdxT (to te : TE) : TE := fun σ H Q => to σ H fun x H1 => ∃ (a : Addr) (ns : List Int), x = .ref a ∧ TupF H1 a (ns.map V.int) ∧ te σ H1 fun y H2 => ∃ (k : Int), TupF H2 a (ns.map V.int) ∧ y = .int k ∧ k ∈ ns ∧ Q (.int (ns.idxOf k : Nat)) H2
section
variable {X : Cx} {o e : Expr} {to te : TE} {apos cpos : Pos}
theorem pe_idxT (ho : PE X o to) (he : PE X e te) (hbase : attributeBase o "index" X.env (eval o X.env) = eval o X.env := by rfl)
    (hfew : ((backTo cpos (starEach [e] X.env)).all (fun x => !x.1) && (backToKw cpos (keywordEach [] X.env)).all (fun x => x.1.isSome)
      && decide (([e] : List Expr).length + ([] : List Keyword).length + (if ([] : List Keyword).isEmpty then 0 else 1) < 30)) = true := by rfl)
    (hline : (apos.endLine == cpos.line) = true := by rfl) (hs : starEach [e] X.env = (false, eval e X.env) :: starEach [] X.env := by rfl) (hplain : (backTo cpos (starEach [] X.env)).any (·.1) = false := by rfl) :
    PE X (.Call (.Attribute o "index" apos) [e] [] cpos) (tIdxT to te) := by
  refine ⟨fun pins s σ H Q I h => ?_⟩
  refine wpAny_Call_method_late hbase hfew hline rfl (thn (ho.run pins s σ H _ I h) fun v s1 ⟨x, H1, I1, r1, a, ns, ex, ⟨ob, hob, hd⟩, q1⟩ => ?_)
  subst ex
  cases (show v = Value.ref a from r1)
  obtain ⟨hg, _, its1, _, pt⟩ := I1.hok a _ hob
  refine ⟨"tuple", _, PySem.F.plainAttrs_tuple, PySem.F.slot_tuple_index, PySem.F.type_tuple_index, let ⟨o, ho, hc, _⟩ := pt; ⟨o, ho, hc⟩, fun b e => by cases e; exact ⟨ob, hg, hd⟩, ?_⟩
  rw [hs]
  refine Calls.callWith_builtin (by show (false || (backTo cpos (starEach [] X.env)).any (·.1)) = false; rw [hplain] <;> rfl) (Calls.evalArgs_plain ?_)
  show wpAny _ _ (spliced ((false, eval e X.env) :: backTo cpos (starEach [] X.env))) _ _ s1
  refine Calls.spliced_cons (thn (he.run pins s1 σ H1 _ I1 q1) fun u s2 ⟨y, H2, I2, ry, k, ⟨ob2, hob2, _⟩, ey, hk, q2⟩ => ?_)
  refine Calls.spliced_nil ?_
  subst ey
  obtain ⟨t, rfl⟩ := (show ∃ t, u = Value.int k t from ry)
  obtain ⟨hg2, z2, its, rv, pt2⟩ := I2.hok a _ hob2
  exact PySem.SeqAt.tuple_index_ints (show s2.heap.IsTuple a its.toArray from pt2) rv.ints hk ⟨.int _, H2, I2.tok _, ⟨_, rfl⟩, q2⟩
end

/-! ### sorted(d), d a dict with int keys -/
section
variable {prog : Program} {w : World} {A : Around} {E : Value → Shared → Prop} {s : Shared} {l : Addr}
open SrtO in
theorem sorted_ordC {P : List Value → Prop} {ltv : Value → Value → Bool} {Q : Value → Shared → Prop} (O : Swo ltv)
    (hcol : ∀ (E : Value → Shared → Prop) (R : List Value → Shared → Prop), (∀ h' tk vs, (∀ b o, s.heap.get? b = some o → h'.get? b = some o) → P vs → R vs { s with heap := h', toks := tk }) → wpAny (model prog w) A.in1 (collect (.ref l)) R E s)
    (hz : ∀ vs, P vs → vs.length ≤ sizeLine) (hS : ∀ vs, P vs → 2 ≤ vs.length → ∀ (s' : Shared) (a : Addr), SortableO prog w A.in1.in1 s' a vs ltv)
    (h : ∀ (vs out : List Value) (h' h'' : Heap) (tk : Nat) (B : Addr) (e : Nat), P vs → Srtd ltv out → Stb ltv out vs → (∀ b o, s.heap.get? b = some o → h'.get? b = some o) → h'.objs.size ≤ B → (∀ b o, h'.get? b = some o → h''.get? b = some o) → h''.get? B = some (seqObj "list" out.toArray e) → Q (.ref B) { s with heap := h'', toks := tk }) :
    wpAny (model prog w) A (call (.builtin "sorted") [.ref l]) Q E s := by
  refine Calls.call_function_entry kind_sorted plain_sorted entry_sorted (args_sorted1 _) ?_
  unfold Builtin.«sorted»
  refine wpAny_bind (m := checkCount "sorted" 1 1 _) (wpAny_pure ?_)
  refine wpAny_bind (hcol _ _ fun h' tk vs hk hp => ?_)
  refine wpAny_bind (wpAny_newList ?_ (hz vs hp))
  have hoL : (h'.push (seqObj "list" vs.toArray 0)).get? h'.objs.size = some (seqObj "list" vs.toArray 0) := Heap.get?_push_size _ rfl
  refine wpAny_bind (wpAny_holding (wpAny_call_entry slot_list_sort ⟨_, hoL, rfl⟩ entry_list_sort (list_sort_ord O hoL (hz vs hp) (fun h2 => hS vs hp h2 _ _) fun out hs hb => ⟨_, rfl, ?_⟩) (args_list_sort _)))
  obtain ⟨e, he⟩ := sortedHeap_at (vs := vs) (out := out.toArray) hoL
  refine wpAny_pure ⟨_, rfl, h vs out h' _ tk _ e hp hs hb hk (Nat.le_refl _) (fun b o q => ?_) he⟩
  have q2 : (h'.push (seqObj "list" vs.toArray 0)).get? b = some o := Heap.get?_push_of_some _ q
  rw [sortedHeap_old (Nat.ne_of_lt (Heap.lt_size q)) (Heap.lt_size q2)]
  exact q2
end
end DL

set_option Elab.async false
set_option linter.all false
set_option maxRecDepth 100000
set_option maxHeartbeats 1000000
set_option autoImplicit false
/-! DL10: methods of own lists, dicts with plain keys. -/
namespace DL
open PySem PySem.Spec PyProof.Rows L2 LB

/-! ### sorted(d) by values -/
def rSortD : List V → Hp → VK → Prop := fun vs H Q => ∃ (a : Addr) (kvs : List (Key × V)) (ns : List Int), vs = [V.ref a] ∧ H a = some (.dK kvs) ∧ kvs.map (·.1) = ns.map Sum.inl ∧
  ∀ (ns' : List Int) (p : Addr), ns'.Perm ns → ns'.Pairwise (· ≤ ·) → H p = none → Q (.ref p) (upd H p (.lst (ns'.map V.int)))
theorem ints_of_at : ∀ {us : List Value} {ns : List Int}, us.length = ns.length → (∀ (j : Nat) (v : Value), us[j]? = some v → ∃ (i : Int) (t : Tok), ns[j]? = some i ∧ v = Value.int i t) → IntsAre us ns
  | [], [], _, _ => .nil
  | u :: us, n :: ns, hl, h => by
    obtain ⟨i, t, e1, e2⟩ := h 0 u rfl
    cases e1
    subst e2
    exact .cons _ _ (ints_of_at (by simpa using hl) fun j v e => h (j + 1) v e)
  | [], _ :: _, hl, _ => by simp at hl
  | _ :: _, [], hl, _ => by simp at hl
section
variable {X : Cx}
theorem cr_sortD (hc : X.calm = true) : CallR X (.builtin "sorted") rSortD := by
  intro pins s σ H vs us Q I r h
  obtain ⟨a, kvs, ns, rfl, ha, hk, q⟩ := h
  obtain ⟨z, lo, ws, rel, hd⟩ := dk_of I.hok ha
  obtain ⟨ep, hat⟩ := hd.dictAt
  rw [Vals.ref1 r]
  have hks : ws.map (·.1) = ns.map Sum.inl := by rw [← rel.keys]; exact hk
  have hlen : ws.length = ns.length := by have := congrArg List.length hks; simpa using this
  have hlk : kvs.length = ns.length := by have := congrArg List.length hk; simpa using this
  refine sorted_ordC (P := fun vs => IntsAre vs ns) SrtO.swo_int (fun E R hR => ?_) (fun vs hp => by rw [hp.length, ← hlk]; exact z) (fun vs hp h2 s' a' => SrtO.ints_sortable hp h2) fun vs out h' h'' tk B e hp h1 h2 hk1 hB hk2 hg => ?_
  · refine PySem.W.kdu_collect (PySem.W.kdl_dict (knd := mixKind X.prog X.w) (kvs := ws) (ep := ep) lo) (by exact (I.ok.hd hc)) hat (by rw [hlen, ← hlk]; exact z) fun h' tk acc hk' hacc => hR h' tk acc.toList hk' ?_
    refine ints_of_at (by rw [Array.length_toList, hacc.1]; exact hlen) fun j v hv => ?_
    obtain ⟨k, x, e1, e2⟩ := hacc.2 j v (by rw [← Array.getElem?_toList]; exact hv)
    have e3 : (ns.map (Sum.inl : Int → Key))[j]? = some k := by rw [← hks, List.getElem?_map, e1]; rfl
    rw [List.getElem?_map] at e3
    cases e4 : ns[j]? with
    | none => rw [e4] at e3; cases e3
    | some i =>
      rw [e4] at e3
      cases e3
      rcases keyIs_shape (show keyIs (Sum.inl i) v = true from e2) with ⟨i', t, e5, e6⟩ | ⟨_, _, e5, _⟩
      · cases e5
        exact ⟨i, t, rfl, e6⟩
      · cases e5
  · obtain ⟨k1, k2, k3⟩ := SrtO.ints_out hp h1 h2
    have I1 : Inv X pins σ H { s with heap := h', toks := tk } := I.kept hk1
    have hl2 : ((out.map SrtO.iv).map V.int).length ≤ sizeLine := by
      rw [List.length_map, k2.length_eq, ← hlk]
      exact z
    exact ⟨.ref B, upd H B (.lst ((out.map SrtO.iv).map V.int)), I1.laid (s := { s with heap := h', toks := tk }) (t' := tk) hk2 hB ⟨hl2, out, e, vals_of_ints k1, hg⟩, rfl, q _ _ k2 k3 (I1.hok.fresh hB)⟩
end

theorem DaL.set {F : Hp} : ∀ {ds : List Pd} {vs : List V} {d : Pd} {v : V}, DaL F ds vs → Da F d v → ∀ j, DaL F (ds.set j d) (vs.set j v)
  | [], _, _, _, h, _, _ => by cases (show _ = _ from h); rfl
  | _ :: _, _, _, _, ⟨w, ws, e, a, b⟩, k, 0 => by subst e; exact ⟨_, _, rfl, k, b⟩
  | _ :: _, _, _, _, ⟨w, ws, e, a, b⟩, k, j + 1 => by subst e; exact ⟨_, _, rfl, a, DaL.set b k j⟩

/-! ### own dicts as data -/
section
variable {κ : Type} [DecidableEq κ]
def getP (kvs : List (κ × Pd)) (k : κ) : Option Pd := (kvs.find? fun kv => decide (kv.1 = k)).map (·.2)
def putP (kvs : List (κ × Pd)) (k : κ) (d : Pd) : List (κ × Pd) := if (kvs.any fun kv => decide (kv.1 = k)) = true then kvs.map (fun kv => if kv.1 = k then (kv.1, d) else kv) else kvs ++ [(k, d)]
theorem KD.any {F : Hp} {kvs : List (κ × Pd)} {ws : List (κ × V)} (h : KD F kvs ws) (k : κ) : (kvs.any fun kv => decide (kv.1 = k)) = ws.any fun kv => decide (kv.1 = k) := by
  induction h with
  | nil => rfl
  | cons r t ih => rw [List.any_cons, List.any_cons, ih, r.1]
theorem KD.map {F : Hp} {kvs : List (κ × Pd)} {ws : List (κ × V)} (h : KD F kvs ws) {k : κ} {d : Pd} {v : V} (a : Da F d v) : KD F (kvs.map fun kv => if kv.1 = k then (kv.1, d) else kv) (ws.map fun kv => if kv.1 = k then (kv.1, v) else kv) := by
  induction h with
  | nil => exact .nil
  | cons r t ih =>
    refine .cons ?_ ih
    rename_i x y _ _
    show (if x.1 = k then (x.1, d) else x).1 = (if y.1 = k then (y.1, v) else y).1 ∧ Da F (if x.1 = k then (x.1, d) else x).2 (if y.1 = k then (y.1, v) else y).2
    by_cases e : x.1 = k
    · rw [if_pos e, if_pos (show y.1 = k from r.1 ▸ e)]; exact ⟨r.1, a⟩
    · rw [if_neg e, if_neg (show ¬ y.1 = k from fun z => e (r.1.trans z))]; exact r
theorem KD.snoc {F : Hp} {kvs : List (κ × Pd)} {ws : List (κ × V)} (h : KD F kvs ws) {k : κ} {d : Pd} {v : V} (a : Da F d v) : KD F (kvs ++ [(k, d)]) (ws ++ [(k, v)]) := by
  induction h with
  | nil => exact .cons ⟨rfl, a⟩ .nil
  | cons r t ih => exact .cons r ih
theorem KD.put {F : Hp} {kvs : List (κ × Pd)} {ws : List (κ × V)} (h : KD F kvs ws) {k : κ} {d : Pd} {v : V} (a : Da F d v) : KD F (putP kvs k d) (putK ws k v) := by
  unfold putP putK
  rw [h.any k]
  by_cases e : (ws.any fun kv => decide (kv.1 = k)) = true
  · rw [if_pos e, if_pos e]; exact h.map a
  · rw [if_neg e, if_neg e]; exact h.snoc a
theorem KD.get {F : Hp} {kvs : List (κ × Pd)} {ws : List (κ × V)} (h : KD F kvs ws) (k : κ) : match getP kvs k, valV ws k with | some d, some v => Da F d v | none, none => True | _, _ => False := by
  unfold getP valV
  induction h with
  | nil => trivial
  | cons r t ih =>
    rename_i x y _ _
    by_cases e : x.1 = k
    · have e2 : y.1 = k := r.1 ▸ e
      rw [List.find?_cons_of_pos (by simpa using e), List.find?_cons_of_pos (by simpa using e2)]
      exact r.2
    · have e2 : ¬ y.1 = k := fun z => e (r.1.trans z)
      rw [List.find?_cons_of_neg (by simpa using e), List.find?_cons_of_neg (by simpa using e2)]
      exact ih
theorem KD.length {F : Hp} {kvs : List (κ × Pd)} {ws : List (κ × V)} (h : KD F kvs ws) : kvs.length = ws.length := Paired.length h
theorem KD.keys {F : Hp} {kvs : List (κ × Pd)} {ws : List (κ × V)} (h : KD F kvs ws) : kvs.map (·.1) = ws.map (·.1) := by
  induction h with
  | nil => rfl
  | cons r t ih => rw [List.map_cons, List.map_cons, ih, r.1]
theorem KD.has {F : Hp} {kvs : List (κ × Pd)} {ws : List (κ × V)} (h : KD F kvs ws) (k : κ) : (valV ws k).isSome = (getP kvs k).isSome := by
  have := h.get k
  cases e1 : getP kvs k <;> cases e2 : valV ws k <;> rw [e1, e2] at this
  · rfl
  · exact this.elim
  · exact this.elim
  · rfl
end
/-- a key as data -/
def keyP : Pd → Option Key
  | .int i => some (.inl i)
  | .str x => some (.inr x)
  | _ => none
theorem keyP_at {F : Hp} {d : Pd} {v : V} {k : Key} (a : Da F d v) (h : keyP d = some k) : v = kV k := by
  cases d with
  | int i => cases h; exact a
  | str x => cases h; exact a
  | none => cases h
  | bool _ => cases h
  | list _ => cases h
  | tuple _ => cases h
  | dict _ => cases h

section
variable {g : Gh} {X : Cx} {ρ ρ1 ρ2 ρ3 : List Sl} {pos p pos' : Pos} {x : Str} {o e e1 e2 : Expr} {es : List Expr} {rs : List R} {ra rc : R} {k i : Nat} {a q : Addr} {ds ds0 : List Pd} {d : Pd} {name : Str} {apos cpos : Pos}
/-- o.m(..): o an own list -/
theorem de_bm {id : String} {r : V → List V → Hp → VK → Prop} (slot : Slot "list" name id) (hty : typeOf (.builtin id) = pure (.type "method_descriptor")) (hm : MtR X id r) (ho : DE g X o ρ (.s i) ρ) (h0 : ρ[i]? = some (.own q (.lst ds0))) (ha : DA g X (e :: es) ρ rs ρ1)
    (h : ∀ F H σ vs Q, Sg g F H σ ρ1 → RsAt F σ rs vs → (∀ v F' H', Sg g F' H' σ ρ2 → Same F F' → RAt F' σ rc v → Q v H') → r (.ref q) vs H Q)
    (hbase : attributeBase o name X.env (eval o X.env) = eval o X.env := by rfl)
    (hfew : ((backTo cpos (starEach (e :: es) X.env)).all (fun x => !x.1) && (backToKw cpos (keywordEach [] X.env)).all (fun x => x.1.isSome)
      && decide ((e :: es).length + ([] : List Keyword).length + (if ([] : List Keyword).isEmpty then 0 else 1) < 30)) = true := by rfl)
    (hline : (apos.endLine == cpos.line) = true := by rfl) (hs : starEach (e :: es) X.env = (false, eval e X.env) :: starEach es X.env := by rfl) (hplain : (backTo cpos (starEach es X.env)).any (·.1) = false := by rfl) :
    DE g X (.Call (.Attribute o name apos) (e :: es) [] cpos) ρ rc ρ2 :=
  pe_mono (pe_bm PySem.F.plainAttrs_list slot hty hm ho ha hbase hfew hline hs hplain) fun σ H Q ⟨F, S, k⟩ => ⟨F, S, fun v F1 H1 S1 k1 av => by
    obtain ⟨f1, f2, h1, f3, vs, rfl, z, dl⟩ := S1.st.own h0
    have av' : σ[i]? = some (some v) := av
    rw [f1] at av'
    cases av'
    exact ⟨.inl ⟨rfl, vs, SqL.of f3⟩, F1, S1, fun vs F2 H2 S2 k2 r2 => h F2 H2 σ vs Q S2 r2 fun v F' H' S' k' r' => k v F' H' S' (k1.trans (k2.trans k')) r'⟩⟩
theorem de_append (ho : DE g X o ρ (.s i) ρ) (h0 : ρ[i]? = some (.own q (.lst ds0))) (ha : DE g X e ρ (.d d) ρ1) (h1 : ρ1[i]? = some (.own q (.lst ds))) (hz : ds.length < 16777216)
    (hbase : attributeBase o "append" X.env (eval o X.env) = eval o X.env := by rfl)
    (hfew : ((backTo cpos (starEach [e] X.env)).all (fun x => !x.1) && (backToKw cpos (keywordEach [] X.env)).all (fun x => x.1.isSome)
      && decide (([e] : List Expr).length + ([] : List Keyword).length + (if ([] : List Keyword).isEmpty then 0 else 1) < 30)) = true := by rfl)
    (hline : (apos.endLine == cpos.line) = true := by rfl) (hs : starEach [e] X.env = (false, eval e X.env) :: starEach [] X.env := by rfl) (hplain : (backTo cpos (starEach [] X.env)).any (·.1) = false := by rfl) :
    DE g X (.Call (.Attribute o "append" apos) [e] [] cpos) ρ (.d .none) (ρ1.set i (.own q (.lst (ds ++ [d])))) :=
  de_bm PySem.F.slot_list_append PySem.F.type_list_append mt_append ho h0 (da_cons ha da_nil hs) (fun F H σ vs Q S r k => by
    obtain ⟨v, ev, a⟩ := rs1 r
    subst ev
    obtain ⟨f1, f2, h2, f3, vs, rfl, z, dl⟩ := S.st.own h1
    have hl : vs.length < sizeLine := by rw [← dl.length, sizeLine_eq]; exact hz
    exact ⟨q, vs, v, rfl, rfl, f3, hl, k _ F _ (S.put h1 ⟨vs ++ [v], rfl, by rw [List.length_append, List.length_singleton]; omega, dl.snoc a⟩) (Same.refl _) rfl⟩) hbase hfew hline hs hplain
theorem de_insert {j : Nat} (ho : DE g X o ρ (.s i) ρ) (h0 : ρ[i]? = some (.own q (.lst ds0))) (ha : DA g X [e1, e2] ρ [.d (.int (j : Int)), .d d] ρ1) (h1 : ρ1[i]? = some (.own q (.lst ds))) (hz : ds.length < 16777216) (hj : j ≤ 16777216)
    (hbase : attributeBase o "insert" X.env (eval o X.env) = eval o X.env := by rfl)
    (hfew : ((backTo cpos (starEach [e1, e2] X.env)).all (fun x => !x.1) && (backToKw cpos (keywordEach [] X.env)).all (fun x => x.1.isSome)
      && decide (([e1, e2] : List Expr).length + ([] : List Keyword).length + (if ([] : List Keyword).isEmpty then 0 else 1) < 30)) = true := by rfl)
    (hline : (apos.endLine == cpos.line) = true := by rfl) (hs : starEach [e1, e2] X.env = (false, eval e1 X.env) :: starEach [e2] X.env := by rfl) (hplain : (backTo cpos (starEach [e2] X.env)).any (·.1) = false := by rfl) :
    DE g X (.Call (.Attribute o "insert" apos) [e1, e2] [] cpos) ρ (.d .none) (ρ1.set i (.own q (.lst (ds.take j ++ [d] ++ ds.drop j)))) :=
  de_bm PySem.F.slot_list_insert PySem.F.type_list_insert mt_insert ho h0 ha (fun F H σ vs Q S r k => by
    obtain ⟨v, w, ev, a, b⟩ := rs2 r
    subst ev
    cases (show v = _ from a)
    obtain ⟨f1, f2, h2, f3, vs, rfl, z, dl⟩ := S.st.own h1
    have hl : vs.length < sizeLine := by rw [← dl.length, sizeLine_eq]; exact hz
    refine ⟨q, vs, (j : Int), w, rfl, rfl, f3, hl, Int.natCast_nonneg _, by omega, k _ F _ (S.put h1 ⟨_, rfl, ?_, ?_⟩) (Same.refl _) rfl⟩
    · rw [Int.toNat_natCast, List.length_append, List.length_append, List.length_take, List.length_drop, List.length_singleton]; omega
    · rw [Int.toNat_natCast]; exact ((dl.take j).snoc b).append (dl.drop j)) hbase hfew hline hs hplain
/-- xs.remove(e), e in it -/
theorem de_remove {ns : List Int} {n : Int} (hX : XO k X) (ho : DE g X o ρ (.s i) ρ) (h0 : ρ[i]? = some (.own q (.lst ds0))) (ha : DE g X e ρ (.d (.int n)) ρ1) (h1 : ρ1[i]? = some (.own q (.lst (ns.map .int)))) (hn : n ∈ ns)
    (hbase : attributeBase o "remove" X.env (eval o X.env) = eval o X.env := by rfl)
    (hfew : ((backTo cpos (starEach [e] X.env)).all (fun x => !x.1) && (backToKw cpos (keywordEach [] X.env)).all (fun x => x.1.isSome)
      && decide (([e] : List Expr).length + ([] : List Keyword).length + (if ([] : List Keyword).isEmpty then 0 else 1) < 30)) = true := by rfl)
    (hline : (apos.endLine == cpos.line) = true := by rfl) (hs : starEach [e] X.env = (false, eval e X.env) :: starEach [] X.env := by rfl) (hplain : (backTo cpos (starEach [] X.env)).any (·.1) = false := by rfl) :
    DE g X (.Call (.Attribute o "remove" apos) [e] [] cpos) ρ (.d .none) (ρ1.set i (.own q (.lst ((ns.erase n).map .int)))) :=
  pe_mono (pe_remX (W := fun _ _ _ _ => False) hX.calm (fun u s' ⟨a, B, sI, pins, σ, H, cls, d, e, I, nb, up, sky, na, os, ag, w⟩ => w.elim) ho ha hbase hfew hline hs hplain) fun σ H Q ⟨F, S, k⟩ => ⟨F, S, fun v F1 H1 S1 k1 av => by
    obtain ⟨f1, f2, h2, f3, vs, rfl, z, dl⟩ := S1.st.own h0
    have av' : σ[i]? = some (some v) := av
    rw [f1] at av'
    cases av'
    refine ⟨.inl ⟨rfl, vs, SqL.of f3⟩, F1, S1, fun w F2 H2 S2 k2 b => ?_⟩
    obtain ⟨g1, g2, h3, g3, us, rfl, z2, dl2⟩ := S2.st.own h1
    have eu := dl2.ints
    subst eu
    refine ⟨q, ns, n, rfl, b, g3, fun hn => k _ F2 _ (S2.put h1 ⟨_, rfl, ?_, DaL.of_ints⟩) (k1.trans k2) rfl, fun hx => absurd hn hx⟩
    have := List.length_erase_le (a := n) (l := ns)
    rw [List.length_map] at z2 ⊢
    omega⟩
/-- t.index(e), e in it -/
theorem de_index {ns : List Int} {n : Int} (ho : DE g X o ρ (.d (.tuple ds)) ρ1) (hd : ds = ns.map .int) (ha : DE g X e ρ1 (.d (.int n)) ρ2) (hn : n ∈ ns)
    (hbase : attributeBase o "index" X.env (eval o X.env) = eval o X.env := by rfl)
    (hfew : ((backTo cpos (starEach [e] X.env)).all (fun x => !x.1) && (backToKw cpos (keywordEach [] X.env)).all (fun x => x.1.isSome)
      && decide (([e] : List Expr).length + ([] : List Keyword).length + (if ([] : List Keyword).isEmpty then 0 else 1) < 30)) = true := by rfl)
    (hline : (apos.endLine == cpos.line) = true := by rfl) (hs : starEach [e] X.env = (false, eval e X.env) :: starEach [] X.env := by rfl) (hplain : (backTo cpos (starEach [] X.env)).any (·.1) = false := by rfl) :
    DE g X (.Call (.Attribute o "index" apos) [e] [] cpos) ρ (.d (.int (ns.idxOf n : Nat))) ρ2 :=
  pe_mono (pe_idxT ho ha hbase hfew hline hs hplain) fun σ H Q ⟨F, S, k⟩ => ⟨F, S, fun v F1 H1 S1 k1 av => by
    subst hd
    obtain ⟨a, vs, e1, tf, z, dl⟩ := av
    have ew := dl.ints
    subst e1 ew
    exact ⟨a, ns, rfl, tf.mono S1.st.sub, F1, S1, fun w F2 H2 S2 k2 b => ⟨n, tf.mono (k2.trans S2.st.sub), b, hn, k _ F2 H2 S2 (k1.trans k2) rfl⟩⟩⟩
/-- sorted(d) -/
theorem df_sortedD {kvs : List (Key × Pd)} {ns : List Int} (hX : XO k X) (ho : DE g X o ρ (.s i) ρ) (h0 : ρ[i]? = some (.own q (.dK kvs))) (hk : kvs.map (·.1) = ns.map Sum.inl) (hz : ns.length ≤ 16777216) (hg : Gl X "sorted" := by rfl) (he : starEach [o] X.env = (false, eval o X.env) :: starEach [] X.env := by rfl) (hpl : (backTo pos (starEach [] X.env)).any (·.1) = false := by rfl) :
    DF g X (.Call (.Name "sorted" p) [o] [] pos) ρ (.lst ((srt ns).map .int)) ρ :=
  df_callB (cr_sortD hX.calm) hX.bi.sorted (by decide +kernel) (da_cons ho da_nil he) (fun F H σ vs Q S r kk => by
    obtain ⟨v, ev, a⟩ := rs1 r
    subst ev
    obtain ⟨f1, f2, h2, f3, ws, rfl, kd⟩ := S.st.own h0
    have a' : σ[i]? = some (some v) := a
    rw [f1] at a'
    cases a'
    refine ⟨q, ws, ns, rfl, f3, by rw [← kd.keys]; exact hk, fun ns' l p1 p2 hl => ?_⟩
    rw [srt_unique p1 p2]
    exact new_lst S kk (by rw [List.length_map, srt_length, sizeLine_eq]; exact hz) DaL.of_ints l hl) hg (he := he) (hpl := hpl)
end
section
variable {g : Gh} {X : Cx} {ρ ρ1 ρ2 ρ3 : List Sl} {pos p pos' : Pos} {o e v : Expr} {rest : List Stmt} {N : List Sl → Prop} {R' : Rt → List Sl → Prop} {ra rc : R} {k i : Nat} {a q : Addr} {ds : List Pd} {d dk : Pd} {kvs kvs0 : List (Key × Pd)} {ky : Key}
/-- xs[j] = v -/
theorem dss_seti {n : Int} {j : Nat} (hv : DE g X v ρ (.d d) ρ1) (ho : DE g X o ρ1 (.s i) ρ1) (he : DE g X e ρ1 (.d (.int n)) ρ1) (h1 : ρ1[i]? = some (.own q (.lst ds))) (hj : ixN ds.length n = some j)
    (hr : DSs g X rest (ρ1.set i (.own q (.lst (ds.set j d)))) N R')
    (ha : ∀ v, assign (.Subscript o e pos') X.env v = (do
      let ov ← holding [v] (eval o X.env)
      let iv ← holding [v, ov] (eval e X.env)
      standAt pos'
      holding [v, ov, iv] (setItem ov iv v)
      release [v, ov, iv] []) := by intro _; rfl)
    (hs : swapsWithSole [.Subscript o e pos'] v pos.line X.env = pure false := by rfl) (hw : swappedStores [.Subscript o e pos'] v X.env = pure none := by rfl)
    (h2 : (assignEach [.Subscript o e pos'] X.env).map (·.2) = [assign (.Subscript o e pos') X.env] := by rfl) :
    DSs g X (.Assign [.Subscript o e pos'] v pos :: rest) ρ N R' :=
  dss_cons (N' := (· = ρ1.set i (.own q (.lst (ds.set j d))))) (ps_mono (ps_asg hv (pg_sub ho he set_list ha) hs hw h2) fun D σ H ⟨F, S, kn, _⟩ => ⟨F, S, fun w F1 H1 S1 k1 aw => ⟨F1, S1, fun ov F2 H2 S2 k2 ao => ⟨F2, S2, fun iv F3 H3 S3 k3 ai => by
    obtain ⟨f1, f2, h3, f3, ws, rfl, z, dl⟩ := S3.st.own h1
    have a' : σ[i]? = some (some ov) := ao
    rw [f1] at a'
    cases a'
    refine ⟨q, ws, n, j, rfl, ai, f3, by rw [← dl.length]; exact hj, kn σ F3 _ _ rfl (S3.put h1 ⟨_, rfl, by rw [List.length_set]; exact z, ?_⟩) (k1.trans (k2.trans k3))⟩
    exact DaL.set dl (aw.mono (k2.trans k3)) j⟩⟩⟩) fun ρ2 h => by subst h; exact hr
theorem df_dict (hX : XO k X) : DF g X (.Dict [] [] pos) ρ (.dK []) ρ := pe_mono pe_dnewK fun σ H Q ⟨F, S, q⟩ p hp => by
  obtain ⟨S1, f, no, gn⟩ := S.newO hp (o := .dK [])
  exact q p _ F _ S1 (Same.refl _) f no gn upd_same ⟨[], rfl, .nil⟩
/-- d[k] = v -/
theorem dss_put (hX : XO k X) (hv : DE g X v ρ (.d d) ρ1) (ho : DE g X o ρ1 (.s i) ρ1) (he : DE g X e ρ1 (.d dk) ρ2) (hk : keyP dk = some ky) (h1 : ρ2[i]? = some (.own q (.dK kvs))) (hz : kvs.length < 16777216)
    (hr : DSs g X rest (ρ2.set i (.own q (.dK (putP kvs ky d)))) N R') (h0 : ρ1[i]? = some (.own q (.dK kvs0)))
    (hs : swapsWith v (some (.Subscript o e pos')) pos.line X.env = pure false := by rfl) :
    DSs g X (.Assign [.Subscript o e pos'] v pos :: rest) ρ N R' :=
  dss_cons (N' := (· = ρ2.set i (.own q (.dK (putP kvs ky d))))) (ps_mono (ps_dput hX.hu ho he hv hs) fun D σ H ⟨F, S, kn, _⟩ => ⟨F, S, fun w F1 H1 S1 k1 aw => ⟨F1, S1, fun ov F2 H2 S2 k2 ao => ⟨F2, S2, fun iv F3 H3 S3 k3 ai => by
    obtain ⟨f1, f2, h3, f3, ws, rfl, kd⟩ := S3.st.own h1
    have a' : σ[i]? = some (some ov) := ao
    rw [f1] at a'
    cases a'
    have ek := keyP_at (show Da F3 dk iv from ai) hk
    subst ek
    exact ⟨q, _, rfl, DPut.k f3 (by rw [← kd.length, sizeLine_eq]; exact hz), kn σ F3 _ _ rfl (S3.put h1 ⟨_, rfl, kd.put ((show Da F1 d w from aw).mono (k2.trans k3))⟩) (k1.trans (k2.trans k3))⟩⟩⟩⟩) fun ρ3 h => by subst h; exact hr
/-- d[k] -/
theorem de_get (hX : XO k X) (ho : DE g X o ρ (.s i) ρ) (he : DE g X e ρ (.d dk) ρ1) (hk : keyP dk = some ky) (h1 : ρ1[i]? = some (.own q (.dK kvs))) (hv : getP kvs ky = some d) (hs : NoSl e := by exact fun _ _ => rfl) : DE g X (.Subscript o e pos) ρ (.d d) ρ1 :=
  pe_mono (pe_dget hX.hu ho he hs) fun σ H Q ⟨F, S, kn⟩ => ⟨F, S, fun ov F2 H2 S2 k2 ao => ⟨F2, S2, fun iv F3 H3 S3 k3 ai => by
    obtain ⟨f1, f2, h3, f3, ws, rfl, kd⟩ := S3.st.own h1
    have a' : σ[i]? = some (some ov) := ao
    rw [f1] at a'
    cases a'
    have ek := keyP_at (show Da F3 dk iv from ai) hk
    subst ek
    have kg := kd.get ky
    rw [hv] at kg
    cases ew : valV ws ky with
    | none => rw [ew] at kg; exact kg.elim
    | some v =>
      rw [ew] at kg
      refine ⟨q, v, rfl, ?_, kn v F3 H3 S3 (k2.trans k3) kg⟩
      rw [← ew]
      exact DGet.k f3⟩⟩
end
end DL

set_option Elab.async false
set_option linter.all false
set_option maxRecDepth 100000
set_option maxHeartbeats 1000000
set_option autoImplicit false
/-! DL11: the bags of a law, its loop over them. -/
namespace DL
open PySem PySem.Spec PyProof.Rows L2 LB

/-! ### what a bag holds, in plain words -/
def wellR (cell turn : Int) : List Int := if 10 ^ 18 ≤ cell then [cell - 10 ^ 18, cell % 2305843009213693951, turn] else [0, cell % 2305843009213693951, turn]
def bagsR (ns : List Int) (m : Nat) : List (List Int) := (ns.take m ++ [0]).zipIdx.map fun (p : Int × Nat) => wellR p.1 (977 * (p.2 : Nat))

/-! ### fresh lists of ints, known only by their list -/
structure Bgs (g : Gh) (ρ : List Sl) (F H : Hp) (ps : List Addr) (bs : List (List Int)) : Prop where
  len : ps.length = bs.length
  nd : ps.Nodup
  at_ : ∀ (j : Nat) (p : Addr) (b : List Int), ps[j]? = some p → bs[j]? = some b → F p = none ∧ ¬ Own ρ p ∧ (g.H p = none ∨ g.O p) ∧ H p = some (.lst (b.map V.int))
  fr : ∀ p ∈ ps, F p = none ∧ ¬ Own ρ p ∧ (g.H p = none ∨ g.O p) ∧ H p ≠ none
theorem Bgs.nil {g : Gh} {ρ : List Sl} {F H : Hp} : Bgs g ρ F H [] [] := ⟨rfl, .nil, fun j p b h => by simp at h, fun p h => by cases h⟩
theorem Bgs.move {g : Gh} {ρ : List Sl} {F H F' H' : Hp} {ps : List Addr} {bs : List (List Int)} (B : Bgs g ρ F H ps bs) (h : ∀ p ∈ ps, F' p = none ∧ H' p = H p) : Bgs g ρ F' H' ps bs :=
  ⟨B.len, B.nd, fun j p b hp hb => by
    obtain ⟨a1, a2, a3, a4⟩ := B.at_ j p b hp hb
    obtain ⟨b1, b2⟩ := h p (List.mem_of_getElem? hp)
    exact ⟨b1, a2, a3, b2.trans a4⟩, fun p hp => by
    obtain ⟨a1, a2, a3, a4⟩ := B.fr p hp
    obtain ⟨b1, b2⟩ := h p hp
    exact ⟨b1, a2, a3, by rw [b2]; exact a4⟩⟩
theorem Bgs.snoc {g : Gh} {ρ : List Sl} {F H : Hp} {ps : List Addr} {bs : List (List Int)} {p : Addr} {b : List Int} (B : Bgs g ρ F H ps bs) (hp : p ∉ ps) (h1 : F p = none) (h2 : ¬ Own ρ p) (h3 : g.H p = none ∨ g.O p) (h4 : H p = some (.lst (b.map V.int))) : Bgs g ρ F H (ps ++ [p]) (bs ++ [b]) := by
  refine ⟨by rw [List.length_append, List.length_append, B.len]; rfl, ?_, fun j q c hq hc => ?_, fun q hq => ?_⟩
  · rw [List.nodup_append]
    refine ⟨B.nd, by simp, fun a ha b hb => ?_⟩
    rw [List.mem_singleton.mp hb]
    exact fun e => hp (e ▸ ha)
  · by_cases hj : j < ps.length
    · rw [List.getElem?_append_left hj] at hq
      rw [List.getElem?_append_left (by rw [← B.len]; exact hj)] at hc
      exact B.at_ j q c hq hc
    · rw [List.getElem?_append_right (by omega)] at hq
      rw [List.getElem?_append_right (by rw [← B.len]; omega)] at hc
      rw [← B.len] at hc
      cases e : j - ps.length with
      | zero =>
        rw [e] at hq hc
        cases hq
        cases hc
        exact ⟨h1, h2, h3, h4⟩
      | succ n => rw [e] at hq; simp at hq
  · rcases List.mem_append.mp hq with z | z
    · exact B.fr q z
    · rw [List.mem_singleton.mp z]
      exact ⟨h1, h2, h3, by rw [h4]; exact fun w => by cases w⟩

/-- _law_bags: raw script, how many -/
def spBags (K : PySem.W.Frag) : Sp := fun vs H Q _ => ∃ (a : Addr) (ns : List Int) (m : Nat), vs = [.ref a, .int (m : Int)] ∧ SqL K H a (ns.map V.int) ∧ m ≤ 1000 ∧ ns.length ≤ 1000 ∧
  ∀ (A : Addr) (ps : List Addr) (F' H' : Hp), Same F' H' → Same H H' → F' A = none → H A = none → A ∉ ps → H' A = some (.lst (ps.map V.ref)) → Bgs ⟨fun _ => none, H, fun _ => False⟩ [] F' H' ps (bagsR ns m) → Q (.ref A) H'

section
variable {g : Gh} {X : Cx} {ρ ρ1 ρ2 ρ3 : List Sl} {pos p p2 : Pos} {a b : Expr} {k : Nat}
/-- a slice of a list known by its address only -/
theorem df_slR {lo hi : Option Expr} {ol oh : Option Int} {l : Addr} {vs : List V} {ds : List Pd} (hS : ∀ F H σ, Sg g F H σ ρ3 → SqL X.K H l vs) (hds : ∀ F, DaL F ds vs) (hz : vs.length ≤ 16777216) (ha : DE g X a ρ (.r (.ref l)) ρ1) (hl : DO g X lo ρ1 ol ρ2) (hh : DO g X hi ρ2 oh ρ3) :
    DF g X (.Subscript a (.Slice lo hi none p2) pos) ρ (.lst (cutP ds ol oh)) ρ3 :=
  pe_mono (pe_slice sl_list ha hl hh) fun σ H Q ⟨F, S, q⟩ => ⟨F, S, fun v F1 H1 S1 k1 av => ⟨F1, S1, fun F2 H2 S2 k2 => ⟨F2, S2, fun F3 H3 S3 k3 => by
    cases (show v = _ from av)
    exact ⟨l, vs, rfl, hS F3 H3 σ S3, new_lst S3 (fun p h F' H' S' k' => q p h F' H' S' (k1.trans (k2.trans (k3.trans k')))) (by rw [sizeLine_eq]; exact Nat.le_trans (cutV_length _ _ _) hz) (cutP_da (hds F3) ol oh)⟩⟩⟩⟩
/-- a comprehension whose elements are fresh lists of ints: the list and its items, none of them own -/
def tBags (g : Gh) (ρ : List Sl) (bs : List (List Int)) (ρ' : List Sl) : TE := fun σ H Q => ∃ F, Sg g F H σ ρ ∧ ∀ A ps F' H', Sg g F' H' σ ρ' → Same F F' → F' A = none → ¬ Own ρ' A → (g.H A = none ∨ g.O A) → A ∉ ps → H' A = some (.lst (ps.map V.ref)) → Bgs g ρ' F' H' ps bs → Q (.ref A) H'
theorem pe_lcBags {elt tg iter : Expr} {scope : Scope} {own : List (Str × Nat)} {ds : List Pd} {bind : Pd → List Sl → Option (List Sl)} {ix : List Nat} (hX : XO k X) (hi : DI g X tg iter ρ ds ρ1) (ok : BlkOk X.N X.env.scope scope own)
    (hg : ∀ (s : Shared) (H : Hp) (C : Addr) (cl : List (Str × Addr)) (fp : List Addr), DG (blkOf X scope s H C cl fp) tg bind ix) (hix : ∀ i ∈ ix, i ∈ own.map (·.2)) (f : Nat → List Int) (out : Nat → List (List Int)) (h0 : out 0 = []) (hout : ∀ i, i < ds.length → out (i + 1) = out i ++ [f i])
    (turn : ∀ i d, ds[i]? = some d → ∃ ρb, bind d (wp ρ1 (own.map (·.2))) = some ρb ∧ (∀ i s, i ∉ own.map (·.2) → ρ1[i]? = some s → ρb[i]? = some s) ∧ (∀ q, Own ρb q → Own ρ1 q) ∧ (∀ q, Own ρb q → Own (wp ρ1 (own.map (·.2))) q) ∧
      (∀ g' s H C cl fp, DF g' (blkOf X scope s H C cl fp) elt ρb (.lst ((f i).map .int)) ρb))
    (hs : ∀ x, foldedSetIterable iter X.env x = pure x := by intro _; rfl) : PE X (.ListComp elt [⟨tg, iter, [], 0⟩] scope pos) (tBags g ρ (out ds.length) ρ1) := by
  refine pe_mono (pe_lc (own := own) (te := tAnyBE X scope elt) (tt := tAnyBT X scope []) (g := tDGr bind ix) hX.calm hX.nd hi ok (fun s H C cl fp => (hg s H C cl fp).pg) (fun s H C cl fp => pt_anyB s H C cl fp) (fun s H C cl fp => pe_anyB s H C cl fp) hs) fun σ H Q ⟨F, S, kk⟩ => ⟨F, S, fun J F1 H1 S1 k1 W A hA => ?_⟩
  have hz := W.small
  obtain ⟨S1', fA, nA, gA⟩ := S1.newO hA (o := .lst [])
  refine ⟨fun i m H => m = ds.length - i ∧ i ≤ ds.length ∧ ∃ F ps, Sg g F H σ ρ1 ∧ Same F1 F ∧ F A = none ∧ H A = some (.lst (ps.map V.ref)) ∧ ps.length ≤ i ∧ A ∉ ps ∧ Bgs g ρ1 F H ps (out i), ⟨ds.length, by simp, Nat.zero_le _, F1, [], S1', Same.refl _, fA, upd_same, Nat.zero_le _, by simp, by rw [h0]; exact .nil⟩, ?_⟩
  rintro i m H2 ⟨rfl, hle, F2, ps2, S2, k2, f2, hH2, hl2, nA2, B2⟩
  by_cases hlt : i < ds.length
  · refine .inr ⟨W.goes i F2 H2 hlt k2 S2.st.sub, fun H' => ∃ F' ps', Sg g F' H' σ ρ1 ∧ Same F1 F' ∧ F' A = none ∧ H' A = some (.lst (ps'.map V.ref)) ∧ ps'.length ≤ i + 1 ∧ A ∉ ps' ∧ Bgs g ρ1 F' H' ps' (out (i + 1)), fun H' q => ⟨ds.length - (i + 1), by omega, rfl, hlt, q⟩, fun v H' y => ?_⟩
    obtain ⟨d, F3, hd, gr, a⟩ := W.yields i F2 H2 v H' hlt k2 S2.st.sub y
    obtain ⟨S3, k3⟩ := S2.growth gr
    have far : ∀ q, H2 q ≠ none → F2 q = none → F3 q = none ∧ H' q = H2 q := fun q hq fq => by
      obtain ⟨x, y⟩ := gr.far hq
      exact ⟨x.trans fq, y⟩
    have f3 : F3 A = none ∧ H' A = some (.lst (ps2.map V.ref)) := by
      obtain ⟨x, y⟩ := far A (by rw [hH2]; exact fun z => by cases z) f2
      exact ⟨x, y.trans hH2⟩
    have B3 : Bgs g ρ1 F3 H' ps2 (out i) := B2.move fun q hq => far q (B2.fr q hq).2.2.2 (B2.fr q hq).1
    obtain ⟨ρb, eb, hbs, hob, hob2, he⟩ := turn i d hd
    have Sw : Sg ⟨F3, H', DL.Own (wp ρ1 (own.map (·.2)))⟩ F3 H' (L2.wipe σ (own.map (·.2))) (wp ρ1 (own.map (·.2))) := (S3.wipe _).sg
    have nw : ∀ q, ¬ DL.Own ρ1 q → ¬ DL.Own (wp ρ1 (own.map (·.2))) q := fun q h z => h ((wp_wk ρ1 _).own z)
    refine ⟨F3, _, _, d, ρb, Sw, a, eb, fun σ4 S4 l4 o4 => ⟨?_, ?_⟩⟩
    · have e1 : L2.wipe σ4 (own.map (·.2)) = L2.wipe (L2.wipe σ (own.map (·.2))) (own.map (·.2)) := wipe_eq l4 fun j hj => o4 j fun z => hj (hix j z)
      rw [e1, wipe_wipe]
    have hl4 : ∀ j, j ∉ own.map (·.2) → σ4[j]? = σ[j]? := fun j hj => by rw [o4 j fun z => hj (hix j z), wipe_out hj]
    refine ⟨_, fun _ _ _ _ _ => dts_nil (g := ⟨F3, H', DL.Own (wp ρ1 (own.map (·.2)))⟩) (ρ := ρb), F3, S4, fun F5 H5 S5 k5 => iteT ⟨_, he _, F5, S5, fun p h F6 H6 S6 k6 fn no gn hh oa => ?_⟩⟩
    have S6' : Sg g F6 H6 σ ρ1 := S3.unwipe S6 hl4 hbs hob
    obtain ⟨us, eh, z, dl⟩ := oa
    have eu := dl.ints
    subst eh eu
    have keep : ∀ q, H' q ≠ none → F3 q = none → ¬ DL.Own ρ1 q → F6 q = none ∧ H6 q = H' q := fun q h1 h2 h3 => by
      obtain ⟨x, y, _⟩ := S6.xt.rest q h1 h2 (nw q h3)
      exact ⟨x, y⟩
    obtain ⟨a7, b7⟩ := keep A (by rw [f3.2]; exact fun z => by cases z) f3.1 nA
    have b7' : H6 A = some (.lst (ps2.map V.ref)) := b7.trans f3.2
    have hH'p : H' p = none := by
      rcases gn with w | w
      · exact w
      · exact Classical.byContradiction fun hne => by
          obtain ⟨q1, q2⟩ := S3.st.ownF ((wp_wk ρ1 _).own w)
          have : DL.Own ρb p := by
            obtain ⟨i', o', hi', hu'⟩ := of_own w
            rcases wp_get hi' with z | ⟨z, nz⟩
            · subst z; cases hu'
            · exact own_at (hbs i' _ nz z) hu' 
          exact no this
    have hpA : p ≠ A := fun e => by rw [e, f3.2] at hH'p; cases hH'p
    have hp2 : p ∉ ps2 := fun hm => (B3.fr p hm).2.2.2 hH'p
    have hpo : ¬ DL.Own ρ1 p := fun z => (S3.st.ownF z).2 hH'p
    have hpg : g.H p = none ∨ g.O p := (fresh_own (F' := F3) (H' := H') S3 hH'p).2
    have B6 : Bgs g ρ1 F6 H6 ps2 (out i) := B3.move fun q hq => keep q (B3.fr q hq).2.2.2 (B3.fr q hq).1 (B3.fr q hq).2.1
    have B7 := B6.snoc (b := f i) hp2 fn hpo hpg hh
    have hu : ∀ q, q ≠ A → upd H6 A (.lst (ps2.map V.ref ++ [V.ref p])) q = H6 q := fun q hq => upd_ne hq
    have nA7 : A ∉ ps2 ++ [p] := fun hm => by
      rcases List.mem_append.mp hm with w | w
      · exact nA2 w
      · exact hpA (List.mem_singleton.mp w).symm
    refine ⟨ps2.map V.ref, b7', by rw [List.length_map]; exact Nat.lt_of_le_of_lt hl2 (Nat.lt_of_lt_of_le hlt hz), F6, ps2 ++ [p], ⟨S6'.st.grow (Same.refl _) (fun b x e => ?_) fun q hq => ?_, ⟨S6'.xt.same, fun q h1 h2 h3 => ?_⟩⟩, k2.trans (k3.trans (k5.trans k6)), a7, by rw [upd_same, List.map_append]; rfl, by rw [List.length_append, List.length_singleton]; omega, nA7, ?_⟩
    · have hb : b ≠ A := fun z => by rw [z, a7] at e; cases e
      rw [hu b hb]; exact S6'.st.sub _ _ e
    · have hq' : q ≠ A := fun z => nA (z ▸ hq)
      rw [hu q hq']; exact ⟨(S6'.st.ownF hq).1, rfl⟩
    · obtain ⟨x, y, z⟩ := S6'.xt.rest q h1 h2 h3
      have hq' : q ≠ A := fun w => by
        subst w
        rcases gA with w | w
        · exact h1 w
        · exact h3 w
      rw [hu q hq']; exact ⟨x, y, z⟩
    · rw [hout i hlt]
      exact B7.move fun q hq => ⟨(B7.fr q hq).1, hu q fun e => nA7 (e ▸ hq)⟩
  · have e : i = ds.length := by omega
    subst e
    exact .inl ⟨W.stops F2 H2 k2 S2.st.sub, kk A ps2 F2 H2 S2 (k1.trans k2) f2 nA gA nA2 hH2 B2⟩
end

/-! ### the bags of a script: the def -/
section
variable {P : Program} {w : World} {K : PySem.W.Frag} {mg : Str → Option Value} {base : Heap}
def rWell : List Pd → Rt → Prop := fun ds r => ∃ c t : Int, ds = [.int c, .int t] ∧ r = .o (.lst ((wellR c t).map .int))
theorem enumD_ints (xs : List Int) (i : Nat) (d : Pd) (h : (enumD (xs.map .int))[i]? = some d) : ∃ x, xs[i]? = some x ∧ d = .tuple [.int (i : Nat), .int x] := by
  unfold enumD at h
  rw [List.getElem?_map, List.getElem?_zipIdx, List.getElem?_map] at h
  cases e : xs[i]? with
  | none => rw [e] at h; simp at h
  | some x =>
    rw [e] at h
    simp at h
    exact ⟨x, rfl, h.symm⟩
/-- its body, read -/
theorem bags_body {X : Cx} {k : Nat} {g : Gh} {l : Addr} {ns : List Int} {m : Nat} {p1 p2 p3 p4 p5 p6 p7 p8 p9 p10 p11 p12 p13 p14 p15 p16 p17 p18 p19 : Pos} {k1 k2 n1 : Nat} {scope : Scope} (hX : XO k X) (hN : X.N = ([("script" : Str), "most", "k", "cell"] : List Str))
    (hv0 : Vis X.env.scope "script") (hv1 : Vis X.env.scope "most") (gE : Gl X "enumerate") (D : Dn X.prog X.w X.K X.mg X.base k "_law_well" (rP rWell))
    (hS : ∀ F H σ, Sg g F H σ [.raw (.ref l), .dat (.int (m : Int)), .any, .any] → SqL X.K H l (ns.map V.int)) (hm : m ≤ 1000) (hn : ns.length ≤ 1000)
    (ok : BlkOk ([("script" : Str), "most", "k", "cell"] : List Str) X.env.scope scope [("k", 2), ("cell", 3)])
    (hsc : ∀ s H C cl fp, (blkOf X scope s H C cl fp).env.scope.names.lookup ("k" : Str) = some .local ∧ (blkOf X scope s H C cl fp).env.scope.names.lookup ("cell" : Str) = some .local) (hgw : ∀ s H C cl fp, Gl (blkOf X scope s H C cl fp) "_law_well")
    (he : starEach [.BinOp (.Subscript (.Name "script" p11) (.Slice none (some (.Name "most" p12)) none p13) p14) .Add (.List [.Constant (.int 0) k2 p15] p16) p17] X.env = [(false, eval (.BinOp (.Subscript (.Name "script" p11) (.Slice none (some (.Name "most" p12)) none p13) p14) .Add (.List [.Constant (.int 0) k2 p15] p16) p17) X.env)] := by rfl) :
    PE X (.ListComp (.Call (.Name "_law_well" p1) [.Name "cell" p2, .BinOp (.Constant (.int 977) k1 p3) .Mult (.Name "k" p4) p5] [] p6)
      [⟨.Tuple [.Name "k" p7, .Name "cell" p8] n1 p9, .Call (.Name "enumerate" p10) [.BinOp (.Subscript (.Name "script" p11) (.Slice none (some (.Name "most" p12)) none p13) p14) .Add (.List [.Constant (.int 0) k2 p15] p16) p17] [] p18, [], 0⟩] scope p19)
      (tBags g [.raw (.ref l), .dat (.int (m : Int)), .any, .any] (bagsR ns m) [.raw (.ref l), .dat (.int (m : Int)), .any, .any]) := by
  have c1 : DF g X (.Subscript (.Name "script" p11) (.Slice none (some (.Name "most" p12)) none p13) p14) [.raw (.ref l), .dat (.int (m : Int)), .any, .any] (.lst (cutP (ns.map .int) none (some (m : Int)))) [.raw (.ref l), .dat (.int (m : Int)), .any, .any] :=
    df_slR hS (fun F => DaL.of_ints) (by rw [List.length_map]; omega) (de_raw 0 rfl (by rw [hN]; rfl) hv0) do_none (do_some (de_var 1 rfl (by rw [hN]; rfl) hv1))
  have c2 := df_cat (pos := p17) (de_new c1) (de_new (df_lst (pos := p16) (ds := [.int 0]) (da_cons (e := .Constant (.int 0) k2 p15) de_int da_nil rfl))) rfl rfl (by
    rw [cutP_to _ _ (Int.natCast_nonneg _)]
    show (List.take _ _).length + 1 ≤ _
    rw [List.length_take, List.length_map]
    omega)
  have e1 : cutP (ns.map PyData.int) none (some (m : Int)) ++ [.int 0] = (ns.take m ++ [0]).map .int := by
    rw [cutP_to _ _ (Int.natCast_nonneg _), Int.toNat_natCast, List.map_append, List.map_take]
    rfl
  rw [e1] at c2
  have c3 := di_enum (elts := [.Name "k" p7, .Name "cell" p8]) (n := n1) (tpos := p9) (p := p10) (pos := p18) hX (da_cons (de_new c2) da_nil he) rfl gE he
  have e2 : (enumD ((ns.take m ++ [0]).map PyData.int)).length = (ns.take m ++ [0]).length := by rw [enumD_length, List.length_map]
  have q := pe_lcBags (pos := p19) (elt := .Call (.Name "_law_well" p1) [.Name "cell" p2, .BinOp (.Constant (.int 977) k1 p3) .Mult (.Name "k" p4) p5] [] p6) (bind := bPair (bName 2) (bName 3)) (ix := [2] ++ [3]) hX c3 (by rw [hN]; exact ok)
    (fun s H C cl fp => dg_pair (k := k) (hX.blk _ _ _ _ _) (dg_name 2 (x := "k") hX.nd (by show X.N[2]? = _; rw [hN]; rfl) (.inl (hsc s H C cl fp).1) (.inr (hsc s H C cl fp).1)) (dg_name 3 (x := "cell") hX.nd (by show X.N[3]? = _; rw [hN]; rfl) (.inl (hsc s H C cl fp).2) (.inr (hsc s H C cl fp).2)))
    (own := [(("k" : Str), 2), (("cell" : Str), 3)]) (by decide) (fun i => wellR ((ns.take m ++ [0])[i]?.getD 0) (977 * (i : Nat))) (fun i => (bagsR ns m).take i) rfl (fun i hi => ?_) ?_
  · rw [e2] at q
    rw [List.take_of_length_le (by unfold bagsR; rw [List.length_map, List.length_zipIdx]; exact Nat.le_refl _)] at q
    exact q
  · rw [e2] at hi
    rw [List.take_add_one]
    unfold bagsR
    rw [List.getElem?_map, List.getElem?_zipIdx, List.getElem?_eq_getElem hi]
    simp
  · intro i d hd
    obtain ⟨x, hx, rfl⟩ := enumD_ints _ i d hd
    refine ⟨[.raw (.ref l), .dat (.int (m : Int)), .dat (.int (i : Nat)), .dat (.int x)], rfl, fun j s hj h => ?_, fun q hq => by simp [DL.Own, fps, fp] at hq, fun q hq => by simp [DL.Own, fps, fp] at hq, fun g' s H C cl fp => ?_⟩
    · rcases j with _ | _ | _ | _ | j
      · exact h
      · exact h
      · exact absurd (by decide) hj
      · exact absurd (by decide) hj
      · simp at h
    · have hb := hX.blk s H scope (compEnvC scope cl C X.env) fp
      rw [hx]
      refine df_callP (X := blkOf X scope s H C cl fp) [.int x, .int (977 * (i : Nat))] (show Dn X.prog X.w X.K X.mg X.base k "_law_well" (rP rWell) from D) hb (Nat.le_refl _) ?_ ⟨_, _, rfl, rfl⟩ (hgw _ _ _ _ _)
      refine da_cons (r := .d (.int x)) (de_var 3 rfl (by show X.N[3]? = _; rw [hN]; rfl) (.inl (hsc s H C cl fp).2)) (da_cons (r := .d (.int (977 * (i : Nat)))) ?_ da_nil)
      exact de_mulS (.inl (by decide)) de_int (de_var 2 rfl (by show X.N[2]? = _; rw [hN]; rfl) (.inl (hsc s H C cl fp).1))
end
end DL

set_option Elab.async false
set_option linter.all false
set_option maxRecDepth 100000
set_option maxHeartbeats 1000000
set_option autoImplicit false
/-! DL12: _law_bags, law: the rules for the defs. -/
namespace DL
open PySem PySem.Spec PyProof.Rows L2 LB

theorem rest_same {g : Gh} {F H : Hp} {σ : L2.St} {ρ : List Sl} (S : Sg g F H σ ρ) (hF : g.F = fun _ => none) (hO : g.O = fun _ => False) : Same g.H H := fun b o e => by
  obtain ⟨_, h, _⟩ := S.xt.rest b (by rw [e]; exact fun z => by cases z) (by rw [hF]) (by rw [hO]; exact id)
  rw [h]; exact e
section
variable {P : Program} {w : World} {K : PySem.W.Frag} {mg : Str → Option Value} {base : Heap}
theorem bags_ok {st : Stmt} {f : Addr} {fd : FuncData} {k : Nat} {p1 p2 p3 p4 p5 p6 p7 p8 p9 p10 p11 p12 p13 p14 p15 p16 p17 p18 p19 p20 : Pos} {k1 k2 n1 : Nat} {scope : Scope} (B : Bi mg) (Fn : Fun K "_law_bags" "_law_bags" st f fd) (S : FnScope ["script", "most", "k", "cell"] ["script", "most"] (defScope st))
    (hb : defBody st = [.Return (some (.ListComp (.Call (.Name "_law_well" p1) [.Name "cell" p2, .BinOp (.Constant (.int 977) k1 p3) .Mult (.Name "k" p4) p5] [] p6)
      [⟨.Tuple [.Name "k" p7, .Name "cell" p8] n1 p9, .Call (.Name "enumerate" p10) [.BinOp (.Subscript (.Name "script" p11) (.Slice none (some (.Name "most" p12)) none p13) p14) .Add (.List [.Constant (.int 0) k2 p15] p16) p17] [] p18, [], 0⟩] scope p19)) p20])
    (D : Dn P w K mg base k "_law_well" (rP rWell))
    (h : ∀ cdv A outer s H E, (Vis (cxF P w K mg base ["script", "most", "k", "cell"] "_law_bags" (defScope st) f cdv A outer s H E).env.scope "script" ∧ Vis (cxF P w K mg base ["script", "most", "k", "cell"] "_law_bags" (defScope st) f cdv A outer s H E).env.scope "most" ∧
      Gl (cxF P w K mg base ["script", "most", "k", "cell"] "_law_bags" (defScope st) f cdv A outer s H E) "enumerate" ∧ BlkOk ([("script" : Str), "most", "k", "cell"] : List Str) (cxF P w K mg base ["script", "most", "k", "cell"] "_law_bags" (defScope st) f cdv A outer s H E).env.scope scope [("k", 2), ("cell", 3)]) ∧
      (∀ s' H' C cl fp, ((blkOf (cxF P w K mg base ["script", "most", "k", "cell"] "_law_bags" (defScope st) f cdv A outer s H E) scope s' H' C cl fp).env.scope.names.lookup ("k" : Str) = some .local ∧
        (blkOf (cxF P w K mg base ["script", "most", "k", "cell"] "_law_bags" (defScope st) f cdv A outer s H E) scope s' H' C cl fp).env.scope.names.lookup ("cell" : Str) = some .local) ∧ Gl (blkOf (cxF P w K mg base ["script", "most", "k", "cell"] "_law_bags" (defScope st) f cdv A outer s H E) scope s' H' C cl fp) "_law_well") ∧
      starEach [.BinOp (.Subscript (.Name "script" p11) (.Slice none (some (.Name "most" p12)) none p13) p14) .Add (.List [.Constant (.int 0) k2 p15] p16) p17] (cxF P w K mg base ["script", "most", "k", "cell"] "_law_bags" (defScope st) f cdv A outer s H E).env =
        [(false, eval (.BinOp (.Subscript (.Name "script" p11) (.Slice none (some (.Name "most" p12)) none p13) p14) .Add (.List [.Constant (.int 0) k2 p15] p16) p17) (cxF P w K mg base ["script", "most", "k", "cell"] "_law_bags" (defScope st) f cdv A outer s H E).env)]) :
    FnOk P w K mg base CX0 (k + 1) f fd ["script", "most"] (spBags K) := by
  refine Fn.ok S (fun vs H Q E q => ?_) fun cdv A outer s H vs Q E hr q => ?_
  · obtain ⟨a, ns, m, rfl, _⟩ := q
    rfl
  · obtain ⟨a, ns, m, rfl, hS, hm, hn, q⟩ := q
    have hX : XO k (cxF P w K mg base ["script", "most", "k", "cell"] "_law_bags" (defScope st) f cdv A outer s H E) := ⟨rfl, hr, S.nd, B, PassesOwn.never⟩
    obtain ⟨⟨v0, v1, gE, ok⟩, hs, he⟩ := h cdv A outer s H E
    rw [hb]
    refine ⟨_, pss_one (ps_ret (bags_body (g := ⟨fun _ => none, H, fun _ => False⟩) (l := a) (ns := ns) (m := m) hX rfl v0 v1 gE D (fun F H' σ S' => (rest_same S' rfl rfl).seq hS) hm hn ok (fun s' H' C cl fp => (hs s' H' C cl fp).1) (fun s' H' C cl fp => (hs s' H' C cl fp).2) he)), ?_⟩
    refine ⟨fun _ => none, ⟨⟨fun b o e => (nomatch e), rfl, fun i s hi => ?_, fun i j p o o' hi _ hp => ?_⟩, ⟨Same.refl _, fun p a b c => ⟨rfl, rfl, fun z => ?_⟩⟩⟩, fun A' ps F' H' S' k' fA nA gA nps hA hB => ?_⟩
    · rcases i with _ | _ | _ | _ | i
      · cases hi; exact ⟨_, rfl, rfl⟩
      · cases hi; exact ⟨_, rfl, _, rfl, rfl⟩
      · cases hi; exact ⟨_, rfl, trivial⟩
      · cases hi; exact ⟨_, rfl, trivial⟩
      · cases hi
    · rcases i with _ | _ | _ | _ | i <;> first | (cases hi; cases hp) | cases hi
    · simp [DL.Own, fps, fp] at z
    · exact q A' ps F' H' S'.st.sub (rest_same S' rfl rfl) fA (gA.resolve_right id) nps hA ⟨hB.len, hB.nd, fun j p b hp hb => let ⟨x, _, y, z⟩ := hB.at_ j p b hp hb; ⟨x, (fun q => nomatch q), y, z⟩, fun p hp => let ⟨x, _, y, z⟩ := hB.fr p hp; ⟨x, (fun q => nomatch q), y, z⟩⟩

/-! ### law(script) -/
def spLaw (K : PySem.W.Frag) (n : Nat) : Sp := fun vs H Q _ => ∃ (a : Addr) (ns : List Int), vs = [.ref a] ∧ SqL K H a (ns.map V.int) ∧ ns.length ≤ n ∧ ∀ H', Q (.bl true) H'
structure DnB (P : Program) (w : World) (K : PySem.W.Frag) (mg : Str → Option Value) (base : Heap) (k : Nat) : Prop where
  ex : ∃ (f : Addr) (fd : FuncData) (ps : List Str), FnOk P w K mg base CX0 k f fd ps (spBags K) ∧ mg "_law_bags" = some (.ref f) ∧ PySem.W.keepIn K (.ref f) = true ∧ Binds K fd ps []
theorem get_any {n i : Nat} {s : Sl} (h : (List.replicate n Sl.any)[i]? = some s) : s = .any := by
  rw [List.getElem?_replicate] at h
  split at h
  · exact (Option.some.inj h).symm
  · cases h
theorem bagsR_mem {ns : List Int} {m : Nat} {b : List Int} (h : b ∈ bagsR ns m) : ∃ (c : Int) (j : Nat), b = wellR c (977 * (j : Nat)) ∧ j ≤ m := by
  unfold bagsR at h
  obtain ⟨⟨c, j⟩, hp, rfl⟩ := List.mem_map.mp h
  refine ⟨c, j, rfl, ?_⟩
  have := List.snd_lt_of_mem_zipIdx hp
  simp only [List.length_append, List.length_take, List.length_singleton] at this
  omega
theorem bagsR_len {ns : List Int} {m : Nat} {b : List Int} (h : b ∈ bagsR ns m) : b.length = 3 := by
  obtain ⟨c, j, rfl, _⟩ := bagsR_mem h
  unfold wellR
  split <;> rfl
theorem fps_any_set {n ib : Nat} {p q : Addr} {o : Ow} (h : Own ((List.replicate n Sl.any).set ib (.own p o)) q) : q = p := by
  rcases own_set h with z | z
  · exact List.mem_singleton.mp z
  · exact absurd z (by show ¬ q ∈ fps _; rw [fps_any]; exact List.not_mem_nil)
theorem law_ok {st : Stmt} {f : Addr} {fd : FuncData} {N : List Str} {k n m ib : Nat} {p1 p2 p3 p4 p5 p6 : Pos} {k1 : Nat} {body rest : List Stmt} (B : Bi mg) (Fn : Fun K "law" "law" st f fd) (S : FnScope N ["script"] (defScope st))
    (hb : defBody st = .For (.Name "bag" p1) (.Call (.Name "_law_bags" p2) [.Name "script" p3, .Constant (.int (m : Int)) k1 p4] [] p5) body [] p6 :: rest) (D : DnB P w K mg base k) (hib : N[ib]? = some ("bag" : Str)) (hm : m ≤ 1000) (hn : n ≤ 1000)
    (h : ∀ cdv A outer s H E, Gl (cxF P w K mg base N "law" (defScope st) f cdv A outer s H E) "_law_bags" ∧ Vis (cxF P w K mg base N "law" (defScope st) f cdv A outer s H E).env.scope "script" ∧ Loc (cxF P w K mg base N "law" (defScope st) f cdv A outer s H E).env.scope "bag" ∧
      (starEach [.Name "script" p3, .Constant (.int (m : Int)) k1 p4] (cxF P w K mg base N "law" (defScope st) f cdv A outer s H E).env = (false, eval (.Name "script" p3) (cxF P w K mg base N "law" (defScope st) f cdv A outer s H E).env) :: starEach [.Constant (.int (m : Int)) k1 p4] (cxF P w K mg base N "law" (defScope st) f cdv A outer s H E).env) ∧
      (starEach [.Constant (.int (m : Int)) k1 p4] (cxF P w K mg base N "law" (defScope st) f cdv A outer s H E).env = (false, eval (.Constant (.int (m : Int)) k1 p4) (cxF P w K mg base N "law" (defScope st) f cdv A outer s H E).env) :: starEach [] (cxF P w K mg base N "law" (defScope st) f cdv A outer s H E).env) ∧
      (backTo p5 (starEach [.Constant (.int (m : Int)) k1 p4] (cxF P w K mg base N "law" (defScope st) f cdv A outer s H E).env)).any (·.1) = false)
    (hbody : ∀ cdv A outer s H E (g : Gh) (p : Addr) (ns : List Int) (b : List Int), XO k (cxF P w K mg base N "law" (defScope st) f cdv A outer s H E) → b ∈ bagsR ns m →
      DSs g (cxF P w K mg base N "law" (defScope st) f cdv A outer s H E) body ((List.replicate N.length .any).set ib (.own p (.lst (b.map .int)))) (fun ρ => ρ.length = N.length) (fun _ _ => False))
    (hrest : ∀ cdv A outer s H E (g : Gh), XO k (cxF P w K mg base N "law" (defScope st) f cdv A outer s H E) → DSs g (cxF P w K mg base N "law" (defScope st) f cdv A outer s H E) rest (List.replicate N.length .any) (fun _ => False) (fun r _ => r = .d (.bool true))) :
    FnOk P w K mg base CX0 (k + 1) f fd ["script"] (spLaw K n) := by
  refine Fn.ok S (fun vs H Q E q => ?_) fun cdv A outer s H vs Q E hr q => ?_
  · obtain ⟨a, ns, rfl, _⟩ := q
    rfl
  · obtain ⟨a, ns, rfl, hS, hl, q⟩ := q
    have hX : XO k (cxF P w K mg base N "law" (defScope st) f cdv A outer s H E) := ⟨rfl, hr, S.nd, B, PassesOwn.never⟩
    obtain ⟨g1, v0, lb, s1, s2, s3⟩ := h cdv A outer s H E
    obtain ⟨fb, fdb, psb, FB, mB, kB, bB⟩ := D.ex
    have hpre : N[0]? = some ("script" : Str) := by
      have := S.pre
      cases N with
      | nil => cases this
      | cons x N => simp at this; simp [this]
    have hib' : ib < N.length := (List.getElem?_eq_some_iff.mp hib).1
    have hNpos : 0 < N.length := (List.getElem?_eq_some_iff.mp hpre).1
    rw [hb]
    refine ⟨_, pss_cons (ps_for hX.po hX.calm (pi_list (pe_call FB hr g1 mB kB bB .nil pass0 (pa_cons (pe_var hpre v0 (by decide) (by decide)) (pa_cons pe_int pa_nil s2) s1) (by decide) s1 s3)) (pg_name S.nd hib lb (.inl rfl)) (pss_any (X := cxF P w K mg base N "law" (defScope st) f cdv A outer s H E) (st := body))) (pss_any (X := cxF P w K mg base N "law" (defScope st) f cdv A outer s H E) (st := rest)), ?_⟩
    have hlen : ∀ {σ : L2.St}, σ = L2.start N [V.ref a] → σ.length = N.length := fun e => by rw [e]; unfold L2.start; simp; omega
    refine ⟨.ref a, rfl, a, ns, m, rfl, hS, hm, by omega, fun A' ps F' H' sub same fA nA nps hA hB => ?_⟩
    refine ⟨A', rfl, ⟨_, SqL.of hA⟩, ?_⟩
    refine for_list (K := K) (a := A') (xs := ps.map V.ref) (fun i σ H => σ.length = N.length ∧ H A' = some (.lst (ps.map V.ref)) ∧ ∀ (j : Nat) (p : Addr) (b : List Int), i ≤ j → ps[j]? = some p → (bagsR ns m)[j]? = some b → H p = some (.lst (b.map V.int))) ⟨hlen rfl, hA, fun j p b _ hp hb => (hB.at_ j p b hp hb).2.2.2⟩ (fun i σ H' _ ⟨_, h, _⟩ => SqL.of h) ?_ ?_
    · rintro i y σ H2 hi ⟨hl2, hA2, hr2⟩
      rw [List.getElem?_map] at hi
      obtain ⟨p, hp, rfl⟩ := Option.map_eq_some_iff.mp hi
      have hib3 : i < (bagsR ns m).length := by rw [← hB.len]; exact (List.getElem?_eq_some_iff.mp hp).1
      have hbe : (bagsR ns m)[i]? = some (bagsR ns m)[i] := List.getElem?_eq_getElem hib3
      have hHp := hr2 i p _ (Nat.le_refl _) hp hbe
      have hlb : ((bagsR ns m)[i].map V.int).length ≤ sizeLine := by
        rw [List.length_map]
        have : (bagsR ns m)[i].length = 3 := bagsR_len (List.getElem_mem hib3)
        rw [this]; decide
      refine ⟨_, hbody cdv A outer s H E ⟨fun _ => none, H2, DL.Own ((List.replicate N.length .any).set ib (.own p (.lst ((bagsR ns m)[i].map .int))))⟩ p ns _ hX (List.getElem_mem hib3), fun _ => none, ⟨⟨fun b o e => (nomatch e), by rw [List.length_set, List.length_set, List.length_replicate]; exact hl2, fun j t hj => ?_, fun j l q o o' hj hl q1 q2 => ?_⟩, Xt.refl⟩, fun σ3 F3 H3 ρ3 l3 S3 k3 => ?_, fun d v σ3 F3 H3 ρ3 z => z.elim⟩
      · by_cases e : ib = j
        · subst e
          rw [List.getElem?_set_self (by rw [List.length_replicate]; exact hib')] at hj
          cases hj
          exact ⟨_, List.getElem?_set_self (by rw [hl2]; exact hib'), rfl, rfl, _, hHp, _, rfl, hlb, DaL.of_ints⟩
        · rw [List.getElem?_set_ne e] at hj
          have hjl : j < N.length := by
            have := (List.getElem?_eq_some_iff.mp hj).1
            rwa [List.length_replicate] at this
          rw [get_any hj]
          exact ⟨_, List.getElem?_eq_getElem (by rw [List.length_set, hl2]; exact hjl), trivial⟩
      · have aux : ∀ {j : Nat} {o : Sl}, ((List.replicate N.length Sl.any).set ib (.own p (.lst ((bagsR ns m)[i].map .int))))[j]? = some o → q ∈ fp o → ib = j := fun {j o} hj ho => by
          by_cases e : ib = j
          · exact e
          · rw [List.getElem?_set_ne e] at hj
            rw [get_any hj] at ho
            cases ho
        exact (aux hj q1).symm.trans (aux hl q2)
      · have keep : ∀ q x, H2 q = some x → q ≠ p → H3 q = some x := fun q x hq hne => by
          obtain ⟨_, b1, _⟩ := S3.xt.rest q (by show H2 q ≠ none; rw [hq]; exact fun z => by cases z) rfl (fun z => hne (fps_any_set z))
          exact b1.trans hq
        refine ⟨S3.st.len.trans l3, keep A' _ hA2 (fun e => nps (e ▸ List.mem_of_getElem? hp)), fun j q b hj hq hb => keep q _ (hr2 j q b (by omega) hq hb) fun e => ?_⟩
        · subst e
          have := (List.getElem?_inj (i := i) (j := j) (List.getElem?_eq_some_iff.mp hp).1 hB.nd).mp (hp.trans hq.symm)
          omega
    · rintro σ H2 ⟨hl2, hA2, _⟩
      refine ⟨_, hrest cdv A outer s H E ⟨fun _ => none, H2, DL.Own (List.replicate N.length .any)⟩ hX, fun _ => none, ⟨⟨fun b o e => (nomatch e), by rw [List.length_replicate]; exact hl2, fun j t hj => ?_, fun j l q o o' hj hl q1 _ => by rw [get_any hj] at q1; cases q1⟩, Xt.refl⟩, fun σ3 F3 H3 ρ3 z => z.elim, fun d v σ3 F3 H3 ρ3 z S3 k3 av => ?_⟩
      · have hjl : j < N.length := by
          have := (List.getElem?_eq_some_iff.mp hj).1
          rwa [List.length_replicate] at this
        rw [get_any hj]
        exact ⟨_, List.getElem?_eq_getElem (by rw [hl2]; exact hjl), trivial⟩
      · subst z
        cases (show v = _ from av)
        exact q H3
end
end DL

set_option Elab.async false
set_option linter.all false
set_option maxRecDepth 100000
set_option maxHeartbeats 1000000
set_option autoImplicit false
/-! DL13: a def of the top, by its name. -/
namespace DL
open PySem PySem.Spec PyProof.Rows L2 LB
/-- the name holds this def -/
structure Top (K : PySem.W.Frag) (mg : Str → Option Value) (x : Str) (st : Stmt) (ps : List Str) : Prop where
  ex : ∃ (f : Addr) (fd : FuncData), Fun K x x st f fd ∧ mg x = some (.ref f) ∧ Binds K fd ps []
section
variable {P : Program} {w : World} {K : PySem.W.Frag} {mg : Str → Option Value} {base : Heap} {x : Str} {st : Stmt} {ps N : List Str} {k : Nat}
theorem Top.dn {R : RR} (T : Top K mg x st ps) (h : ∀ f fd, Fun K x x st f fd → FnOk P w K mg base CX0 k f fd ps (spD R)) : Dn P w K mg base k x R := by
  obtain ⟨f, fd, F, m, b⟩ := T.ex
  exact ⟨f, fd, ps, h f fd F, m, F.kp, b⟩
theorem Top.dnB {st : Stmt} (T : Top K mg "_law_bags" st ps) (h : ∀ f fd, Fun K "_law_bags" "_law_bags" st f fd → FnOk P w K mg base CX0 k f fd ps (spBags K)) : DnB P w K mg base k := by
  obtain ⟨f, fd, F, m, b⟩ := T.ex
  exact ⟨f, fd, ps, h f fd F, m, F.kp, b⟩
theorem top_mk {h : Heap} {f : Addr} {oc : Value} {od an : Option Addr} {osl : Array (Option Value)} {kV doc pm cdv ct : Value} (X : K.In h) (G : h.Ns mainGlobals mg) (a : PySem.W.nsIn K mainGlobals x = some (some (.ref f)))
    (l : K.lookup f = some ⟨oc, od, .func (PySem.W.fnOf x x (defArgs st) (defBody st) (defScope st) .none kV doc pm an cdv ct), osl⟩) (c : PySem.W.codeIn K cdv x = true) (k : PySem.W.keepIn K (.ref f) = true)
    (b : ∀ (kV doc pm : Value) (an : Option Addr) (cdv ct : Value) (us : List Value), us.length = ps.length → bindArgs (PySem.W.fnOf x x (defArgs st) (defBody st) (defScope st) .none kV doc pm an cdv ct) ⟨us, []⟩ = pure (ps.zip us)) : Top K mg x st ps :=
  ⟨f, _, fun_mk l c k, PySem.W.mg_of X G a, (fun_mk l c k).binds b⟩
/-- a def over data, from its body -/
theorem Top.okP {R : List Pd → Rt → Prop} (T : Top K mg x st ps) (B : Bi mg) (S : FnScope N ps (defScope st)) (hl : ∀ ds r, R ds r → ds.length = ps.length)
    (hb : ∀ (f : Addr) (cdv : Value) (A : Around) (outer : List Env) (s : Shared) (H : Hp) (E : XK) (g : Gh) (ds : List Pd) (r : Rt), XO k (cxF P w K mg base N x (defScope st) f cdv A outer s H E) → R ds r →
      DSs g (cxF P w K mg base N x (defScope st) f cdv A outer s H E) (defBody st) (ds.map .dat ++ List.replicate (N.length - ds.length) .any) (fun _ => r = .d .none) (fun r' _ => r' = r)) : Dn P w K mg base (k + 1) x (rP R) :=
  T.dn fun f _ Fn => fn_okP B Fn S hl fun cdv A outer s H E g ds r => hb f cdv A outer s H E g ds r
theorem Top.okB {R : Ow → List Pd → Rt → Ow → Prop} (T : Top K mg x st ps) (B : Bi mg) (S : FnScope N ps (defScope st)) (hl : ∀ o ds r o', R o ds r o' → ds.length + 1 = ps.length)
    (hb : ∀ (f : Addr) (cdv : Value) (A : Around) (outer : List Env) (s : Shared) (H : Hp) (E : XK) (g : Gh) (p : Addr) (o : Ow) (ds : List Pd) (r : Rt) (o' : Ow), XO k (cxF P w K mg base N x (defScope st) f cdv A outer s H E) → R o ds r o' →
      DSs g (cxF P w K mg base N x (defScope st) f cdv A outer s H E) (defBody st) (.own p o :: ds.map .dat ++ List.replicate (N.length - (ds.length + 1)) .any) (fun ρ => r = .d .none ∧ ρ[0]? = some (.own p o')) (fun r' ρ => r' = r ∧ ρ[0]? = some (.own p o'))) : Dn P w K mg base (k + 1) x (rB R) :=
  T.dn fun f _ Fn => fn_okB B Fn S hl fun cdv A outer s H E g p o ds r o' => hb f cdv A outer s H E g p o ds r o'
end
end DL

set_option Elab.async false
set_option linter.all false
set_option maxRecDepth 100000
set_option maxHeartbeats 1000000
set_option autoImplicit false
/-! DL14: len(set(t)) of ints; the head's end with the values of loose names. -/
namespace LB
/-- each once -/
def dd : List Int → List Int
  | [] => []
  | a :: l => if a ∈ dd l then dd l else a :: dd l
theorem mem_dd {x : Int} : ∀ {l : List Int}, x ∈ dd l ↔ x ∈ l
  | [] => by simp [dd]
  | a :: l => by
    unfold dd
    have ih := @mem_dd x l
    split
    · rename_i h
      rw [ih, List.mem_cons]
      constructor
      · exact .inr
      · rintro (rfl | h2)
        · exact mem_dd.mp h
        · exact h2
    · rw [List.mem_cons, List.mem_cons, ih]
theorem nodup_dd : ∀ l : List Int, (dd l).Nodup
  | [] => by simp [dd]
  | a :: l => by
    unfold dd
    split
    · exact nodup_dd l
    · rename_i h
      exact List.nodup_cons.mpr ⟨h, nodup_dd l⟩
theorem dd_len_le : ∀ l : List Int, (dd l).length ≤ l.length
  | [] => by simp [dd]
  | a :: l => by
    unfold dd
    have := dd_len_le l
    split
    · rw [List.length_cons]; omega
    · rw [List.length_cons, List.length_cons]; omega
theorem dd_len (l : List Int) : (dd l).length = l.length ↔ l.Nodup := by
  constructor
  · intro h
    induction l with
    | nil => exact .nil
    | cons a l ih =>
      unfold dd at h
      have := dd_len_le l
      split at h
      · rw [List.length_cons] at h; omega
      · rename_i hn
        rw [List.length_cons, List.length_cons] at h
        exact List.nodup_cons.mpr ⟨fun m => hn (mem_dd.mpr m), ih (by omega)⟩
  · intro h
    exact Nat.le_antisymm (dd_len_le l) (List.Nodup.length_le_of_subset h fun x hx => mem_dd.mpr hx)
theorem dd_unique {l ks : List Int} (h : ks.Nodup) (hm : ∀ k, k ∈ ks ↔ k ∈ l) : ks.length = (dd l).length :=
  Nat.le_antisymm (List.Nodup.length_le_of_subset h fun x hx => mem_dd.mpr ((hm x).mp hx)) (List.Nodup.length_le_of_subset (nodup_dd l) fun x hx => (hm x).mpr (mem_dd.mp hx))
end LB
namespace DL
open PySem PySem.Spec PyProof.Rows L2 LB
section
variable {X : Cx}
def tLenSetT (K : PySem.W.Frag) (ta : TE) : TE := fun σ H Q => ta σ H fun x H1 => ∃ (l : Addr) (ns : List Int), x = V.ref l ∧ SqT K H1 l (ns.map V.int) ∧ ns.length + 1 < scanBound ∧ Q (.int ((dd ns).length : Nat)) H1
theorem pe_lenSetT {a : Expr} {ta : TE} {p p2 q pos : Pos} (hc : X.calm = true) (hg : Gl X "len") (hm : X.mg "len" = none) (hg2 : Gl X "set") (hm2 : X.mg "set" = none) (ha : PE X a ta)
    (na : starEach [a] X.env = (false, eval a X.env) :: starEach [] X.env := by rfl) : PE X (.Call (.Name "len" p) [.Call (.Name "set" p2) [a] [] q] [] pos) (tLenSetT X.K ta) := by
  refine ⟨fun pins s σ H Q I h => ?_⟩
  refine Call_ (ld_blt I hg hm PySem.boot_len ?_)
  refine PyProof.Rows.callWith_builtin1 (PyProof.Rows.args_cons ?_ rfl) rfl rfl
  refine Call_ (ld_blt I hg2 hm2 PyProof.Rows.boot_set ?_)
  refine PyProof.Rows.callWith_type1 (PyProof.Rows.args_cons (thn (ha.run pins s σ H _ I h) fun v s1 ⟨x, H1, I1, r1, q1⟩ => PyProof.Rows.args_nil ?_) na) na rfl
  obtain ⟨l, ns, rfl, hq, h1, q1⟩ := q1
  cases r1
  obtain ⟨its, r, pl, hz⟩ := I1.tuple hq
  refine L2.call_set_tupI ns (I1.ok.hd hc) (show s1.heap.IsTuple l its.toArray from pl) (by simpa using r.ints) h1 fun h' tk c hS hcn hk => ?_
  refine PyProof.Rows.args_nil ?_
  obtain ⟨o, es, ep, t, ho, hex, hd, _, hnd, hmem, hlt, hf, hn, _⟩ := hS
  have I2 : Inv X pins σ H1 { s1 with heap := h', toks := tk } := I1.kept hk
  have hc2 : es.size = (dd ns).length := by
    have := dd_unique (l := ns) hnd fun k => by rw [← hmem k]; exact ⟨of_decide_eq_true, decide_eq_true⟩
    rw [← this, List.length_map, Array.length_toList]
  have hsz : ns.length < 4096 := by
    have : scanBound = 4096 := rfl
    omega
  refine call_len_set ho hex hd hf (by rw [hn]; omega) ⟨.int ((dd ns).length : Nat), H1, I2.tok _, ⟨_, by rw [hc2]⟩, q1⟩
variable {g : Gh} {ρ ρ1 : List Sl} {a : Expr} {p p2 q pos : Pos} {k : Nat}
theorem de_lenSet {ns : List Int} {ds : List Pd} (hX : XO k X) (ha : DE g X a ρ (.d (.tuple ds)) ρ1) (hd : ds = ns.map .int) (hz : ns.length ≤ 4000) (hg : Gl X "len" := by rfl) (hg2 : Gl X "set" := by rfl)
    (na : starEach [a] X.env = (false, eval a X.env) :: starEach [] X.env := by rfl) : DE g X (.Call (.Name "len" p) [.Call (.Name "set" p2) [a] [] q] [] pos) ρ (.d (.int ((dd ns).length : Nat))) ρ1 :=
  pe_mono (pe_lenSetT hX.calm hg hX.bi.len hg2 hX.bi.set ha na) fun σ H Q ⟨F, S, k⟩ => ⟨F, S, fun v F1 H1 S1 k1 av => by
    subst hd
    obtain ⟨l, vs, e1, tf, z, dl⟩ := av
    have ew := dl.ints
    subst e1 ew
    exact ⟨l, ns, rfl, (tf.mono S1.st.sub).sq, by have : scanBound = 4096 := rfl; omega, k _ F1 H1 S1 k1 rfl⟩⟩
end

/-! ### the head's end -/
/-- walk_of, and what the loose names hold -/
theorem walk_ofX {l : PySem.W.OpenLaw} {n k : Nat} {q : Program} {loose : List Str} {lv : List (Str × PySem.W.WData)} {YP : World → Heap → Prop} {d : DefRec} {K : Params → PySem.W.Frag} {CX : World → CXT} {sp : World → Sp} {x : Str} {q2 : Program}
    (hn : l.most = some n) (hn2 : n ≤ sizeLine) (hdf : d.params.defaults = []) (hr : Room k callerA)
    (hY : ∀ (w : World) (h : Heap), YP w h → (K w.params).In h)
    (F : ∀ (w : World) (mg : Str → Option Value) (fa : Addr) (h : Heap), (K w.params).In h → h.Ns mainGlobals mg → mg d.name = some (.ref fa) → PySem.W.LooseAre lv mg h →
      ∃ fd : FuncData, (∀ (s : Shared) (u : Value), BindsTo s fd ⟨[u], []⟩ [(x, u)]) ∧
        ∀ base : Heap, (K w.params).In base → base.Ns mainGlobals mg → FnOk l.prog w (K w.params) mg base (CX w) k fa fd [x] (sp w))
    (hsp : ∀ (w : World) (H : Hp) (a : Addr) (ns : List Int), ns.length ≤ n → Only H → SqL (K w.params) H a (ns.map V.int) → sp w [.ref a] H (fun v _ => v = .bl true) fun _ _ _ => False)
    (hCX : ∀ (w : World) (H : Hp) (s : Shared) (e : Value) (s' : Shared), CX w [] H s (fun _ _ _ => False) e s' → False) :
    PySem.W.WalkO q loose (PySem.W.XL q2 lv) YP l.row.toRowW d [] (fun f vs => PySem.call f vs) := by
  refine Att.attach_call hn hdf fun w s₀ s₁ mg mb fa o pm cd doc a vs ns G Y ho hd hcd hmg hobj hints hlen hg => ?_
  have KX := hY w _ Y
  obtain ⟨fd, hb, hF⟩ := F w mg fa _ KX G.T.g hmg G.X.2
  exact law_call KX G.T.g G.T.b G.T.builtins G.T.nolimit hg hobj hints (Nat.le_trans hlen hn2) hr hF hb (fun H hO hS => hsp w H a ns hlen hO hS) fun H e s' => hCX w H s₁ e s'
/-- the name holds this number -/
def GlI (mg : Str → Option Value) (x : Str) (i : Int) : Prop := ∃ t, mg x = some (.int i t)
theorem gl_loose {lv : List (Str × PySem.W.WData)} {mg : Str → Option Value} {h : Heap} {x : Str} {i : Int} (L : PySem.W.LooseAre lv mg h) (hm : (x, PySem.W.WData.int i) ∈ lv) : GlI mg x i := by
  obtain ⟨v, a, b⟩ := L.val _ hm
  cases b
  exact ⟨_, a⟩
theorem gl_mk {K : PySem.W.Frag} {h : Heap} {mg : Str → Option Value} {x : Str} {i : Int} {t : Tok} (X : K.In h) (G : h.Ns mainGlobals mg) (a : PySem.W.nsIn K mainGlobals x = some (some (.int i t))) : GlI mg x i := ⟨t, PySem.W.mg_of X G a⟩
theorem de_gl {g : Gh} {X : Cx} {ρ : List Sl} {pos : Pos} {x : Str} {i : Int} (h : GlI X.mg x i) (hg : Gl X x := by rfl) (hd : (x == ("__debug__" : Str)) = false := by decide) : DE g X (.Name x pos) ρ (.d (.int i)) ρ := let ⟨_, e⟩ := h; de_glob e hg hd
end DL

set_option Elab.async false
set_option linter.all false
set_option maxRecDepth 100000
set_option maxHeartbeats 1000000
set_option autoImplicit false
/-! DL15: turns of comprehensions, in short. -/
namespace DL
open PySem PySem.Spec PyProof.Rows L2 LB
/-- the block's names, seen by computing -/
def blkChk (N : List Str) (sc scope : Scope) (own : List (Str × Nat)) : Bool :=
  decide (scope.kind = .function) && (scope.names.all fun y => decide (scope.names.lookup y.1 = some y.2)) && (own.all fun p => decide (N[p.2]? = some p.1)) &&
  (scope.names.all fun y => !decide (y.2 = .free) || decide (sc.names.lookup y.1 = some .cell) || decide (sc.names.lookup y.1 = some .free)) &&
  (scope.names.all fun y => !(decide (y.2 = .local) || decide (y.2 = .cell)) || decide (y.1 ∈ own.map (·.1)) || !decide (y.1 ∈ N))
theorem blk_mk {N : List Str} {sc scope : Scope} {own : List (Str × Nat)} (h : blkChk N sc scope own = true) : BlkOk N sc scope own := by
  unfold blkChk at h
  simp only [Bool.and_eq_true, List.all_eq_true, decide_eq_true_eq, Bool.or_eq_true, Bool.not_eq_true', decide_eq_false_iff_not, Bool.or_eq_false_iff] at h
  obtain ⟨⟨⟨⟨h1, h2⟩, h3⟩, h4⟩, h5⟩ := h
  refine ⟨h1, h2, h3, fun y hy e => ?_, fun y hy e => ?_⟩
  · rcases h4 y hy with (z | z) | z
    · exact absurd e z
    · exact .inl z
    · exact .inr z
  · rcases h5 y hy with (z | z) | z
    · rcases e with e | e
      · exact absurd e z.1
      · exact absurd e z.2
    · exact .inl z
    · exact .inr z
section
variable {X : Cx} {ρ : List Sl} {i j : Nat} {d e : Pd} {vs : List Nat} {scope : Scope} {ifs : List Expr} {elt : Expr} {p : Bool} {f : Pd}
theorem bind_pair (hi : i < ρ.length) (hj : j < ρ.length) (hvi : i ∈ vs) (hvj : j ∈ vs) :
    bPair (bName i) (bName j) (.tuple [d, e]) (wp ρ vs) = some (((wp ρ vs).set i (.dat d)).set j (.dat e)) ∧ (∀ l s, l ∉ vs → ρ[l]? = some s → (((wp ρ vs).set i (.dat d)).set j (.dat e))[l]? = some s) ∧ (∀ q, Own (((wp ρ vs).set i (.dat d)).set j (.dat e)) q → Own ρ q) := by
  refine ⟨?_, fun l s hl h => ?_, fun q hq => ?_⟩
  · unfold bPair bName
    simp only
    rw [if_pos (by rw [wp_length]; exact hi)]
    show (if j < ((wp ρ vs).set i (.dat d)).length then _ else _) = _
    rw [if_pos (by rw [List.length_set, wp_length]; exact hj)]
  · rw [List.getElem?_set_ne (fun e : j = l => hl (by rw [← e]; exact hvj)), List.getElem?_set_ne (fun e : i = l => hl (by rw [← e]; exact hvi)), wp_out hl]
    exact h
  · rcases own_set hq with z | z
    · cases z
    · rcases own_set z with z | z
      · cases z
      · exact (wp_wk ρ vs).own z
/-- a turn of [elt for x in ..] -/
theorem turn_name (hi : i < ρ.length) (hv : i ∈ vs) (ht : ∀ g' s H C cl fp, DTs g' (blkOf X scope s H C cl fp) ifs ((wp ρ vs).set i (.dat d)) p ((wp ρ vs).set i (.dat d)))
    (he : p = true → ∀ g' s H C cl fp, DE g' (blkOf X scope s H C cl fp) elt ((wp ρ vs).set i (.dat d)) (.d f) ((wp ρ vs).set i (.dat d))) :
    ∃ ρb, bName i d (wp ρ vs) = some ρb ∧ (∀ i s, i ∉ vs → ρ[i]? = some s → ρb[i]? = some s) ∧ (∀ q, Own ρb q → Own ρ q) ∧
      (∀ g' s H C cl fp, DTs g' (blkOf X scope s H C cl fp) ifs ρb p ρb) ∧ (p = true → ∀ g' s H C cl fp, DE g' (blkOf X scope s H C cl fp) elt ρb (.d f) ρb) :=
  let ⟨a, b, c⟩ := bind_name (d := d) hi hv; ⟨_, a, b, c, ht, he⟩
theorem turn_pair (hi : i < ρ.length) (hj : j < ρ.length) (hvi : i ∈ vs) (hvj : j ∈ vs) (ht : ∀ g' s H C cl fp, DTs g' (blkOf X scope s H C cl fp) ifs (((wp ρ vs).set i (.dat d)).set j (.dat e)) p (((wp ρ vs).set i (.dat d)).set j (.dat e)))
    (he : p = true → ∀ g' s H C cl fp, DE g' (blkOf X scope s H C cl fp) elt (((wp ρ vs).set i (.dat d)).set j (.dat e)) (.d f) (((wp ρ vs).set i (.dat d)).set j (.dat e))) :
    ∃ ρb, bPair (bName i) (bName j) (.tuple [d, e]) (wp ρ vs) = some ρb ∧ (∀ i s, i ∉ vs → ρ[i]? = some s → ρb[i]? = some s) ∧ (∀ q, Own ρb q → Own ρ q) ∧
      (∀ g' s H C cl fp, DTs g' (blkOf X scope s H C cl fp) ifs ρb p ρb) ∧ (p = true → ∀ g' s H C cl fp, DE g' (blkOf X scope s H C cl fp) elt ρb (.d f) ρb) :=
  let ⟨a, b, c⟩ := bind_pair (d := d) (e := e) hi hj hvi hvj; ⟨_, a, b, c, ht, he⟩
theorem turn_nameM (hi : i < ρ.length) (hv : i ∈ vs) (he : ∀ g' s H C cl fp, DE g' (blkOf X scope s H C cl fp) elt ((wp ρ vs).set i (.dat d)) (.d f) ((wp ρ vs).set i (.dat d))) :
    ∃ ρb, bName i d (wp ρ vs) = some ρb ∧ (∀ i s, i ∉ vs → ρ[i]? = some s → ρb[i]? = some s) ∧ (∀ q, Own ρb q → Own ρ q) ∧ (∀ g' s H C cl fp, DE g' (blkOf X scope s H C cl fp) elt ρb (.d f) ρb) :=
  let ⟨a, b, c⟩ := bind_name (d := d) hi hv; ⟨_, a, b, c, he⟩
theorem turn_pairM (hi : i < ρ.length) (hj : j < ρ.length) (hvi : i ∈ vs) (hvj : j ∈ vs) (he : ∀ g' s H C cl fp, DE g' (blkOf X scope s H C cl fp) elt (((wp ρ vs).set i (.dat d)).set j (.dat e)) (.d f) (((wp ρ vs).set i (.dat d)).set j (.dat e))) :
    ∃ ρb, bPair (bName i) (bName j) (.tuple [d, e]) (wp ρ vs) = some ρb ∧ (∀ i s, i ∉ vs → ρ[i]? = some s → ρb[i]? = some s) ∧ (∀ q, Own ρb q → Own ρ q) ∧ (∀ g' s H C cl fp, DE g' (blkOf X scope s H C cl fp) elt ρb (.d f) ρb) :=
  let ⟨a, b, c⟩ := bind_pair (d := d) (e := e) hi hj hvi hvj; ⟨_, a, b, c, he⟩
/-- [elt for tg in iter] -/
theorem dlcM {g : Gh} {ρ1 : List Sl} {pos : Pos} {α : Type} {k : Nat} {tg iter : Expr} {ds : List Pd} {bind : Pd → List Sl → Option (List Sl)} {ix : List Nat} (own : List (Str × Nat)) (em : α → Pd) (xs : List α) (f : α → Pd)
    (hX : XO k X) (hi : DI g X tg iter ρ ds ρ1) (hd : ds = xs.map em) (ok : BlkOk X.N X.env.scope scope own)
    (hg : ∀ (s : Shared) (H : Hp) (C : Addr) (cl : List (Str × Addr)) (fp : List Addr), DG (blkOf X scope s H C cl fp) tg bind ix) (hix : ∀ i ∈ ix, i ∈ own.map (·.2))
    (turn : ∀ x, x ∈ xs → ∃ ρb, bind (em x) (wp ρ1 (own.map (·.2))) = some ρb ∧ (∀ i s, i ∉ own.map (·.2) → ρ1[i]? = some s → ρb[i]? = some s) ∧ (∀ q, Own ρb q → Own ρ1 q) ∧ (∀ g' s H C cl fp, DE g' (blkOf X scope s H C cl fp) elt ρb (.d (f x)) ρb))
    (hs : ∀ x, foldedSetIterable iter X.env x = pure x := by intro _; rfl) : DLC g X (.ListComp elt [⟨tg, iter, [], 0⟩] scope pos) ρ (.lst (xs.map f)) ρ1 := by
  have q := dlc (pos := pos) own em xs (fun _ => true) f hX hi hd ok hg hix (fun x hx => let ⟨ρb, a, b, c, e⟩ := turn x hx; ⟨ρb, a, b, c, fun g' s H C cl fp => dts_nil, fun _ => e⟩) hs
  rw [List.filter_eq_self.mpr (fun _ _ => rfl)] at q
  exact q
theorem enumD_map {α : Type} (em : α → Pd) (xs : List α) : enumD (xs.map em) = xs.zipIdx.map fun p => PyData.tuple [.int (p.2 : Nat), em p.1] := by
  unfold enumD
  rw [List.zipIdx_map, List.map_map]
  rfl
theorem cutP_toN {α : Type} (xs : List α) (n : Nat) : cutP xs none (some (n : Int)) = xs.take n := by rw [cutP_to _ _ (Int.natCast_nonneg _), Int.toNat_natCast]
theorem cutP_fromN {α : Type} (xs : List α) (n : Nat) : cutP xs (some (n : Int)) none = xs.drop n := by rw [cutP_from _ _ (Int.natCast_nonneg _), Int.toNat_natCast]
theorem dt_k {g : Gh} {ρ1 : List Sl} {e : Expr} {b k : Bool} (hb : b = k) (h : DT g X e ρ b ρ1) : DT g X e ρ k ρ1 := hb ▸ h
theorem de_k {g : Gh} {ρ1 : List Sl} {e : Expr} {d d' : Pd} (hb : d = d') (h : DE g X e ρ (.d d) ρ1) : DE g X e ρ (.d d') ρ1 := hb ▸ h
theorem df_k {g : Gh} {ρ1 : List Sl} {e : Expr} {o o' : Ow} (hb : o = o') (h : DF g X e ρ o ρ1) : DF g X e ρ o' ρ1 := hb ▸ h
theorem dlc_k {g : Gh} {ρ1 : List Sl} {e : Expr} {o o' : Ow} (hb : o = o') (h : DLC g X e ρ o ρ1) : DLC g X e ρ o' ρ1 := hb ▸ h
theorem dw_k {g : Gh} {ρ1 : List Sl} {e : Expr} {b k : Bool} (hb : b = k) (h : DW g X e ρ b ρ1) : DW g X e ρ k ρ1 := hb ▸ h
/-- is it a number and no bool -/
def isInt (d : Pd) : Bool := isI "int" d && !isI "bool" d
theorem isInt_int (i : Int) : isInt (.int i) = true := by
  show ((tyN (.int i) == "int") || (tyN (.int i) == "bool" && "int" == "int")) && !((tyN (.int i) == "bool") || (tyN (.int i) == "bool" && "bool" == "int")) = true
  rw [show tyN (.int i) = "int" from rfl]
  decide
theorem isI_tup (ds : List Pd) : isI "tuple" (.tuple ds) = true := by
  show ((tyN (.tuple ds) == "tuple") || (tyN (.tuple ds) == "bool" && "tuple" == "int")) = true
  rw [show tyN (.tuple ds) = "tuple" from rfl]
  decide
end
end DL

set_option Elab.async false
set_option linter.all false
set_option maxRecDepth 100000
set_option maxHeartbeats 1000000
set_option autoImplicit false
/-! DL16: a, b = x, y with new objects; a comprehension of two clauses. -/
namespace DL
open PySem PySem.Spec PyProof.Rows L2 LB

/-! ### several values at once, some of them new own objects -/
def SlAre : Rt → Sl → Prop
  | .d d, s => s = .dat d
  | .o o, s => ∃ p, s = .own p o
  | .b f, s => ∃ p q l, s = .sem (f p q l)
def EAt (g : Gh) (ρ : List Sl) (F H : Hp) : List Rt → List V → List Sl → Prop
  | [], vs, ss => vs = [] ∧ ss = []
  | e :: es, vs, ss => ∃ v ws s ts, vs = v :: ws ∧ ss = s :: ts ∧ SlAre e s ∧ SlAt F H s (some v) ∧ (∀ p ∈ fp s, ¬ Own ρ p ∧ (g.H p = none ∨ g.O p) ∧ p ∉ fps ts) ∧ EAt g ρ F H es ws ts
def tDP (g : Gh) (ρ : List Sl) (es : List Rt) (ρ' : List Sl) : TA := fun σ H Q => ∃ F, Sg g F H σ ρ ∧ ∀ vs ss F' H', Sg g F' H' σ ρ' → Same F F' → EAt g ρ' F' H' es vs ss → Q vs H'
abbrev DP (g : Gh) (X : Cx) (es : List Expr) (ρ : List Sl) (rs : List Rt) (ρ' : List Sl) : Prop := PA X es (tDP g ρ rs ρ')
/-- one value, either kind -/
def tDR (g : Gh) (ρ : List Sl) (r : Rt) (ρ' : List Sl) : TE := fun σ H Q => ∃ F, Sg g F H σ ρ ∧ ∀ v s F' H', Sg g F' H' σ ρ' → Same F F' → SlAre r s → SlAt F' H' s (some v) → (∀ p ∈ fp s, ¬ Own ρ' p ∧ (g.H p = none ∨ g.O p)) → Q v H'
abbrev DR (g : Gh) (X : Cx) (e : Expr) (ρ : List Sl) (r : Rt) (ρ' : List Sl) : Prop := PE X e (tDR g ρ r ρ')
section
variable {g : Gh} {X : Cx} {ρ ρ1 ρ2 : List Sl} {e : Expr} {es : List Expr} {r : Rt} {rs : List Rt} {d : Pd} {o : Ow}
theorem dr_d (h : DE g X e ρ (.d d) ρ1) : DR g X e ρ (.d d) ρ1 := pe_mono h fun σ H Q ⟨F, S, q⟩ => ⟨F, S, fun v F1 H1 S1 k1 a => q v (.dat d) F1 H1 S1 k1 rfl ⟨v, rfl, a⟩ fun p hp => nomatch hp⟩
theorem dr_o (h : DF g X e ρ o ρ1) : DR g X e ρ (.o o) ρ1 := pe_mono h fun σ H Q ⟨F, S, q⟩ => ⟨F, S, fun p h F1 H1 S1 k1 fn no gn hh oa => q _ (.own p o) F1 H1 S1 k1 ⟨p, rfl⟩ ⟨rfl, fn, h, hh, oa⟩ fun q hq => by rw [List.mem_singleton.mp hq]; exact ⟨no, gn⟩⟩
theorem dp_nil : DP g X [] ρ [] ρ := pa_mono pa_nil fun σ H Q ⟨F, S, q⟩ => q [] [] F H S (Same.refl _) ⟨rfl, rfl⟩
theorem own_back {F H : Hp} {σ : L2.St} {p : Addr} (S : Sg g F H σ ρ) (h : Own ρ p) : g.H p = none ∨ g.O p := by
  by_cases h0 : g.H p = none
  · exact .inl h0
  · refine .inr (Classical.byContradiction fun ho => ?_)
    obtain ⟨f, _⟩ := S.st.ownF h
    obtain ⟨_, _, c⟩ := S.xt.rest p h0 (S.xt.same.free f) ho
    exact c h
theorem eat_back {F1 H1 : Hp} {σ : L2.St} (S1 : Sg g F1 H1 σ ρ1) {F2 H2 : Hp} : ∀ {rs : List Rt} {vs : List V} {ss : List Sl}, EAt ⟨F1, H1, Own ρ1⟩ ρ2 F2 H2 rs vs ss → EAt g ρ2 F2 H2 rs vs ss
  | [], _, _, h => h
  | _ :: rs, _, _, ⟨v, ws, s, ts, e1, e2, a, b, c, d⟩ => ⟨v, ws, s, ts, e1, e2, a, b, fun p hp => by
    obtain ⟨c1, c2, c3⟩ := c p hp
    refine ⟨c1, ?_, c3⟩
    rcases c2 with z | z
    · exact (fresh_own (F' := F1) (H' := H1) S1 z).2
    · exact own_back S1 z, eat_back S1 d⟩
theorem eat_own {F2 H2 : Hp} {p : Addr} : ∀ {rs : List Rt} {vs : List V} {ss : List Sl}, EAt g ρ2 F2 H2 rs vs ss → p ∈ fps ss → g.H p = none ∨ g.O p
  | [], _, _, h, hp => by
    obtain ⟨_, rfl⟩ := h
    cases hp
  | _ :: rs, _, _, ⟨v, ws, s, ts, e1, e2, a, b, c, d⟩, hp => by
    subst e2
    have hp' : p ∈ fp s ++ fps ts := hp
    rcases List.mem_append.mp hp' with z | z
    · exact (c p z).2.1
    · exact eat_own d z
theorem dp_cons (h : DR g X e ρ r ρ1) (hr : ∀ g', DP g' X es ρ1 rs ρ2) (hs : starEach (e :: es) X.env = (false, eval e X.env) :: starEach es X.env := by rfl) : DP g X (e :: es) ρ (r :: rs) ρ2 := by
  refine pa_mono (pa_cons h (t := fun σ H Q => ∃ g', tDP g' ρ1 rs ρ2 σ H Q) ⟨fun pos pins s σ H Q I ⟨g', q⟩ => (hr g').run pos pins s σ H Q I q⟩ hs) fun σ H Q ⟨F, S, q⟩ => ⟨F, S, fun v s F1 H1 S1 k1 ha sa so => ?_⟩
  refine ⟨⟨F1, H1, Own ρ1⟩, F1, ⟨S1.st, Xt.refl⟩, fun vs ss F2 H2 S2 k2 ea => ?_⟩
  have keep : ∀ p ∈ fp s, F2 p = none ∧ H2 p = H1 p ∧ ¬ Own ρ2 p ∧ H1 p ≠ none := fun p hp => by
    cases s with
    | own p' o' =>
      have e : p = p' := List.mem_singleton.mp hp
      subst e
      obtain ⟨_, fn, h0, hh, _⟩ := sa
      have hne : H1 p ≠ none := by rw [hh]; exact fun z => by cases z
      obtain ⟨x, y, z⟩ := S2.xt.rest p hne fn (so p hp).1
      exact ⟨x, y, z, hne⟩
    | any => cases hp
    | dat _ => cases hp
    | raw _ => cases hp
    | fz _ _ => cases hp
    | sem B =>
      obtain ⟨fn, hne⟩ := B.off sa.2 p hp
      obtain ⟨x, y, z⟩ := S2.xt.rest p hne fn (so p hp).1
      exact ⟨x, y, z, hne⟩
  refine q (v :: vs) (s :: ss) F2 H2 ⟨S2.st, S1.xt.trans S2.xt⟩ (k1.trans k2) ⟨v, vs, s, ss, rfl, rfl, ha, sa.grow k2 fun p hp => ⟨(keep p hp).1, (keep p hp).2.1⟩, fun p hp => ⟨(keep p hp).2.2.1, (so p hp).2, fun hm => ?_⟩, eat_back S1 ea⟩
  rcases eat_own ea hm with z | z
  · exact (keep p hp).2.2.2 z
  · exact (so p hp).1 z
variable {rest : List Stmt} {N : List Sl → Prop} {R : Rt → List Sl → Prop} {pos : Pos} {r1 r2 r3 : Rt}
/-- a, b = x, y -/
theorem dss_par2 (i j : Nat) {x y : Str} {a b : Expr} {px py pt pt2 : Pos} {kt k2 k3 : Nat} (hX : XO k2 X) (ha : DP g X [a, b] ρ [r1, r2] ρ1) (hr : ∀ s1 s2, SlAre r1 s1 → SlAre r2 s2 → DSs g X rest ((ρ1.set i s1).set j s2) N R) (hij : i ≠ j := by decide) (hi : X.N[i]? = some x := by rfl) (hj : X.N[j]? = some y := by rfl)
    (hx : X.env.scope.names.lookup x = some .local := by rfl) (hy : X.env.scope.names.lookup y = some .local := by rfl) (hli : i < ρ1.length := by exact Nat.le_of_ble_eq_true rfl) (hlj : j < ρ1.length := by exact Nat.le_of_ble_eq_true rfl)
    (hw : swappedStores [.Tuple [.Name x px, .Name y py] kt pt] (.Tuple [a, b] k3 pt2) X.env = pure (some [x, y]) := by rfl) (hs : swapsWithSole [.Tuple [.Name x px, .Name y py] kt pt] (.Tuple [a, b] k3 pt2) pos.line X.env = pure false := by rfl) :
    DSs g X (.Assign [.Tuple [.Name x px, .Name y py] kt pt] (.Tuple [a, b] k3 pt2) pos :: rest) ρ N R :=
  dss_cons (N' := fun ρ' => ∃ s1 s2, SlAre r1 s1 ∧ SlAre r2 s2 ∧ ρ' = (ρ1.set i s1).set j s2) (ps_mono (ps_par hX.calm hX.nd hi hj hij hx hy ha hw hs) fun D σ H ⟨F, S, k, _⟩ => ⟨F, S, fun vs ss F1 H1 S1 k1 ea => by
    obtain ⟨v, ws, s, ts, e1, e2, a1, b1, c1, w, us, t, qs, e3, e4, a2, b2, c2, e5, e6⟩ := ea
    subst e1 e2 e3 e4 e5 e6
    refine ⟨v, w, rfl, k _ F1 H1 _ ⟨s, t, a1, a2, rfl⟩ ?_ k1⟩
    have T1 := S1.set (s := s) hli b1 fun q hq => ⟨(c1 q hq).1, (c1 q hq).2.1⟩
    refine T1.set (s := t) (by rw [List.length_set]; exact hlj) b2 fun q hq => ⟨fun z => ?_, (c2 q hq).2.1⟩
    rcases own_set z with z | z
    · exact (c1 q z).2.2 (by show q ∈ fp t ++ fps []; exact List.mem_append_left _ hq)
    · exact (c2 q hq).1 z⟩) fun ρ2 ⟨s1, s2, h1, h2, e⟩ => by subst e; exact hr s1 s2 h1 h2
/-- a, b, c = x, y, z -/
theorem dss_par3 (i j l : Nat) {x y z : Str} {a b c : Expr} {px py pz pt pt2 : Pos} {kt k2 k3 : Nat} (hX : XO k2 X) (ha : DP g X [a, b, c] ρ [r1, r2, r3] ρ1) (hr : ∀ s1 s2 s3, SlAre r1 s1 → SlAre r2 s2 → SlAre r3 s3 → DSs g X rest (((ρ1.set i s1).set j s2).set l s3) N R)
    (hij : i ≠ j := by decide) (hil : i ≠ l := by decide) (hjl : j ≠ l := by decide) (hi : X.N[i]? = some x := by rfl) (hj : X.N[j]? = some y := by rfl) (hl : X.N[l]? = some z := by rfl)
    (hx : X.env.scope.names.lookup x = some .local := by rfl) (hy : X.env.scope.names.lookup y = some .local := by rfl) (hz : X.env.scope.names.lookup z = some .local := by rfl) (hli : i < ρ1.length := by exact Nat.le_of_ble_eq_true rfl) (hlj : j < ρ1.length := by exact Nat.le_of_ble_eq_true rfl) (hll : l < ρ1.length := by exact Nat.le_of_ble_eq_true rfl)
    (hw : swappedStores [.Tuple [.Name x px, .Name y py, .Name z pz] kt pt] (.Tuple [a, b, c] k3 pt2) X.env = pure (some [x, y, z]) := by rfl) (hs : swapsWithSole [.Tuple [.Name x px, .Name y py, .Name z pz] kt pt] (.Tuple [a, b, c] k3 pt2) pos.line X.env = pure false := by rfl) :
    DSs g X (.Assign [.Tuple [.Name x px, .Name y py, .Name z pz] kt pt] (.Tuple [a, b, c] k3 pt2) pos :: rest) ρ N R :=
  dss_cons (N' := fun ρ' => ∃ s1 s2 s3, SlAre r1 s1 ∧ SlAre r2 s2 ∧ SlAre r3 s3 ∧ ρ' = ((ρ1.set i s1).set j s2).set l s3) (ps_mono (ps_par3 hX.calm hX.nd hi hj hl hij hil hjl hx hy hz ha hw hs) fun D σ H ⟨F, S, k, _⟩ => ⟨F, S, fun vs ss F1 H1 S1 k1 ea => by
    obtain ⟨v, ws, s, ts, e1, e2, a1, b1, c1, w, us, t, qs, e3, e4, a2, b2, c2, w3, us3, t3, qs3, e5, e6, a3, b3, c3, e7, e8⟩ := ea
    subst e1 e2 e3 e4 e5 e6 e7 e8
    refine ⟨v, w, w3, rfl, k _ F1 H1 _ ⟨s, t, t3, a1, a2, a3, rfl⟩ ?_ k1⟩
    have T1 := S1.set (s := s) hli b1 fun q hq => ⟨(c1 q hq).1, (c1 q hq).2.1⟩
    have T2 := T1.set (s := t) (by rw [List.length_set]; exact hlj) b2 fun q hq => ⟨fun z => by
      rcases own_set z with z | z
      · exact (c1 q z).2.2 (by show q ∈ fp t ++ fps [t3]; exact List.mem_append_left _ hq)
      · exact (c2 q hq).1 z, (c2 q hq).2.1⟩
    refine T2.set (s := t3) (by rw [List.length_set, List.length_set]; exact hll) b3 fun q hq => ⟨fun z => ?_, (c3 q hq).2.1⟩
    rcases own_set z with z | z
    · exact (c2 q z).2.2 (by show q ∈ fp t3 ++ fps []; exact List.mem_append_left _ hq)
    · rcases own_set z with z | z
      · exact (c1 q z).2.2 (by show q ∈ fp t ++ (fp t3 ++ fps []); exact List.mem_append_right _ (List.mem_append_left _ hq))
      · exact (c3 q hq).1 z⟩) fun ρ2 ⟨s1, s2, s3, h1, h2, h3, e⟩ => by subst e; exact hr s1 s2 s3 h1 h2 h3
/-- for x in xs: what holds behind each part of it -/
theorem dss_for {α : Type} {k : Nat} {tg iter : Expr} {body : List Stmt} {ds : List Pd} {bind : Pd → List Sl → Option (List Sl)} {ix : List Nat} (em : α → Pd) (xs : List α) (I : List α → List Sl → Prop) (hX : XO k X) (hi : DI g X tg iter ρ ds ρ1) (hd : ds = xs.map em) (hg : DG X tg bind ix) (h0 : I [] ρ1)
    (hb : ∀ pre x post ρi, xs = pre ++ x :: post → I pre ρi → ∃ ρb, bind (em x) ρi = some ρb ∧ DSs g X body ρb (I (pre ++ [x])) R) (hend : ∀ ρ', I xs ρ' → DSs g X rest ρ' N R)
    (hs : ∀ x, foldedSetIterable iter X.env x = pure x := by intro _; rfl) : DSs g X (.For tg iter body [] pos :: rest) ρ N R := by
  subst hd
  refine dss_cons (N' := I xs) (ds_for hX hi hg (fun i ρ => I (xs.take i) ρ) h0 (fun i d ρi hd hI => ?_) (fun ρ' h => by rw [List.length_map, List.take_length] at h; exact h) hs) hend
  rw [List.getElem?_map] at hd
  obtain ⟨x, hx, rfl⟩ := Option.map_eq_some_iff.mp hd
  have hil := (List.getElem?_eq_some_iff.mp hx).1
  have e : xs = xs.take i ++ x :: xs.drop (i + 1) := by
    conv => lhs; rw [← List.take_append_drop i xs]
    rw [List.drop_eq_getElem_cons hil, (List.getElem?_eq_some_iff.mp hx).2]
  obtain ⟨ρb, eb, h⟩ := hb (xs.take i) x (xs.drop (i + 1)) ρi e hI
  refine ⟨ρb, eb, dss_imp h (fun ρ h => ⟨ρ, Wk.refl _, ?_⟩) fun _ _ z => z⟩
  rw [List.take_add_one, hx]
  exact h
/-- while c: .. -/
theorem dss_while {k : Nat} {c : Expr} {body : List Stmt} (hX : XO k X) (I : List Sl → Prop) (μ : List Sl → Nat) (h0 : I ρ)
    (hb : ∀ ρi, I ρi → ∃ b, DT g X c ρi b ρi ∧ (b = false → DSs g X rest ρi N R) ∧ (b = true → DSs g X body ρi (fun ρ' => I ρ' ∧ μ ρ' < μ ρi) R)) : DSs g X (.While c body [] pos :: rest) ρ N R :=
  dss_cons (N' := fun ρ' => DSs g X rest ρ' N R) (ds_while hX I μ h0 fun ρi hi => let ⟨b, h1, h2, h3⟩ := hb ρi hi; ⟨b, ρi, h1, h2, fun z => dss_imp (h3 z) (fun ρ' h => ⟨ρ', Wk.refl _, h⟩) fun _ _ z => z⟩) fun _ h => h
end
end DL

set_option Elab.async false
set_option linter.all false
set_option maxRecDepth 100000
set_option maxHeartbeats 1000000
set_option autoImplicit false
/-! DL17: a comprehension of two clauses. -/
namespace DL
open PySem PySem.Spec PyProof.Rows L2 LB
def tAnyBI (X : Cx) (scope : Scope) (tg iter : Expr) : TI := fun σ H R => ∃ t : TI, (∀ s H C cl fp, PI (blkOf X scope s H C cl fp) tg iter t) ∧ t σ H R
theorem pi_anyB {X : Cx} {scope : Scope} {tg iter : Expr} (s : Shared) (H : Hp) (C : Addr) (cl : List (Str × Addr)) (fp : List Addr) : PI (blkOf X scope s H C cl fp) tg iter (tAnyBI X scope tg iter) :=
  ⟨fun pins s σ H Q I ⟨t, h, q⟩ => (h _ _ _ _ _).run pins s σ H Q I q⟩
theorem flat_take {α : Type} {F : α → List Pd} {xs : List α} {i : Nat} {x : α} (h : xs[i]? = some x) : (xs.take (i + 1)).flatMap F = (xs.take i).flatMap F ++ F x := by
  rw [List.take_add_one, h, List.flatMap_append]
  simp
theorem flat_le {α : Type} {F : α → List Pd} {xs : List α} {i : Nat} : ((xs.take i).flatMap F).length ≤ (xs.flatMap F).length := by
  conv => rhs; rw [← List.take_append_drop i xs, List.flatMap_append, List.length_append]
  omega
theorem filt_take {β : Type} {p : β → Bool} {f : β → Pd} {ys : List β} {j : Nat} {y : β} (h : ys[j]? = some y) : ((ys.take (j + 1)).filter p).map f = ((ys.take j).filter p).map f ++ (if p y = true then [f y] else []) := by
  rw [List.take_add_one, h, List.filter_append, List.map_append]
  congr 1
  by_cases e : p y = true
  · simp [e]
  · simp [e]
theorem filt_le {β : Type} {p : β → Bool} {f : β → Pd} {ys : List β} {j : Nat} : (((ys.take j).filter p).map f).length ≤ ((ys.filter p).map f).length := by
  rw [List.length_map, List.length_map]
  conv => rhs; rw [← List.take_append_drop j ys, List.filter_append, List.length_append]
  omega
section
variable {g : Gh} {X : Cx} {ρ ρ1 : List Sl} {pos : Pos}
/-- a state without its surroundings grows -/
theorem Sat.growth {F H F' H' : Hp} {σ : L2.St} {ρ : List Sl} (S : Sat F H σ ρ) (k : Grow F H F' H') : Sat F' H' σ ρ ∧ Same F F' := let ⟨a, b⟩ := S.sg.growth k; ⟨a.st, b⟩
/-- an unowned object is written -/
theorem Sat.side {F H : Hp} {σ : L2.St} {ρ : List Sl} {A : Addr} {x : HO} (S : Sat F H σ ρ) (fa : F A = none) (na : ¬ Own ρ A) : Sat F (upd H A x) σ ρ :=
  S.grow (Same.refl _) (fun b o e => by
    have hb : b ≠ A := fun z => by rw [z, fa] at e; cases e
    rw [upd_ne hb]; exact S.sub _ _ e) fun q hq => by
    have hq' : q ≠ A := fun z => na (z ▸ hq)
    rw [upd_ne hq']; exact ⟨(S.ownF hq).1, rfl⟩
theorem Sg.side {F H : Hp} {σ : L2.St} {ρ : List Sl} {A : Addr} {x : HO} (S : Sg g F H σ ρ) (fa : F A = none) (na : ¬ Own ρ A) (ga : g.H A = none ∨ g.O A) : Sg g F (upd H A x) σ ρ :=
  ⟨S.st.side fa na, ⟨S.xt.same, fun q h1 h2 h3 => by
    obtain ⟨a, b, c⟩ := S.xt.rest q h1 h2 h3
    have hq' : q ≠ A := fun w => by
      subst w
      rcases ga with w | w
      · exact h1 w
      · exact h3 w
    rw [upd_ne hq']; exact ⟨a, b, c⟩⟩⟩
theorem dlc2 {α β : Type} {k : Nat} {elt tg iter tg1 iter1 : Expr} {ifs1 : List Expr} {scope : Scope} {bind bind1 : Pd → List Sl → Option (List Sl)} {ix ix1 : List Nat} (own : List (Str × Nat)) (vs1 : List Nat)
    (em : α → Pd) (xs : List α) (en : α → β → Pd) (ys : α → List β) (p : α → β → Bool) (f : α → β → Pd) (hX : XO k X) (hi : DI g X tg iter ρ (xs.map em) ρ1) (ok : BlkOk X.N X.env.scope scope own) (hv : ∀ i ∈ vs1, i ∈ own.map (·.2))
    (hg : ∀ (s : Shared) (H : Hp) (C : Addr) (cl : List (Str × Addr)) (fp : List Addr), DG (blkOf X scope s H C cl fp) tg bind ix) (hix : ∀ i ∈ ix, i ∈ own.map (·.2))
    (hg1 : ∀ (s : Shared) (H : Hp) (C : Addr) (cl : List (Str × Addr)) (fp : List Addr), DG (blkOf X scope s H C cl fp) tg1 bind1 ix1) (hix1 : ∀ i ∈ ix1, i ∈ vs1)
    (turn : ∀ x, x ∈ xs → ∃ ρb, bind (em x) (wp ρ1 (own.map (·.2))) = some ρb ∧ (∀ i s, i ∉ own.map (·.2) → ρ1[i]? = some s → ρb[i]? = some s) ∧ (∀ q, DL.Own ρb q → DL.Own (wp ρ1 (own.map (·.2))) q) ∧
      (∀ g' s H C cl fp, DI g' (blkOf X scope s H C cl fp) tg1 iter1 ρb ((ys x).map (en x)) ρb) ∧
      ∀ y, y ∈ ys x → ∃ ρc, bind1 (en x y) (wp ρb vs1) = some ρc ∧ (∀ i s, i ∉ vs1 → ρb[i]? = some s → ρc[i]? = some s) ∧ (∀ q, DL.Own ρc q → DL.Own (wp ρb vs1) q) ∧
        (∀ g' s H C cl fp, DTs g' (blkOf X scope s H C cl fp) ifs1 ρc (p x y) ρc) ∧ (p x y = true → ∀ g' s H C cl fp, DE g' (blkOf X scope s H C cl fp) elt ρc (.d (f x y)) ρc))
    (hz : (xs.flatMap fun x => ((ys x).filter (p x)).map (f x)).length ≤ 16777216)
    (hs : ∀ x, foldedSetIterable iter X.env x = pure x := by intro _; rfl) (hs1 : ∀ env x, foldedSetIterable iter1 env x = pure x := by intro _ _; rfl) :
    DLC g X (.ListComp elt [⟨tg, iter, [], 0⟩, ⟨tg1, iter1, ifs1, 0⟩] scope pos) ρ (.lst (xs.flatMap fun x => ((ys x).filter (p x)).map (f x))) ρ1 := by
  suffices hread : ∀ σ H Q, tDF g ρ (.lst (xs.flatMap fun x => ((ys x).filter (p x)).map (f x))) ρ1 σ H Q →
      tLc2 (tDI g ρ (xs.map em) ρ1) (tDGr bind ix) (tAnyBT X scope []) (tAnyBI X scope tg1 iter1) (tDGr bind1 ix1) (tAnyBT X scope ifs1) (tAnyBE X scope elt) (own.map (·.2)) vs1 σ H Q from
    ⟨pe_mono (pe_lc2 (own := own) (vs1 := vs1) (te := tAnyBE X scope elt) (tt := tAnyBT X scope []) (tt1 := tAnyBT X scope ifs1) (g := tDGr bind ix) (g1 := tDGr bind1 ix1) (wi1 := tAnyBI X scope tg1 iter1) hX.calm hX.nd hi ok hv (fun s H C cl fp => (hg s H C cl fp).pg)
        (fun s H C cl fp => pt_anyB s H C cl fp) (fun s H C cl fp => pi_anyB s H C cl fp) (fun s H C cl fp => (hg1 s H C cl fp).pg) (fun s H C cl fp => pt_anyB s H C cl fp) (fun s H C cl fp => pe_anyB s H C cl fp) hs hs1) hread,
      fun i y py spos h1 h2 h3 => asg_mono (ps_setLc2 (own := own) (vs1 := vs1) (te := tAnyBE X scope elt) (tt := tAnyBT X scope []) (tt1 := tAnyBT X scope ifs1) (g := tDGr bind ix) (g1 := tDGr bind1 ix1) (wi1 := tAnyBI X scope tg1 iter1) hX.calm hX.nd h1 h2 h3 hi ok hv (fun s H C cl fp => (hg s H C cl fp).pg)
        (fun s H C cl fp => pt_anyB s H C cl fp) (fun s H C cl fp => pi_anyB s H C cl fp) (fun s H C cl fp => (hg1 s H C cl fp).pg) (fun s H C cl fp => pt_anyB s H C cl fp) (fun s H C cl fp => pe_anyB s H C cl fp) hs hs1) hread⟩
  refine fun σ H Q ⟨F, S, kk⟩ => ⟨F, S, fun J F1 H1 S1 k1 W A hA => ?_⟩
  obtain ⟨S1', fA, nA, gA⟩ := S1.newO hA (o := .lst [])
  refine ⟨fun i m H => m = xs.length - i ∧ i ≤ xs.length ∧ ∃ F vs, Sg g F H σ ρ1 ∧ Same F1 F ∧ F A = none ∧ H A = some (.lst vs) ∧ DaL F ((xs.take i).flatMap fun x => ((ys x).filter (p x)).map (f x)) vs, ⟨xs.length, by simp, Nat.zero_le _, F1, [], S1', Same.refl _, fA, upd_same, by simp; rfl⟩, ?_⟩
  rintro i m H2 ⟨rfl, hle, F2, vs2, S2, k2, f2, hH2, dl2⟩
  by_cases hlt : i < xs.length
  · refine .inr ⟨W.goes i F2 H2 (by rw [List.length_map]; exact hlt) k2 S2.st.sub, fun H' => ∃ F' vs', Sg g F' H' σ ρ1 ∧ Same F1 F' ∧ F' A = none ∧ H' A = some (.lst vs') ∧ DaL F' ((xs.take (i + 1)).flatMap fun x => ((ys x).filter (p x)).map (f x)) vs', fun H' q => ⟨xs.length - (i + 1), by omega, rfl, hlt, q⟩, fun v H' y => ?_⟩
    obtain ⟨d, F3, hd, gr, a⟩ := W.yields i F2 H2 v H' (by rw [List.length_map]; exact hlt) k2 S2.st.sub y
    rw [List.getElem?_map] at hd
    obtain ⟨x, hx, rfl⟩ := Option.map_eq_some_iff.mp hd
    obtain ⟨S3, k3⟩ := S2.growth gr
    have far : ∀ {F2 H2 F3 H' : Hp}, Grow F2 H2 F3 H' → F2 A = none → ∀ {vs2}, H2 A = some (.lst vs2) → F3 A = none ∧ H' A = some (.lst vs2) := fun {F2 H2 F3 H'} gr f2 {vs2} hH2 => by
      exact gr.far' f2 hH2
    obtain ⟨f3, h3⟩ := far gr f2 hH2
    obtain ⟨ρb, eb, hbs, hob, hin, tin⟩ := turn x (List.mem_of_getElem? hx)
    have Sw : Sg ⟨F3, H', DL.Own (wp ρ1 (own.map (·.2)))⟩ F3 H' (L2.wipe σ (own.map (·.2))) (wp ρ1 (own.map (·.2))) := (S3.wipe _).sg
    have nw : ¬ DL.Own (wp ρ1 (own.map (·.2))) A := fun z => nA ((wp_wk ρ1 _).own z)
    have nb : ¬ DL.Own ρb A := fun z => nw (hob A z)
    refine ⟨F3, _, _, em x, ρb, Sw, a, eb, fun σ4 S4 l4 o4 => ⟨?_, ?_⟩⟩
    · have e1 : L2.wipe σ4 (own.map (·.2)) = L2.wipe (L2.wipe σ (own.map (·.2))) (own.map (·.2)) := wipe_eq l4 fun j hj => o4 j fun z => hj (hix j z)
      rw [e1, wipe_wipe]
    have hl4 : ∀ j, j ∉ own.map (·.2) → σ4[j]? = σ[j]? := fun j hj => by rw [o4 j fun z => hj (hix j z), wipe_out hj]
    refine ⟨_, fun _ _ _ _ _ => dts_nil (g := ⟨F3, H', DL.Own (wp ρ1 (own.map (·.2)))⟩) (ρ := ρb), F3, S4, fun F5 H5 S5 k5 => iteT ⟨_, hin _, F5, S5, fun J1 F6 H6 S6 k6 W1 => ?_⟩⟩
    have hob1 : ∀ q, DL.Own ρb q → DL.Own ρ1 q := fun q hq => (wp_wk ρ1 _).own (hob q hq)
    have S6' : Sg g F6 H6 σ ρ1 := S3.unwipe S6 hl4 hbs hob1
    obtain ⟨a6, b6, _⟩ := S6.xt.rest A (show H' A ≠ none by rw [h3]; exact fun z => by cases z) f3 nw
    have b6' : H6 A = some (.lst vs2) := (show H6 A = H' A from b6).trans h3
    refine ⟨fun j m H => m = (ys x).length - j ∧ j ≤ (ys x).length ∧ ∃ F vs, Sg g F H σ ρ1 ∧ Sat F H σ4 ρb ∧ Same F6 F ∧ F A = none ∧ H A = some (.lst vs) ∧ DaL F (((xs.take i).flatMap fun x => ((ys x).filter (p x)).map (f x)) ++ (((ys x).take j).filter (p x)).map (f x)) vs,
      ⟨(ys x).length, by simp, Nat.zero_le _, F6, vs2, S6', S6.st, Same.refl _, a6, b6', by rw [List.take_zero, List.filter_nil, List.map_nil, List.append_nil]; exact dl2.mono (k3.trans (k5.trans k6))⟩, ?_⟩
    rintro j m H7 ⟨rfl, hjle, F7, vs7, S7, T7, k7, f7, h7, dl7⟩
    by_cases hjlt : j < (ys x).length
    · refine .inr ⟨W1.goes j F7 H7 (by rw [List.length_map]; exact hjlt) k7 S7.st.sub, fun H => ∃ F vs, Sg g F H σ ρ1 ∧ Sat F H σ4 ρb ∧ Same F6 F ∧ F A = none ∧ H A = some (.lst vs) ∧ DaL F (((xs.take i).flatMap fun x => ((ys x).filter (p x)).map (f x)) ++ (((ys x).take (j + 1)).filter (p x)).map (f x)) vs,
        fun H' q => ⟨(ys x).length - (j + 1), by omega, rfl, hjlt, q⟩, fun v8 H8 y8 => ?_⟩
      obtain ⟨d8, F8, hd8, gr8, a8⟩ := W1.yields j F7 H7 v8 H8 (by rw [List.length_map]; exact hjlt) k7 S7.st.sub y8
      rw [List.getElem?_map] at hd8
      obtain ⟨y, hy, rfl⟩ := Option.map_eq_some_iff.mp hd8
      obtain ⟨S8, k8⟩ := S7.growth gr8
      obtain ⟨T8, _⟩ := T7.growth gr8
      obtain ⟨f8, h8⟩ := far gr8 f7 h7
      obtain ⟨ρc, ec, hcs, hoc, ht, he⟩ := tin y (List.mem_of_getElem? hy)
      have Tw : Sg ⟨F8, H8, DL.Own (wp ρb vs1)⟩ F8 H8 (L2.wipe σ4 vs1) (wp ρb vs1) := (T8.sg.wipe vs1).sg
      have nc : ¬ DL.Own (wp ρb vs1) A := fun z => nb ((wp_wk ρb _).own z)
      refine ⟨F8, _, _, en x y, ρc, Tw, a8, ec, fun σ9 S9 l9 o9 => ⟨?_, ?_⟩⟩
      · have e1 : L2.wipe σ9 vs1 = L2.wipe (L2.wipe σ4 vs1) vs1 := wipe_eq l9 fun j hj => o9 j fun z => hj (hix1 j z)
        rw [e1, wipe_wipe]
      have hl9 : ∀ j, j ∉ vs1 → σ9[j]? = σ4[j]? := fun j hj => by rw [o9 j fun z => hj (hix1 j z), wipe_out hj]
      have hoc1 : ∀ q, DL.Own ρc q → DL.Own ρb q := fun q hq => (wp_wk ρb _).own (hoc q hq)
      -- back from the inner block
      have back : ∀ {F9 H9 : Hp}, Sg ⟨F8, H8, DL.Own (wp ρb vs1)⟩ F9 H9 σ9 ρc → Sg g F9 H9 σ ρ1 ∧ Sat F9 H9 σ4 ρb ∧ F9 A = none ∧ H9 A = some (.lst vs7) := fun {F9 H9} S9 => by
        have U := T8.sg.unwipe S9 hl9 hcs hoc1
        have U2 : Sg ⟨F8, H8, DL.Own (wp ρ1 (own.map (·.2)))⟩ F9 H9 σ4 ρb := ⟨U.st, ⟨U.xt.same, fun q h1 h2 h3 => U.xt.rest q h1 h2 fun z => h3 (hob q z)⟩⟩
        obtain ⟨a9, b9, _⟩ := S9.xt.rest A (show H8 A ≠ none by rw [h8]; exact fun z => by cases z) f8 nc
        exact ⟨S8.unwipe U2 hl4 hbs hob1, U.st, a9, (show H9 A = H8 A from b9).trans h8⟩
      refine ⟨_, ht _, F8, S9, fun F10 H10 S10 k10 => ?_⟩
      obtain ⟨g10, t10, f10, h10⟩ := back S10
      cases hp : p x y with
      | false =>
        refine iteF ⟨F10, vs7, g10, t10, k7.trans (k8.trans k10), f10, h10, ?_⟩
        rw [filt_take hy, hp, if_neg Bool.false_ne_true, List.append_nil]
        exact dl7.mono (k8.trans k10)
      | true =>
        refine iteT ⟨_, he hp _, F10, S10, fun u F11 H11 S11 k11 a11 => ?_⟩
        obtain ⟨g11, t11, f11, h11⟩ := back S11
        have dlN : DaL F11 (((xs.take i).flatMap fun x => ((ys x).filter (p x)).map (f x)) ++ (((ys x).take (j + 1)).filter (p x)).map (f x)) (vs7 ++ [u]) := by
          rw [filt_take hy, hp, if_pos rfl, ← List.append_assoc]
          exact (dl7.mono (k8.trans (k10.trans k11))).snoc a11
        have hlenN : (vs7 ++ [u]).length ≤ sizeLine := by
          rw [← dlN.length, sizeLine_eq]
          refine Nat.le_trans ?_ hz
          refine Nat.le_trans ?_ (flat_le (F := fun x => ((ys x).filter (p x)).map (f x)) (xs := xs) (i := i + 1))
          rw [flat_take hx, List.length_append, List.length_append]
          exact Nat.add_le_add_left filt_le _
        refine ⟨vs7, h11, by rw [List.length_append, List.length_singleton] at hlenN; omega, F11, vs7 ++ [u], g11.side f11 nA gA, t11.side f11 nb, k7.trans (k8.trans (k10.trans k11)), f11, upd_same, dlN⟩
    · have e : j = (ys x).length := by omega
      subst e
      refine .inl ⟨by have := W1.stops F7 H7 k7 S7.st.sub; rwa [List.length_map] at this, F7, vs7, S7, k2.trans (k3.trans (k5.trans (k6.trans k7))), f7, h7, ?_⟩
      rw [flat_take hx]
      rw [List.take_length] at dl7
      exact dl7
  · have e : i = xs.length := by omega
    subst e
    rw [List.take_length] at dl2
    refine .inl ⟨by have := W.stops F2 H2 k2 S2.st.sub; rwa [List.length_map] at this, kk A (.lst vs2) F2 H2 S2 (k1.trans k2) f2 nA gA hH2 ⟨vs2, rfl, by rw [← dl2.length, sizeLine_eq]; exact hz, dl2⟩⟩
end
end DL

set_option Elab.async false
set_option linter.all false
set_option maxRecDepth 100000
set_option maxHeartbeats 1000000
set_option autoImplicit false
/-! DL18: a comprehension whose elements write to one own object (a bag). -/
namespace DL
open PySem PySem.Spec PyProof.Rows L2 LB
section
variable {g : Gh} {X : Cx} {ρ ρ1 : List Sl} {pos : Pos}
theorem set_own {i j : Nat} {p : Addr} {o o' : Ow} {q : Addr} {u : Sl} (h : ρ[i]? = some (.own p o)) (hj : (ρ.set i (.own p o'))[j]? = some u) (hu : q ∈ fp u) : ∃ u', ρ[j]? = some u' ∧ q ∈ fp u' := by
  have hil : i < ρ.length := (List.getElem?_eq_some_iff.mp h).1
  by_cases e : i = j
  · subst e
    rw [List.getElem?_set_self hil] at hj
    cases hj
    exact ⟨_, h, hu⟩
  · rw [List.getElem?_set_ne e] at hj
    exact ⟨_, hj, hu⟩
theorem set_own_iff {i : Nat} {p : Addr} {o o' : Ow} {q : Addr} (h : ρ[i]? = some (.own p o)) : Own (ρ.set i (.own p o')) q ↔ Own ρ q := by
  have hil : i < ρ.length := (List.getElem?_eq_some_iff.mp h).1
  constructor
  · intro z
    obtain ⟨j, u, hj, hu⟩ := of_own z
    obtain ⟨u', hj', hu'⟩ := set_own h hj hu
    exact own_at hj' hu'
  · intro z
    obtain ⟨j, u, hj, hu⟩ := of_own z
    by_cases e : i = j
    · subst e
      rw [h] at hj
      cases hj
      exact own_at (i := i) (List.getElem?_set_self hil) hu
    · exact own_at (i := j) (by rw [List.getElem?_set_ne e]; exact hj) hu
/-- back from the block: the one own object has changed -/
theorem Sg.unwipeB {F H F' H' : Hp} {σ σ2 : L2.St} {ρb : List Sl} {vs : List Nat} {ib : Nat} {pb : Addr} {o o' : Ow} (S : Sg g F H σ ρ) (hib : ib ∉ vs) (h0 : ρ[ib]? = some (.own pb o)) (S2 : Sg ⟨F, H, Own (wp ρ vs)⟩ F' H' σ2 ρb) (hl : ∀ i, i ∉ vs → σ2[i]? = σ[i]?)
    (hb : ∀ i s, i ∉ vs → (ρ.set ib (.own pb o'))[i]? = some s → ρb[i]? = some s) : Sg g F' H' σ (ρ.set ib (.own pb o')) := by
  have hil : ib < ρ.length := (List.getElem?_eq_some_iff.mp h0).1
  have key : ∀ p, Own ρ p → ¬ Own (wp ρ vs) p → F' p = none ∧ H' p = H p := fun p hp hn => by
    obtain ⟨f, h⟩ := S.st.ownF hp
    obtain ⟨a, b, _⟩ := S2.xt.rest p h f hn
    exact ⟨a, b⟩
  refine ⟨⟨S2.st.sub, by rw [List.length_set]; exact S.st.len, fun i s e => ?_, fun i j p u u' e1 e2 q1 q2 => ?_⟩, S.xt.trans ⟨S2.xt.same, fun p h f no => ?_⟩⟩
  · by_cases hi : i ∈ vs
    · have hne : ib ≠ i := fun z => hib (z ▸ hi)
      rw [List.getElem?_set_ne hne] at e
      obtain ⟨x, hx, a⟩ := S.st.at_ i s e
      refine ⟨x, hx, a.grow S2.xt.same fun q hq => ?_⟩
      have oq : Own ρ q := List.mem_flatMap.mpr ⟨s, List.mem_of_getElem? e, hq⟩
      refine key q oq fun z => ?_
      obtain ⟨j, u, ej, hu⟩ := of_own z
      rcases wp_get ej with w | ⟨w, nj⟩
      · subst w; cases hu
      · have eij := S.st.apart i j q s u e w hq hu
        exact nj (eij ▸ hi)
    · obtain ⟨y, hy, b⟩ := S2.st.at_ i s (hb i s hi e)
      have hil2 : i < σ.length := by
        rw [S.st.len]
        have := (List.getElem?_eq_some_iff.mp e).1
        rwa [List.length_set] at this
      rw [hl i hi] at hy
      exact ⟨y, hy, b⟩
  · obtain ⟨_, x1, y1⟩ := set_own h0 e1 q1
    obtain ⟨_, x2, y2⟩ := set_own h0 e2 q2
    exact S.st.apart i j p _ _ x1 x2 y1 y2
  · obtain ⟨a, b, c⟩ := S2.xt.rest p h f fun z => no ((wp_wk ρ vs).own z)
    exact ⟨a, b, fun z => no ((set_own_iff h0).mp z)⟩
theorem wp_set {ib : Nat} {s : Sl} : ∀ {vs : List Nat}, ib ∉ vs → wp (ρ.set ib s) vs = (wp ρ vs).set ib s
  | [], _ => rfl
  | v :: vs, h => by
    have h1 : v ≠ ib := fun e => h (by rw [e]; exact List.mem_cons_self)
    unfold wp
    rw [wp_set fun m => h (List.mem_cons_of_mem _ m), List.set_comm _ _ h1.symm]
/-- [elt for tg in xs], elt writes to the own object of slot ib -/
theorem dlcB {α : Type} {k : Nat} {elt tg iter : Expr} {scope : Scope} {ds : List Pd} {bind : Pd → List Sl → Option (List Sl)} {ix : List Nat} (own : List (Str × Nat)) (em : α → Pd) (xs : List α) (ib : Nat) (pb : Addr) (o : List α → Ow) (out : List α → List Pd)
    (hX : XO k X) (hi : DI g X tg iter ρ ds ρ1) (hd : ds = xs.map em) (h0 : ρ1[ib]? = some (.own pb (o []))) (hib : ib ∉ own.map (·.2)) (ok : BlkOk X.N X.env.scope scope own)
    (hg : ∀ (s : Shared) (H : Hp) (C : Addr) (cl : List (Str × Addr)) (fp : List Addr), DG (blkOf X scope s H C cl fp) tg bind ix) (hix : ∀ i ∈ ix, i ∈ own.map (·.2)) (f : List α → α → Pd) (ho : out [] = []) (hout : ∀ pre x, out (pre ++ [x]) = out pre ++ [f pre x])
    (turn : ∀ pre x post, xs = pre ++ x :: post → ∃ ρb ρc, bind (em x) (wp (ρ1.set ib (.own pb (o pre))) (own.map (·.2))) = some ρb ∧ (∀ g' s H C cl fp, DE g' (blkOf X scope s H C cl fp) elt ρb (.d (f pre x)) ρc) ∧
      (∀ i s, i ∉ own.map (·.2) → (ρ1.set ib (.own pb (o (pre ++ [x]))))[i]? = some s → ρc[i]? = some s))
    (hs : ∀ x, foldedSetIterable iter X.env x = pure x := by intro _; rfl) : DLC g X (.ListComp elt [⟨tg, iter, [], 0⟩] scope pos) ρ (.lst (out xs)) (ρ1.set ib (.own pb (o xs))) := by
  subst hd
  suffices hread : ∀ σ H Q, tDF g ρ (.lst (out xs)) (ρ1.set ib (.own pb (o xs))) σ H Q → tLc (tDI g ρ (xs.map em) ρ1) (tDGr bind ix) (tAnyBT X scope []) (tAnyBE X scope elt) (own.map (·.2)) σ H Q from
    ⟨pe_mono (pe_lc (own := own) (te := tAnyBE X scope elt) (tt := tAnyBT X scope []) (g := tDGr bind ix) hX.calm hX.nd hi ok (fun s H C cl fp => (hg s H C cl fp).pg) (fun s H C cl fp => pt_anyB s H C cl fp) (fun s H C cl fp => pe_anyB s H C cl fp) hs) hread,
      fun i y py spos h1 h2 h3 => asg_mono (ps_setLc (own := own) (te := tAnyBE X scope elt) (tt := tAnyBT X scope []) (g := tDGr bind ix) hX.calm hX.nd h1 h2 h3 hi ok (fun s H C cl fp => (hg s H C cl fp).pg) (fun s H C cl fp => pt_anyB s H C cl fp) (fun s H C cl fp => pe_anyB s H C cl fp) hs) hread⟩
  refine fun σ H Q ⟨F, S, kk⟩ => ⟨F, S, fun J F1 H1 S1 k1 W A hA => ?_⟩
  have hz := W.small
  rw [List.length_map] at hz
  have hil : ib < ρ1.length := (List.getElem?_eq_some_iff.mp h0).1
  have hset0 : ρ1.set ib (.own pb (o [])) = ρ1 := by
    apply List.ext_getElem?
    intro j
    by_cases e : ib = j
    · subst e; rw [List.getElem?_set_self hil, h0]
    · rw [List.getElem?_set_ne e]
  have at_ib : ∀ pre, (ρ1.set ib (.own pb (o pre)))[ib]? = some (.own pb (o pre)) := fun pre => List.getElem?_set_self hil
  obtain ⟨S1', fA, nA, gA⟩ := S1.newO hA (o := .lst [])
  have nA' : ∀ pre, ¬ DL.Own (ρ1.set ib (.own pb (o pre))) A := fun pre z => nA ((set_own_iff h0).mp z)
  have outlen : ∀ pre, (out pre).length = pre.length := fun pre => by
    induction pre using snocRec with
    | h0 => rw [ho]; rfl
    | h1 pre x ih => rw [hout, List.length_append, List.length_append, ih]; rfl
  refine ⟨fun i m H => m = xs.length - i ∧ i ≤ xs.length ∧ ∃ F vs, Sg g F H σ (ρ1.set ib (.own pb (o (xs.take i)))) ∧ Same F1 F ∧ F A = none ∧ H A = some (.lst vs) ∧ DaL F (out (xs.take i)) vs, ⟨xs.length, by simp, Nat.zero_le _, F1, [], by rw [List.take_zero, hset0]; exact S1', Same.refl _, fA, upd_same, by rw [List.take_zero, ho]; rfl⟩, ?_⟩
  rintro i m H2 ⟨rfl, hle, F2, vs2, S2, k2, f2, hH2, dl2⟩
  by_cases hlt : i < xs.length
  · refine .inr ⟨W.goes i F2 H2 (by rw [List.length_map]; exact hlt) k2 S2.st.sub, fun H' => ∃ F' vs', Sg g F' H' σ (ρ1.set ib (.own pb (o (xs.take (i + 1))))) ∧ Same F1 F' ∧ F' A = none ∧ H' A = some (.lst vs') ∧ DaL F' (out (xs.take (i + 1))) vs', fun H' q => ⟨xs.length - (i + 1), by omega, rfl, hlt, q⟩, fun v H' y => ?_⟩
    obtain ⟨d, F3, hd, gr, a⟩ := W.yields i F2 H2 v H' (by rw [List.length_map]; exact hlt) k2 S2.st.sub y
    rw [List.getElem?_map] at hd
    obtain ⟨x, hx, rfl⟩ := Option.map_eq_some_iff.mp hd
    have etk : xs.take (i + 1) = xs.take i ++ [x] := by rw [List.take_add_one, hx]; rfl
    have esp : xs = xs.take i ++ x :: xs.drop (i + 1) := by
      conv => lhs; rw [← List.take_append_drop i xs]
      rw [List.drop_eq_getElem_cons hlt, (List.getElem?_eq_some_iff.mp hx).2]
    obtain ⟨S3, k3⟩ := S2.growth gr
    have f3 : F3 A = none ∧ H' A = some (.lst vs2) := by
      exact gr.far' f2 hH2
    obtain ⟨ρb, ρc, eb, he, hbs⟩ := turn (xs.take i) x _ esp
    have Sw : Sg ⟨F3, H', DL.Own (wp (ρ1.set ib (.own pb (o (xs.take i)))) (own.map (·.2)))⟩ F3 H' (L2.wipe σ (own.map (·.2))) (wp (ρ1.set ib (.own pb (o (xs.take i)))) (own.map (·.2))) := (S3.wipe _).sg
    have nw : ¬ DL.Own (wp (ρ1.set ib (.own pb (o (xs.take i)))) (own.map (·.2))) A := fun z => nA' _ ((wp_wk _ _).own z)
    refine ⟨F3, _, _, em x, ρb, Sw, a, eb, fun σ4 S4 l4 o4 => ⟨?_, ?_⟩⟩
    · have e1 : L2.wipe σ4 (own.map (·.2)) = L2.wipe (L2.wipe σ (own.map (·.2))) (own.map (·.2)) := wipe_eq l4 fun j hj => o4 j fun z => hj (hix j z)
      rw [e1, wipe_wipe]
    have hl4 : ∀ j, j ∉ own.map (·.2) → σ4[j]? = σ[j]? := fun j hj => by rw [o4 j fun z => hj (hix j z), wipe_out hj]
    refine ⟨_, fun _ _ _ _ _ => dts_nil (g := ⟨F3, H', DL.Own (wp (ρ1.set ib (.own pb (o (xs.take i)))) (own.map (·.2)))⟩) (ρ := ρb), F3, S4, fun F5 H5 S5 k5 => iteT ⟨_, he _, F5, S5, fun u F6 H6 S6 k6 a6 => ?_⟩⟩
    have S6' : Sg g F6 H6 σ (ρ1.set ib (.own pb (o (xs.take (i + 1))))) := by
      rw [etk]
      have q := S3.unwipeB (o' := o (xs.take i ++ [x])) hib (at_ib _) S6 hl4 (fun j s hj e => hbs j s hj (by rw [List.set_set] at e; exact e))
      rw [List.set_set] at q
      exact q
    obtain ⟨a7, b7, _⟩ := S6.xt.rest A (show H' A ≠ none by rw [f3.2]; exact fun z => by cases z) f3.1 nw
    have b7' : H6 A = some (.lst vs2) := (show H6 A = H' A from b7).trans f3.2
    have hvl : vs2.length = i := by rw [← dl2.length, outlen, List.length_take]; omega
    refine ⟨vs2, b7', by omega, F6, vs2 ++ [u], S6'.side a7 (nA' _) gA, k2.trans (k3.trans (k5.trans k6)), a7, upd_same, ?_⟩
    rw [etk, hout]
    exact (dl2.mono (k3.trans (k5.trans k6))).snoc a6
  · have e : i = xs.length := by omega
    subst e
    rw [List.take_length] at dl2 S2
    exact .inl ⟨by have := W.stops F2 H2 k2 S2.st.sub; rwa [List.length_map] at this, kk A (.lst vs2) F2 H2 S2 (k1.trans k2) f2 (nA' _) gA hH2 ⟨vs2, rfl, by rw [← dl2.length, outlen]; exact hz, dl2⟩⟩
end
end DL

set_option Elab.async false
set_option linter.all false
set_option maxRecDepth 100000
set_option maxHeartbeats 1000000
set_option autoImplicit false
/-! DL19: own lists read by a callee, frozen own lists, dict(pairs), walks over own dicts. -/
namespace DL
open PySem PySem.Spec PyProof.Rows L2 LB
section
variable {g : Gh} {X : Cx} {ρ ρ1 ρ2 : List Sl} {pos p : Pos} {x : Str} {e : Expr} {es : List Expr} {k j i : Nat} {a q : Addr} {rest : List Stmt} {N : List Sl → Prop} {R' : Rt → List Sl → Prop}
/-- from here on an own list is read only -/
theorem dss_frz (i : Nat) {ds : List Pd} (h0 : ρ[i]? = some (.own q (.lst ds))) (h : DSs g X rest (ρ.set i (.dat (.list ds))) N R') : DSs g X rest ρ N R' :=
  pss_mono h fun D σ H ⟨F, S, kn, kr⟩ => by
    obtain ⟨F', S', k', _⟩ := S.frzO h0
    exact ⟨F', S', fun σ' F2 H2 ρ' n S2 k2 => kn σ' F2 H2 ρ' n S2 (k'.trans k2), fun d v σ' F2 H2 ρ' n S2 k2 => kr d v σ' F2 H2 ρ' n S2 (k'.trans k2)⟩
/-- no list, no tuple, no dict -/
def flatD : Pd → Bool
  | .none => true
  | .bool _ => true
  | .int _ => true
  | .str _ => true
  | _ => false
theorem flatD_at {F F' : Hp} {d : Pd} {v : V} (h : flatD d = true) (a : Da F' d v) : Da F d v := by
  cases d with
  | none => exact a
  | bool _ => exact a
  | int _ => exact a
  | str _ => exact a
  | list _ => cases h
  | tuple _ => cases h
  | dict _ => cases h
/-- frozen for a while: what holds the own lists that are lent -/
def lent (F : Hp) (H : Hp) (ρ : List Sl) : Hp := fun b => match F b with
  | some o => some o
  | none => if Own ρ b then (match H b with
    | some (.lst vs) => some (.lst vs)
    | _ => none) else none
theorem lent_same (F H : Hp) (ρ : List Sl) : Same F (lent F H ρ) := fun b o e => by unfold lent; rw [e]
theorem lent_sub {F H : Hp} {σ : L2.St} (S : Sat F H σ ρ) : Same (lent F H ρ) H := fun b o e => by
  unfold lent at e
  cases hF : F b with
  | some u =>
    rw [hF] at e
    cases e
    exact S.sub _ _ hF
  | none =>
    rw [hF] at e
    simp only at e
    split at e
    · split at e
      · rename_i vs hv
        cases e
        exact hv
      · cases e
    · cases e
theorem lent_own {F H : Hp} {σ : L2.St} {ds : List Pd} (S : Sat F H σ ρ) (h : ρ[i]? = some (.own q (.lst ds))) : Da (lent F H ρ) (.list ds) (.ref q) := by
  obtain ⟨_, fn, h0, hh, vs, rfl, z, dl⟩ := S.own h
  refine ⟨q, vs, rfl, ?_, z, dl.mono (lent_same F H ρ)⟩
  unfold lent
  rw [fn, hh]
  simp only
  rw [if_pos (own_of h)]
theorem rdo_lent {F H : Hp} {σ : L2.St} {r : R} {v : V} {d : Pd} (S : Sat F H σ ρ) (a : RAt F σ r v) (h : rdo ρ r = some d) : Da (lent F H ρ) d v := by
  unfold rdo at h
  split at h
  · cases h
    exact (show Da F d v from a).mono (lent_same F H ρ)
  · rename_i i
    split at h
    · rename_i _ p ds e
      cases h
      have e1 := (S.own e).1
      have a' : σ[i]? = some (some v) := a
      rw [e1] at a'
      cases a'
      exact lent_own S e
    · cases h
  · cases h
theorem rdos_lent {F H : Hp} {σ : L2.St} : ∀ {rs : List R} {ds : List Pd} {vs : List V}, Sat F H σ ρ → RsAt F σ rs vs → rs.map (rdo ρ) = ds.map some → DaL (lent F H ρ) ds vs
  | [], [], _, _, h, _ => h
  | [], _ :: _, _, _, _, e => by simp at e
  | _ :: _, [], _, _, _, e => by simp at e
  | r :: rs, d :: ds, vs, S, ⟨v, ws, e1, a, b⟩, e => by
    rw [List.map_cons, List.map_cons, List.cons.injEq] at e
    subst e1
    exact ⟨v, ws, rfl, rdo_lent S a e.1, rdos_lent S b e.2⟩
theorem DaL.rs {F : Hp} {σ : L2.St} : ∀ {ds : List Pd} {vs : List V}, DaL F ds vs → RsAt F σ (ds.map R.d) vs
  | [], _, h => h
  | _ :: _, _, ⟨v, ws, e, a, b⟩ => ⟨v, ws, e, a, DaL.rs b⟩
/-- f(..): own lists may be lent; the result is flat -/
theorem de_callRO {f : List Pd → Rt → Prop} {rs : List R} {d : Pd} (ds : List Pd) (D : Dn X.prog X.w X.K X.mg X.base j x (rP f)) (hX : XO k X) (hj : j ≤ k) (ha : DA g X (e :: es) ρ rs ρ1) (hr : rs.map (rdo ρ1) = ds.map some) (hf : f ds (.d d)) (hfl : flatD d = true := by rfl) (hg : Gl X x := by rfl) (hdb : (x == ("__debug__" : Str)) = false := by decide)
    (he : starEach (e :: es) X.env = (false, eval e X.env) :: starEach es X.env := by rfl) (hpl : (backTo pos (starEach es X.env)).any (·.1) = false := by rfl) : DE g X (.Call (.Name x p) (e :: es) [] pos) ρ (.d d) ρ1 := by
  obtain ⟨fa, fd, ps, F, hm, hk, hb⟩ := D.ex
  refine pe_mono (pe_call F (hX.room.mono hj) hg hm hk hb .nil pass0 ha hdb he hpl) fun σ H Q ⟨F0, S, q⟩ => ⟨F0, S, fun vs F1 H1 S1 k1 a => ?_⟩
  have dl := rdos_lent S1.st a hr
  refine ⟨lent F1 H1 ρ1, ds.map .dat, .d d, ds.map .dat, ⟨ds, rfl, rfl, hf⟩, by rw [List.append_nil]; exact Sat.dats (σ := σ) (lent_sub S1.st) dl.rs, fun v F' H' S' xt r => ?_⟩
  have keep : ∀ b, H1 b ≠ none → F1 b = none → H' b = H1 b := fun b hb fb => by
    cases hl : lent F1 H1 ρ1 b with
    | some o => rw [S'.sub _ _ (xt.same _ _ hl), lent_sub S1.st _ _ hl]
    | none => exact (xt.rest b hb hl no_dats).2.1
  have sub : Same F1 H' := fun b o e => S'.sub _ _ (xt.same _ _ (lent_same F1 H1 ρ1 _ _ e))
  refine q v F1 H' ⟨S1.st.grow (Same.refl _) sub fun b hb => ?_, ⟨S1.xt.same, fun b h1 h2 h3 => ?_⟩⟩ k1 (flatD_at hfl (show Da F' d v from r))
  · obtain ⟨x1, x2⟩ := S1.st.ownF hb
    exact ⟨x1, keep b x2 x1⟩
  · obtain ⟨y1, y2, y3⟩ := S1.xt.rest b h1 h2 h3
    exact ⟨y1, (keep b (by rw [y2]; exact h1) y1).trans y2, y3⟩

theorem wk_set_any (i : Nat) : Wk ρ (ρ.set i .any) := ⟨(List.length_set ..).symm, fun j t h => by
  by_cases e : i = j
  · subst e
    by_cases hl : i < ρ.length
    · rw [List.getElem?_set_self hl] at h
      exact .inl (Option.some.inj h).symm
    · rw [List.getElem?_eq_none (by rw [List.length_set]; omega)] at h
      cases h
  · rw [List.getElem?_set_ne e] at h
    exact .inr h⟩
/-- an own object is handed on: its name is forgotten -/
theorem df_ownv (i : Nat) {o : Ow} (h0 : ρ[i]? = some (.own q o)) (hN : X.N[i]? = some x := by rfl) (hv : Vis X.env.scope x := by first | exact Or.inl rfl | exact Or.inr (Or.inl rfl) | exact Or.inr (Or.inr rfl)) (hd : (x == ("__debug__" : Str)) = false := by decide) (hcd : (x == ("__classdict__" : Str)) = false := by decide) :
    DF g X (.Name x pos) ρ o (ρ.set i .any) :=
  pe_mono (pe_var hN hv hd hcd) fun σ H Q ⟨F, S, kk⟩ => by
    obtain ⟨e1, fn, h, hh, oa⟩ := S.st.own h0
    refine ⟨.ref q, e1, kk q h F H (S.wk (wk_set_any i)) (Same.refl _) fn (fun z => ?_) (own_back S (own_of h0)) hh oa⟩
    obtain ⟨j, u, hj, hu⟩ := of_own z
    have hil : i < ρ.length := (List.getElem?_eq_some_iff.mp h0).1
    by_cases e : i = j
    · subst e
      rw [List.getElem?_set_self hil] at hj
      cases hj
      cases hu
    · rw [List.getElem?_set_ne e] at hj
      exact e (S.st.apart i j q _ _ h0 hj (List.mem_singleton.mpr rfl) hu)

/-! ### dict(xs), xs a list of pairs -/
def mergeP (kvs more : List (Key × Pd)) : List (Key × Pd) := more.foldl (fun acc kv => putP acc kv.1 kv.2) kvs
theorem KD.merge {F : Hp} : ∀ {more : List (Key × Pd)} {ws : List (Key × V)} {kvs : List (Key × Pd)} {us : List (Key × V)}, KD F more ws → KD F kvs us → KD F (mergeP kvs more) (mergeK us ws)
  | [], _, _, _, h, k => by cases h; exact k
  | m :: more, _, _, _, h, k => by
    cases h with
    | cons r t =>
      rename_i w ws
      have := KD.put k (k := m.1) (d := m.2) (v := w.2) r.2
      rw [r.1] at this
      show KD F (mergeP (putP _ m.1 m.2) more) (mergeK (putK _ w.1 w.2) ws)
      rw [r.1]
      exact KD.merge t this
theorem pairs_at {K : PySem.W.Frag} {F H : Hp} (k : Same F H) : ∀ {ms : List (Key × Pd)} {kd : Key → Pd} {vs : List V}, (∀ m ∈ ms, keyP (kd m.1) = some m.1) → DaL F (ms.map fun m => PyData.tuple [kd m.1, m.2]) vs →
    ∃ ps ws, vs = ps.map V.ref ∧ Paired (fun p (kv : Key × V) => SqT K H p [kV kv.1, kv.2]) ps ws ∧ KD F ms ws
  | [], _, _, _, h => by cases (show _ = _ from h); exact ⟨[], [], rfl, .nil, .nil⟩
  | m :: ms, kd, _, hk, ⟨v, ws, e, a, b⟩ => by
    obtain ⟨ps, us, e1, p1, k1⟩ := pairs_at k (fun m hm => hk m (List.mem_cons_of_mem _ hm)) b
    obtain ⟨t, ts, ev, tf, _, v1, w1, e2, a1, v2, w2, e3, a2, e4⟩ := a
    subst e e1 ev e2 e3
    cases (show w2 = _ from e4)
    have ek := keyP_at a1 (hk m List.mem_cons_self)
    subst ek
    exact ⟨t :: ps, (m.1, v2) :: us, rfl, .cons (tf.mono k).sq p1, .cons ⟨rfl, a2⟩ k1⟩
theorem df_dictP {ms : List (Key × Pd)} {r : R} {ds : List Pd} (kd : Key → Pd) (hk : ∀ m ∈ ms, keyP (kd m.1) = some m.1) (hX : XO k X) (ha : DA g X [e] ρ [r] ρ1) (h : lsto ρ1 r = some ds) (hd : ds = ms.map fun m => PyData.tuple [kd m.1, m.2]) (hg : Gl X "dict" := by rfl) (he : starEach [e] X.env = (false, eval e X.env) :: starEach [] X.env := by rfl) (hpl : (backTo pos (starEach [] X.env)).any (·.1) = false := by rfl) :
    DF g X (.Call (.Name "dict" p) [e] [] pos) ρ (.dK (mergeP [] ms)) ρ1 :=
  df_callTy (call_dictP hX.calm) hX.bi.dict (by decide +kernel) ha (fun F H σ vs Q S rr kk => by
    subst hd
    obtain ⟨v, ev, a⟩ := rs1 rr
    obtain ⟨l, ws, e1, hq, z, dl⟩ := lsto_at S.st a h
    obtain ⟨ps, us, e2, p1, k1⟩ := pairs_at (K := X.K) S.st.sub hk dl
    subst ev e1 e2
    refine ⟨l, ps, us, rfl, SqL.of hq, p1, fun q hq2 => ?_⟩
    obtain ⟨S1, f, no, gn⟩ := S.newO hq2 (o := .dK (mergeK [] us))
    exact kk q _ F _ S1 (Same.refl _) f no gn upd_same ⟨_, rfl, KD.merge k1 .nil⟩) hg (he := he) (hpl := hpl)

/-! ### an own dict walked -/
theorem paired_at {κ : Type} {F : Hp} : ∀ {kvs : List (κ × Pd)} {ws : List (κ × V)} {i : Nat} {k : κ} {v : V}, KD F kvs ws → ws[i]? = some (k, v) → ∃ d, kvs[i]? = some (k, d) ∧ Da F d v
  | _, _, i, k, v, .nil, h => by simp at h
  | _, _, 0, k, v, .cons r t, h => by
    rename_i x y _ _
    simp at h
    subst h
    exact ⟨x.2, by simp; exact Prod.ext r.1 rfl, r.2⟩
  | _, _, i + 1, k, v, .cons r t, h => by
    obtain ⟨d, h1, h2⟩ := paired_at t (show _ = _ by simpa using h)
    exact ⟨d, by simpa using h1, h2⟩
/-- a key's datum -/
def keyD : Key → Pd
  | .inl i => .int i
  | .inr x => .str x
theorem keyD_at {F : Hp} (k : Key) : Da F (keyD k) (kV k) := by cases k <;> exact rfl
/-- a frozen dict's name -/
theorem de_fz (i : Nat) {kvs : List (Key × Pd)} (h : ρ[i]? = some (Sl.fz q kvs)) (hN : X.N[i]? = some x := by rfl) (hv : Vis X.env.scope x := by first | exact Or.inl rfl | exact Or.inr (Or.inl rfl) | exact Or.inr (Or.inr rfl)) (hd : (x == ("__debug__" : Str)) = false := by decide) (hcd : (x == ("__classdict__" : Str)) = false := by decide) :
    DE g X (.Name x pos) ρ (.s i) ρ :=
  pe_mono (pe_var hN hv hd hcd) fun σ H Q ⟨F, S, kk⟩ => by
    obtain ⟨y, hy, e, _⟩ := S.st.at_ i _ h
    subst e
    exact ⟨.ref q, hy, kk _ F H S (Same.refl _) hy⟩
theorem Sat.fz {F H : Hp} {σ : L2.St} {kvs : List (Key × Pd)} (S : Sat F H σ ρ) (h : ρ[i]? = some (Sl.fz q kvs)) : σ[i]? = some (some (.ref q)) ∧ ∃ od ws, F q = some (.frz od (.dK ws)) ∧ KD F kvs ws := by
  obtain ⟨y, hy, e, r⟩ := S.at_ i _ h
  subst e
  exact ⟨hy, r⟩
/-- for k in d, d a frozen dict -/
theorem di_dictR {tg : Expr} {kvs : List (Key × Pd)} (he : DE g X e ρ (.s i) ρ1) (h1 : ρ1[i]? = some (Sl.fz q kvs)) (hz : kvs.length ≤ 16777216) : DI g X tg e ρ (kvs.map fun kv => keyD kv.1) ρ1 :=
  pi_mono (pi_keys he) fun σ H Q ⟨F, S, kk⟩ => ⟨F, S, fun v F1 H1 S1 k1 a => by
    obtain ⟨e1, od, ws, hF, hk⟩ := S1.st.fz h1
    have a' : σ[i]? = some (some v) := a
    rw [e1] at a'
    cases a'
    have hq : ∀ F2 H2, Same F1 F2 → Same F2 H2 → H2 q = some (.frz od (.dK ws)) := fun F2 H2 s1 s2 => s2 _ _ (s1 _ _ hF)
    refine ⟨q, od, rfl, .inl ⟨ws, hq F1 H1 (Same.refl _) S1.st.sub, kk _ F1 H1 S1 k1 ⟨by rw [List.length_map, sizeLine_eq]; exact hz, fun i F2 H2 hi s1 s2 => ?_, fun F2 H2 s1 s2 => ?_, fun i F2 H2 v H' hi s1 s2 y => ?_⟩⟩⟩
    · rw [List.length_map, hk.length] at hi
      exact ⟨hq F2 H2 s1 s2, hi⟩
    · rw [List.length_map, hk.length]
      exact ⟨hq F2 H2 s1 s2, Nat.le_refl _⟩
    · obtain ⟨eh, ky, v', e1, e2⟩ := y
      subst eh e2
      obtain ⟨d, h1, _⟩ := paired_at hk e1
      exact ⟨keyD ky, F2, by rw [List.getElem?_map, h1]; rfl, .no _ _, keyD_at ky⟩⟩
/-- d[k], d a frozen dict -/
theorem de_getR {o : Expr} {dk d : Pd} {ky : Key} {kvs : List (Key × Pd)} (hX : XO k X) (ho : DE g X o ρ (.s i) ρ) (he : DE g X e ρ (.d dk) ρ1) (hk : keyP dk = some ky) (h1 : ρ1[i]? = some (Sl.fz q kvs)) (hv : getP kvs ky = some d) (hs : NoSl e := by exact fun _ _ => rfl) : DE g X (.Subscript o e pos) ρ (.d d) ρ1 :=
  pe_mono (pe_dget hX.hu ho he hs) fun σ H Q ⟨F, S, kn⟩ => ⟨F, S, fun ov F2 H2 S2 k2 ao => ⟨F2, S2, fun iv F3 H3 S3 k3 ai => by
    obtain ⟨e1, od, ws, hF, hkd⟩ := S3.st.fz h1
    have a' : σ[i]? = some (some ov) := ao
    rw [e1] at a'
    cases a'
    have ek := keyP_at (show Da F3 dk iv from ai) hk
    subst ek
    have kg := hkd.get ky
    rw [hv] at kg
    cases ew : valV ws ky with
    | none => rw [ew] at kg; exact kg.elim
    | some v =>
      rw [ew] at kg
      exact ⟨q, v, rfl, .inl ⟨ws, ky, .inr ⟨od, S3.st.sub _ _ hF⟩, rfl, ew.symm⟩, kn v F3 H3 S3 (k2.trans k3) kg⟩⟩⟩
/-- heaps that agree on lists and tuples -/
structure Agr (F F2 : Hp) : Prop where
  lst : ∀ a vs, F a = some (.lst vs) → F2 a = some (.lst vs)
  tup : ∀ a o vs, F a = some (.frz o (.tup vs)) → F2 a = some (.frz o (.tup vs))
mutual
theorem Da.agr {F F2 : Hp} (h : Agr F F2) : ∀ {d : Pd} {v : V}, Da F d v → Da F2 d v
  | .none, _, a => a
  | .bool _, _, a => a
  | .int _, _, a => a
  | .str _, _, a => a
  | .list _, _, ⟨a, vs, e, f, z, r⟩ => ⟨a, vs, e, h.lst _ _ f, z, DaL.agr h r⟩
  | .tuple _, _, ⟨a, vs, e, ⟨o, f, d⟩, z, r⟩ => ⟨a, vs, e, ⟨o, h.tup _ _ _ f, d⟩, z, DaL.agr h r⟩
  | .dict _, _, a => a
theorem DaL.agr {F F2 : Hp} (h : Agr F F2) : ∀ {ds : List Pd} {vs : List V}, DaL F ds vs → DaL F2 ds vs
  | [], _, a => a
  | _ :: _, _, ⟨v, ws, e, a, b⟩ => ⟨v, ws, e, Da.agr h a, DaL.agr h b⟩
end
theorem KD.agr {κ : Type} {F F2 : Hp} (h : Agr F F2) {kvs : List (κ × Pd)} {ws : List (κ × V)} (a : KD F kvs ws) : KD F2 kvs ws := Paired.mapP a fun _ _ q => ⟨q.1, q.2.agr h⟩
theorem OwAt.agr {F F2 : Hp} (h : Agr F F2) : ∀ {o : Ow} {x : HO}, OwAt F o x → OwAt F2 o x
  | .lst _, _, ⟨vs, e, z, r⟩ => ⟨vs, e, z, r.agr h⟩
  | .dK _, _, ⟨ws, e, r⟩ => ⟨ws, e, r.agr h⟩
  | .dT _ _, _, ⟨us, e, r⟩ => ⟨us, e, Paired.mapP r fun _ _ q => ⟨q.1, let ⟨o, f, d⟩ := q.2.1; ⟨o, h.tup _ _ _ f, d⟩, q.2.2.agr h⟩⟩
def cutH (F : Hp) (q : Addr) : Hp := fun b => if b = q then none else F b
theorem cutH_ne {F : Hp} {q b : Addr} (h : b ≠ q) : cutH F q b = F b := if_neg h
theorem cutH_self {F : Hp} {q : Addr} : cutH F q q = none := if_pos rfl
theorem cutH_agr {F : Hp} {q : Addr} {od : Obj} {ws : List (Key × V)} (h : F q = some (.frz od (.dK ws))) : Agr F (cutH F q) :=
  ⟨fun a vs e => by rw [cutH_ne (fun z => by rw [z, h] at e; cases e)]; exact e, fun a o vs e => by rw [cutH_ne (fun z => by rw [z, h] at e; cases e)]; exact e⟩
/-- an own dict is known by its address while an expression runs that makes a list of ints -/
theorem df_lockI {kvs : List (Key × Pd)} {o : Ow} (h0 : ρ[i]? = some (.own q (.dK kvs))) (h : ∀ g' : Gh, DF g' X e (ρ.set i (.fz q kvs)) o (ρ.set i (.fz q kvs))) (hns : noSem ρ = true := by rfl) : DF g X e ρ o ρ := by
  have hil : i < ρ.length := (List.getElem?_eq_some_iff.mp h0).1
  refine pe_mono (pe_lock (t := fun σ H Q => ∃ g' : Gh, tDF g' (ρ.set i (.fz q kvs)) o (ρ.set i (.fz q kvs)) σ H Q) ⟨fun pins s σ H Q I ⟨g', t⟩ => (h g').run pins s σ H Q I t⟩) fun σ H Q ⟨F, S, kk⟩ => ?_
  obtain ⟨eσ, fn, h1, hh, ws, rfl, kd⟩ := S.st.own h0
  refine ⟨q, _, hh, trivial, fun od => ?_⟩
  have noq : ∀ b, b ≠ q → upd H q (.frz od (.dK ws)) b = H b := fun b hb => upd_ne hb
  have fq : ∀ b, b ≠ q → upd F q (.frz od (.dK ws)) b = F b := fun b hb => upd_ne hb
  have sF : Same F (upd F q (.frz od (.dK ws))) := same_upd fn
  have own2 : ∀ b, Own (ρ.set i (.fz q kvs)) b → Own ρ b ∧ b ≠ q := fun b hb => by
    obtain ⟨j, u, hj, hu⟩ := of_own hb
    by_cases e : i = j
    · subst e
      rw [List.getElem?_set_self hil] at hj
      cases hj
      cases hu
    · rw [List.getElem?_set_ne e] at hj
      exact ⟨own_at hj hu, fun z => e (S.st.apart i j q _ u h0 hj (List.mem_singleton.mpr rfl) (z ▸ hu))⟩
  have SL : Sat (upd F q (.frz od (.dK ws))) (upd H q (.frz od (.dK ws))) σ (ρ.set i (.fz q kvs)) := by
    refine ⟨fun b o e => ?_, by rw [List.length_set]; exact S.st.len, fun j t hj => ?_, fun j l p u u' h1 h2 q1 q2 => ?_⟩
    · by_cases hb : b = q
      · subst hb; rw [upd_same] at e ⊢; exact e
      · rw [fq b hb] at e; rw [noq b hb]; exact S.st.sub _ _ e
    · by_cases e : i = j
      · subst e
        rw [List.getElem?_set_self hil] at hj
        cases hj
        exact ⟨_, eσ, rfl, od, ws, upd_same, kd.mono sF⟩
      · rw [List.getElem?_set_ne e] at hj
        obtain ⟨y, hy, b⟩ := S.st.at_ j t hj
        refine ⟨y, hy, b.grow sF fun c hc => ?_⟩
        have hob : Own ρ c := List.mem_flatMap.mpr ⟨t, List.mem_of_getElem? hj, hc⟩
        have hcq : c ≠ q := fun z => e (S.st.apart i j q _ t h0 hj (List.mem_singleton.mpr rfl) (z ▸ hc))
        rw [fq c hcq, noq c hcq]
        exact ⟨(S.st.ownF hob).1, rfl⟩
    · have back : ∀ {j : Nat} {u : Sl}, (ρ.set i (.fz q kvs))[j]? = some u → p ∈ fp u → ρ[j]? = some u := fun {j u} hj hu => by
        by_cases e : i = j
        · subst e
          rw [List.getElem?_set_self hil] at hj
          cases hj
          cases hu
        · rwa [List.getElem?_set_ne e] at hj
      exact S.st.apart j l p u u' (back h1 q1) (back h2 q2) q1 q2
  refine ⟨⟨_, _, Own (ρ.set i (.fz q kvs))⟩, ⟨_, SL.sg, fun A hA F' H' S' k' fA nA gA hhA oa => ?_⟩⟩
  have hq' : H' q = some (.frz od (.dK ws)) := S'.st.sub _ _ (k' _ _ upd_same)
  refine ⟨hq', ?_⟩
  have hAq : A ≠ q := fun z => by rw [z, k' _ _ upd_same] at fA; cases fA
  have hHA : H A = none := by
    rcases gA with z | z
    · exact (noq A hAq) ▸ z
    · exact absurd z nA
  have keep : ∀ b, H b ≠ none → F b = none → b ≠ q → ¬ Own (ρ.set i (.fz q kvs)) b → H' b = H b := fun b h1 h2 h3 h4 => by
    have := (S'.xt.rest b (by show upd H q _ b ≠ none; rw [noq b h3]; exact h1) (by show upd F q _ b = none; rw [fq b h3]; exact h2) h4).2.1
    exact this.trans (noq b h3)
  have owned : ∀ b, Own ρ b → b ≠ q → F b = none ∧ ∃ hb, H' b = some hb := fun b hb hne => by
    obtain ⟨f1, f2⟩ := S.st.ownF hb
    obtain ⟨j, u, hj, hu⟩ := of_own hb
    have hij : i ≠ j := fun z => by subst z; rw [h0] at hj; cases hj; exact hne (List.mem_singleton.mp hu)
    obtain ⟨_, e9⟩ := S'.st.ownF (own_at (i := j) (by rw [List.getElem?_set_ne hij]; exact hj) hu)
    exact ⟨f1, Option.ne_none_iff_exists'.mp e9⟩
  have agr := cutH_agr (k' _ _ upd_same)
  have kF : Same F (cutH F' q) := fun b o e => by
    have hb : b ≠ q := fun z => by rw [z, fn] at e; cases e
    rw [cutH_ne hb]
    exact k' _ _ (sF _ _ e)
  have sub2 : Same (cutH F' q) (upd H' q (.dK ws)) := fun b o e => by
    by_cases hb : b = q
    · rw [hb, cutH_self] at e; cases e
    · rw [cutH_ne hb] at e
      rw [upd_ne hb]
      exact S'.st.sub _ _ e
  refine kk A _ (cutH F' q) (upd H' q (.dK ws)) ⟨⟨sub2, S.st.len, fun j t hj => ?_, S.st.apart⟩, ⟨S.xt.same.trans kF, fun b h1 h2 h3 => ?_⟩⟩ kF (by rw [cutH_ne hAq]; exact fA) (fun z => (S.st.ownF z).2 hHA) (fresh_own (F' := F') (H' := H') S hHA).2 (by rw [upd_ne hAq]; exact hhA) (oa.agr agr)
  · by_cases e : i = j
    · subst e
      rw [h0] at hj
      cases hj
      exact ⟨_, eσ, rfl, cutH_self, _, upd_same, ws, rfl, kd.mono kF⟩
    · obtain ⟨y, hy, b⟩ := S.st.at_ j t hj
      cases t with
      | any => exact ⟨y, hy, trivial⟩
      | dat d => obtain ⟨v, e1, e2⟩ := b; exact ⟨y, hy, v, e1, e2.mono kF⟩
      | raw v => exact ⟨y, hy, b⟩
      | fz r kv2 => exact let ⟨e1, od2, ws2, f2, kd2⟩ := b; ⟨y, hy, e1, od2, ws2, kF _ _ f2, kd2.mono kF⟩
      | sem B => exact absurd hj (noSem_at hns)
      | own r u =>
        obtain ⟨_, f8, h9, e9, o9⟩ := S'.st.own (i := j) (by rw [List.getElem?_set_ne e]; exact hj)
        have hr : r ≠ q := fun z => e (S.st.apart i j q _ _ h0 hj (List.mem_singleton.mpr rfl) (List.mem_singleton.mpr z.symm))
        exact ⟨y, hy, b.1, by rw [cutH_ne hr]; exact f8, h9, by rw [upd_ne hr]; exact e9, o9.agr agr⟩
  · obtain ⟨y1, y2, y3⟩ := S.xt.rest b h1 h2 h3
    have hbq : b ≠ q := fun z => y3 (z ▸ own_of h0)
    have hno : ¬ Own (ρ.set i (.fz q kvs)) b := fun z => y3 (own2 b z).1
    have hb1 : H b ≠ none := by rw [y2]; exact h1
    obtain ⟨z1, _, _⟩ := S'.xt.rest b (by show upd H q _ b ≠ none; rw [noq b hbq]; exact hb1) (by show upd F q _ b = none; rw [fq b hbq]; exact y1) hno
    refine ⟨by rw [cutH_ne hbq]; exact z1, ?_, y3⟩
    rw [upd_ne hbq, keep b hb1 y1 hbq hno]
    exact y2
end
end DL

set_option Elab.async false
set_option linter.all false
set_option maxRecDepth 100000
set_option maxHeartbeats 1000000
set_option autoImplicit false
/-! DL20: a, b, c = x, y, z in the plain way (a name is shared with a comprehension). -/
namespace DL
open PySem PySem.Spec PyProof.Rows L2 LB
section
variable {X : Cx} {pos : Pos}
theorem ps_unp {ts es : List Expr} {ta : TA} {t : TGs} {U : Ends → List V → L2.St → Hp → Prop} (hU : ∀ D vs σ H, U D vs σ H → vs.length = (assignEach ts X.env).length ∧ vs.length ≤ sizeLine ∧ t vs σ H D.nx) {pt pt2 : Pos} {kt k2 : Nat} (hc : X.calm = true) (ha : PA X es ta) (hg : PGs X ts t) 
    (hw : swappedStores [.Tuple ts kt pt] (.Tuple es k2 pt2) X.env = pure none)
    (hst : (assignEach ts X.env).findIdx? (·.1) = none := by rfl)
    (hs : swapsWithSole [.Tuple ts kt pt] (.Tuple es k2 pt2) pos.line X.env = pure false := by rfl) :
    PS X (.Assign [.Tuple ts kt pt] (.Tuple es k2 pt2) pos) (fun D σ H => ta σ H fun vs H1 => U D vs σ H1) := by
  refine ⟨fun pins s σ H D I h => ?_⟩
  refine Assign_Tuple (Tuple_ (thn (ha.run _ pins s σ H _ I h) fun us s1 ⟨vs, H1, I1, r1, q0⟩ => ?_)) hs hw
  obtain ⟨hl, hz, q1⟩ := hU D vs σ H1 q0
  have hul : us.length = vs.length := r1.length.symm
  refine wpAny_newObj_type ?_ (by show us.toArray.size ≤ sizeLine; simp; omega)
  have I2 : Inv X pins σ H1 { s1 with heap := s1.heap.push { cls := .type "tuple", data := .seq us.toArray } } := I1.kept (t' := s1.toks) fun b o e => Heap.get?_push_of_some _ e
  refine assign_Tuple_tuple (I.ok.hd hc) (IsTup.new s1.heap us.toArray) (by simp; omega) hst fun h' hx => ?_
  have I3 := I2.kept (h' := h') (t' := s1.toks) fun b o e => hx b o (Nat.ne_of_lt (Heap.lt_size e)) e
  exact hg.run pins _ σ H1 vs _ _ I3 (by simpa using r1) q1
theorem ps_unp2 {i j : Nat} {x y : Str} {a b : Expr} {ta : TA} {px py pt : Pos} {kt k2 pt2} (hc : X.calm = true) (hN : X.N.Nodup) (hi : X.N[i]? = some x) (hj : X.N[j]? = some y) (hij : i ≠ j)
    (hx : Loc X.env.scope x) (hy : Loc X.env.scope y) (ha : PA X [a, b] ta)
    (hw : swappedStores [.Tuple [.Name x px, .Name y py] kt pt] (.Tuple [a, b] k2 pt2) X.env = pure none) (hfx : X.fn x = true ∨ X.env.scope.names.lookup x = some .local) (hfy : X.fn y = true ∨ X.env.scope.names.lookup y = some .local)
    (hs : swapsWithSole [.Tuple [.Name x px, .Name y py] kt pt] (.Tuple [a, b] k2 pt2) pos.line X.env = pure false := by rfl) :
    PS X (.Assign [.Tuple [.Name x px, .Name y py] kt pt] (.Tuple [a, b] k2 pt2) pos) (tPar i j ta) :=
  ps_unp (U := fun D vs σ H1 => ∃ v w, vs = [v, w] ∧ D.nx ((σ.set i (some v)).set j (some w)) H1) (fun D vs σ H ⟨v, w, e, q⟩ => by
    subst e
    exact ⟨rfl, by show 2 ≤ sizeLine; decide, v, [w], rfl, w, [], rfl, rfl, q⟩) hc ha (pgs_cons (pg_name hN hi hx hfx) (pgs_cons (pg_name hN hj hy hfy) pgs_nil)) hw rfl hs
theorem ps_unp3 {i j l : Nat} {x y z : Str} {a b c : Expr} {ta : TA} {px py pz pt : Pos} {kt k2 pt2} (hc : X.calm = true) (hN : X.N.Nodup) (hi : X.N[i]? = some x) (hj : X.N[j]? = some y) (hl : X.N[l]? = some z) (hij : i ≠ j) (hil : i ≠ l) (hjl : j ≠ l)
    (hx : Loc X.env.scope x) (hy : Loc X.env.scope y) (hz : Loc X.env.scope z) (ha : PA X [a, b, c] ta)
    (hw : swappedStores [.Tuple [.Name x px, .Name y py, .Name z pz] kt pt] (.Tuple [a, b, c] k2 pt2) X.env = pure none) (hfx : X.fn x = true ∨ X.env.scope.names.lookup x = some .local) (hfy : X.fn y = true ∨ X.env.scope.names.lookup y = some .local) (hfz : X.fn z = true ∨ X.env.scope.names.lookup z = some .local)
    (hs : swapsWithSole [.Tuple [.Name x px, .Name y py, .Name z pz] kt pt] (.Tuple [a, b, c] k2 pt2) pos.line X.env = pure false := by rfl) :
    PS X (.Assign [.Tuple [.Name x px, .Name y py, .Name z pz] kt pt] (.Tuple [a, b, c] k2 pt2) pos) (tPar3 i j l ta) :=
  ps_unp (U := fun D vs σ H1 => ∃ u v w, vs = [u, v, w] ∧ D.nx (((σ.set i (some u)).set j (some v)).set l (some w)) H1) (fun D vs σ H ⟨u, v, w, e, q⟩ => by
    subst e
    exact ⟨rfl, by show 3 ≤ sizeLine; decide, u, [v, w], rfl, v, [w], rfl, w, [], rfl, rfl, q⟩) hc ha (pgs_cons (pg_name hN hi hx hfx) (pgs_cons (pg_name hN hj hy hfy) (pgs_cons (pg_name hN hl hz hfz) pgs_nil))) hw rfl hs
variable {g : Gh} {ρ ρ1 : List Sl} {rest : List Stmt} {N : List Sl → Prop} {R : Rt → List Sl → Prop} {r1 r2 r3 : Rt}
/-- a, b = x, y -/
theorem dss_unp2 (i j : Nat) {x y : Str} {a b : Expr} {px py pt pt2 : Pos} {kt k2 k3 : Nat} (hX : XO k2 X) (ha : DP g X [a, b] ρ [r1, r2] ρ1) (hr : ∀ s1 s2, SlAre r1 s1 → SlAre r2 s2 → DSs g X rest ((ρ1.set i s1).set j s2) N R) (hij : i ≠ j := by decide) (hi : X.N[i]? = some x := by rfl) (hj : X.N[j]? = some y := by rfl)
    (hx : Loc X.env.scope x := by first | exact Or.inl rfl | exact Or.inr rfl) (hy : Loc X.env.scope y := by first | exact Or.inl rfl | exact Or.inr rfl) (hli : i < ρ1.length := by exact Nat.le_of_ble_eq_true rfl) (hlj : j < ρ1.length := by exact Nat.le_of_ble_eq_true rfl)
    (hw : swappedStores [.Tuple [.Name x px, .Name y py] kt pt] (.Tuple [a, b] k3 pt2) X.env = pure none := by rfl) (hfx : X.fn x = true ∨ X.env.scope.names.lookup x = some .local := by first | exact .inl rfl | exact .inr rfl) (hfy : X.fn y = true ∨ X.env.scope.names.lookup y = some .local := by first | exact .inl rfl | exact .inr rfl) (hs : swapsWithSole [.Tuple [.Name x px, .Name y py] kt pt] (.Tuple [a, b] k3 pt2) pos.line X.env = pure false := by rfl) :
    DSs g X (.Assign [.Tuple [.Name x px, .Name y py] kt pt] (.Tuple [a, b] k3 pt2) pos :: rest) ρ N R :=
  dss_cons (N' := fun ρ' => ∃ s1 s2, SlAre r1 s1 ∧ SlAre r2 s2 ∧ ρ' = (ρ1.set i s1).set j s2) (ps_mono (ps_unp2 hX.calm hX.nd hi hj hij hx hy ha hw hfx hfy hs) fun D σ H ⟨F, S, k, _⟩ => ⟨F, S, fun vs ss F1 H1 S1 k1 ea => by
    obtain ⟨v, ws, s, ts, e1, e2, a1, b1, c1, w, us, t, qs, e3, e4, a2, b2, c2, e5, e6⟩ := ea
    subst e1 e2 e3 e4 e5 e6
    refine ⟨v, w, rfl, k _ F1 H1 _ ⟨s, t, a1, a2, rfl⟩ ?_ k1⟩
    have T1 := S1.set (s := s) hli b1 fun q hq => ⟨(c1 q hq).1, (c1 q hq).2.1⟩
    refine T1.set (s := t) (by rw [List.length_set]; exact hlj) b2 fun q hq => ⟨fun z => ?_, (c2 q hq).2.1⟩
    rcases own_set z with z | z
    · exact (c1 q z).2.2 (by show q ∈ fp t ++ fps []; exact List.mem_append_left _ hq)
    · exact (c2 q hq).1 z⟩) fun ρ2 ⟨s1, s2, h1, h2, e⟩ => by subst e; exact hr s1 s2 h1 h2
/-- a, b, c = x, y, z -/
theorem dss_unp3 (i j l : Nat) {x y z : Str} {a b c : Expr} {px py pz pt pt2 : Pos} {kt k2 k3 : Nat} (hX : XO k2 X) (ha : DP g X [a, b, c] ρ [r1, r2, r3] ρ1) (hr : ∀ s1 s2 s3, SlAre r1 s1 → SlAre r2 s2 → SlAre r3 s3 → DSs g X rest (((ρ1.set i s1).set j s2).set l s3) N R)
    (hij : i ≠ j := by decide) (hil : i ≠ l := by decide) (hjl : j ≠ l := by decide) (hi : X.N[i]? = some x := by rfl) (hj : X.N[j]? = some y := by rfl) (hl : X.N[l]? = some z := by rfl)
    (hx : Loc X.env.scope x := by first | exact Or.inl rfl | exact Or.inr rfl) (hy : Loc X.env.scope y := by first | exact Or.inl rfl | exact Or.inr rfl) (hz : Loc X.env.scope z := by first | exact Or.inl rfl | exact Or.inr rfl) (hli : i < ρ1.length := by exact Nat.le_of_ble_eq_true rfl) (hlj : j < ρ1.length := by exact Nat.le_of_ble_eq_true rfl) (hll : l < ρ1.length := by exact Nat.le_of_ble_eq_true rfl)
    (hw : swappedStores [.Tuple [.Name x px, .Name y py, .Name z pz] kt pt] (.Tuple [a, b, c] k3 pt2) X.env = pure none := by rfl) (hfx : X.fn x = true ∨ X.env.scope.names.lookup x = some .local := by first | exact .inl rfl | exact .inr rfl) (hfy : X.fn y = true ∨ X.env.scope.names.lookup y = some .local := by first | exact .inl rfl | exact .inr rfl) (hfz : X.fn z = true ∨ X.env.scope.names.lookup z = some .local := by first | exact .inl rfl | exact .inr rfl) (hs : swapsWithSole [.Tuple [.Name x px, .Name y py, .Name z pz] kt pt] (.Tuple [a, b, c] k3 pt2) pos.line X.env = pure false := by rfl) :
    DSs g X (.Assign [.Tuple [.Name x px, .Name y py, .Name z pz] kt pt] (.Tuple [a, b, c] k3 pt2) pos :: rest) ρ N R :=
  dss_cons (N' := fun ρ' => ∃ s1 s2 s3, SlAre r1 s1 ∧ SlAre r2 s2 ∧ SlAre r3 s3 ∧ ρ' = ((ρ1.set i s1).set j s2).set l s3) (ps_mono (ps_unp3 hX.calm hX.nd hi hj hl hij hil hjl hx hy hz ha hw hfx hfy hfz hs) fun D σ H ⟨F, S, k, _⟩ => ⟨F, S, fun vs ss F1 H1 S1 k1 ea => by
    obtain ⟨v, ws, s, ts, e1, e2, a1, b1, c1, w, us, t, qs, e3, e4, a2, b2, c2, w3, us3, t3, qs3, e5, e6, a3, b3, c3, e7, e8⟩ := ea
    subst e1 e2 e3 e4 e5 e6 e7 e8
    refine ⟨v, w, w3, rfl, k _ F1 H1 _ ⟨s, t, t3, a1, a2, a3, rfl⟩ ?_ k1⟩
    have T1 := S1.set (s := s) hli b1 fun q hq => ⟨(c1 q hq).1, (c1 q hq).2.1⟩
    have T2 := T1.set (s := t) (by rw [List.length_set]; exact hlj) b2 fun q hq => ⟨fun z => by
      rcases own_set z with z | z
      · exact (c1 q z).2.2 (by show q ∈ fp t ++ fps [t3]; exact List.mem_append_left _ hq)
      · exact (c2 q hq).1 z, (c2 q hq).2.1⟩
    refine T2.set (s := t3) (by rw [List.length_set, List.length_set]; exact hll) b3 fun q hq => ⟨fun z => ?_, (c3 q hq).2.1⟩
    rcases own_set z with z | z
    · exact (c2 q z).2.2 (by show q ∈ fp t3 ++ fps []; exact List.mem_append_left _ hq)
    · rcases own_set z with z | z
      · exact (c1 q z).2.2 (by show q ∈ fp t ++ (fp t3 ++ fps []); exact List.mem_append_right _ (List.mem_append_left _ hq))
      · exact (c3 q hq).1 z⟩) fun ρ2 ⟨s1, s2, s3, h1, h2, h3, e⟩ => by subst e; exact hr s1 s2 s3 h1 h2 h3
end
end DL

set_option Elab.async false
set_option linter.all false
set_option maxRecDepth 100000
set_option autoImplicit false
/-! DL21: turns of comprehensions of two clauses, in short. -/
namespace DL
open PySem PySem.Spec PyProof.Rows L2
section
variable {X : Cx} {ρ : List Sl} {i j : Nat} {d : Pd} {vs vs1 : List Nat} {scope : Scope} {ifs1 : List Expr} {elt tg1 iter1 : Expr}
theorem set_back {ρ : List Sl} {i : Nat} {d : Pd} {q : Addr} (h : DL.Own (ρ.set i (.dat d)) q) : DL.Own ρ q := by
  rcases own_set h with z | z
  · cases z
  · exact z
theorem turn2 {β : Type} {ys : List β} {en : β → Pd} {p : β → Bool} {f : β → Pd} (hi : i < ρ.length) (hv : i ∈ vs) (hj : j < ρ.length) (hvj : j ∈ vs1)
    (hit : ∀ g' s H C cl fp, DI g' (blkOf X scope s H C cl fp) tg1 iter1 ((wp ρ vs).set i (.dat d)) (ys.map en) ((wp ρ vs).set i (.dat d)))
    (hin : ∀ y, y ∈ ys → (∀ g' s H C cl fp, DTs g' (blkOf X scope s H C cl fp) ifs1 ((wp ((wp ρ vs).set i (.dat d)) vs1).set j (.dat (en y))) (p y) ((wp ((wp ρ vs).set i (.dat d)) vs1).set j (.dat (en y)))) ∧
      (p y = true → ∀ g' s H C cl fp, DE g' (blkOf X scope s H C cl fp) elt ((wp ((wp ρ vs).set i (.dat d)) vs1).set j (.dat (en y))) (.d (f y)) ((wp ((wp ρ vs).set i (.dat d)) vs1).set j (.dat (en y))))) :
    ∃ ρb, bName i d (wp ρ vs) = some ρb ∧ (∀ i s, i ∉ vs → ρ[i]? = some s → ρb[i]? = some s) ∧ (∀ q, DL.Own ρb q → DL.Own (wp ρ vs) q) ∧
      (∀ g' s H C cl fp, DI g' (blkOf X scope s H C cl fp) tg1 iter1 ρb (ys.map en) ρb) ∧
      ∀ y, y ∈ ys → ∃ ρc, bName j (en y) (wp ρb vs1) = some ρc ∧ (∀ i s, i ∉ vs1 → ρb[i]? = some s → ρc[i]? = some s) ∧ (∀ q, DL.Own ρc q → DL.Own (wp ρb vs1) q) ∧
        (∀ g' s H C cl fp, DTs g' (blkOf X scope s H C cl fp) ifs1 ρc (p y) ρc) ∧ (p y = true → ∀ g' s H C cl fp, DE g' (blkOf X scope s H C cl fp) elt ρc (.d (f y)) ρc) := by
  obtain ⟨a, b, _⟩ := bind_name (d := d) hi hv
  refine ⟨_, a, b, fun q hq => set_back hq, hit, fun y hy => ?_⟩
  have hj' : j < ((wp ρ vs).set i (.dat d)).length := by rw [List.length_set, wp_length]; exact hj
  obtain ⟨a1, b1, _⟩ := bind_name (d := en y) hj' hvj
  obtain ⟨t, e⟩ := hin y hy
  exact ⟨_, a1, b1, fun q hq => set_back hq, t, e⟩
theorem di_k {g : Gh} {ρ1 : List Sl} {tg e : Expr} {ds ds' : List Pd} (hd : ds = ds') (h : DI g X tg e ρ ds ρ1) : DI g X tg e ρ ds' ρ1 := hd ▸ h
end
end DL

set_option Elab.async false
set_option linter.all false
set_option maxRecDepth 100000
set_option maxHeartbeats 1000000
set_option autoImplicit false
/-! DL22: own dicts whose keys are tuples of ints. -/
namespace DL
open PySem PySem.Spec PyProof.Rows L2
/-! ### by values -/
def valT (us : UT) (ns : List Int) : Option (Addr × V) := (us.find? fun u => decide (u.1 = ns)).map (·.2)
def putT (us : UT) (ns : List Int) (b : Addr) (v : V) : UT := if (valT us ns).isSome = true then us.map (fun u => if u.1 = ns then (u.1, u.2.1, v) else u) else us ++ [(ns, b, v)]
def AtT (H : Hp) (a b : Addr) (ns : List Int) (us : UT) : Prop := H a = some (TDo a us) ∧ (∀ u ∈ us, TupF H u.2.1 (u.1.map V.int)) ∧ TupF H b (ns.map V.int)
abbrev RUT (us : UT) (xs : List (List Int × Addr × Value)) : Prop := Paired (fun (p : List Int × Addr × V) (q : List Int × Addr × Value) => p.1 = q.1 ∧ p.2.1 = q.2.1 ∧ RelV p.2.2 q.2.2) us xs
theorem rut_val {us : UT} {xs : List (List Int × Addr × Value)} (r : RUT us xs) (ns : List Int) : match valT us ns, atKey xs ns with
    | none, none => True
    | some p, some q => p.1 = q.1 ∧ RelV p.2 q.2
    | _, _ => False := by
  induction r with
  | nil => exact True.intro
  | @cons p q ps qs h t ih =>
    obtain ⟨h1, h2, h3⟩ := h
    unfold valT atKey at ih ⊢
    by_cases e : p.1 = ns
    · rw [List.find?_cons_of_pos (by simpa using e), List.find?_cons_of_pos (by simpa using h1.symm.trans e)]
      exact ⟨h2, h3⟩
    · rw [List.find?_cons_of_neg (by simpa using e), List.find?_cons_of_neg (by simpa using fun z => e (h1.trans z))]
      exact ih
theorem rut_some {us : UT} {xs : List (List Int × Addr × Value)} (r : RUT us xs) (ns : List Int) : (valT us ns).isSome = (atKey xs ns).isSome := by
  have h := rut_val r ns
  cases e1 : valT us ns <;> cases e2 : atKey xs ns <;> rw [e1, e2] at h <;> first | rfl | exact h.elim
theorem rut_put {us : UT} {xs : List (List Int × Addr × Value)} (r : RUT us xs) (ns : List Int) (b : Addr) {v : V} {u : Value} (rv : RelV v u) : RUT (putT us ns b v) (storedH xs ns b u) := by
  unfold putT storedH
  rw [rut_some r ns]
  split
  · rename_i hh
    clear hh
    induction r with
    | nil => exact .nil
    | @cons p q ps qs h t ih =>
      obtain ⟨h1, h2, h3⟩ := h
      refine .cons ?_ ih
      unfold putAt
      dsimp only
      by_cases e : p.1 = ns
      · rw [if_pos e, if_pos (h1.symm.trans e)]; exact ⟨h1, h2, rv⟩
      · rw [if_neg e, if_neg fun z => e (h1.trans z)]; exact ⟨h1, h2, h3⟩
  · exact Paired.snoc r ⟨rfl, rfl, rv⟩
theorem len_putT (us : UT) (ns : List Int) (b : Addr) (v : V) : (putT us ns b v).length ≤ us.length + 1 := by
  unfold putT
  split
  · rw [List.length_map]; omega
  · rw [List.length_append, List.length_singleton]; exact Nat.le_refl _
section
variable {X : Cx} {pins : List (Addr × Obj)} {σ : L2.St} {H : Hp} {s : Shared} {a b : Addr} {ns : List Int} {us : UT} {A : Around} {E : Value → Shared → Prop} {v : V} {r : Value}
abbrev tkI (X : Cx) : HeapKind X.prog X.w (List Int) := tupleKind (PySem.intKind X.prog X.w)
theorem items_ints {P : Program} {w : World} : ∀ {ns : List Int} {vs : List Value}, Vals (ns.map V.int) vs → ItemsAre (PySem.intKind P w) ns vs
  | [], _, r => by rw [List.map_nil] at r; cases r; exact .nil
  | k :: ks, _, r => by
    rw [List.map_cons] at r
    cases r with
    | cons h t => exact .cons (by obtain ⟨t, e⟩ := (show ∃ t, _ = Value.int k t from h); subst e; show Value.isInt k (.int k t) = true; simp [Value.isInt]) (items_ints t)
theorem keyT_of {P : Program} {w : World} {h : Heap} (ok : HOk P w H h) (e : TupF H b (ns.map V.int)) : (tupleKind (PySem.intKind P w)).is h ns b := by
  obtain ⟨o, f, _⟩ := e
  obtain ⟨_, _, its, r, o', h1, h2, n, h3⟩ := (show ObjOk P w H h b (.frz o (.tup (ns.map V.int))) from ok b _ f)
  exact ⟨o', its.toArray, n, h1, h2, h3, by simpa using items_ints r⟩
theorem dictT_of (I : Inv X pins σ H s) (g : AtT H a b ns us) : us.length ≤ sizeLine ∧ (a == sysModules) = false ∧ (tkI X).is s.heap ns b ∧ ∃ xs, RUT us xs ∧ s.heap.DictOfH (tkI X) a xs := by
  obtain ⟨e, ks, kb⟩ := g
  obtain ⟨⟨z, y, xs, rl, o, es, ep, h1, h2, h3, h4, h5⟩, _⟩ := (show ObjOk X.prog X.w H s.heap a (TDo a us) from I.hok a _ e)
  refine ⟨z, y, keyT_of I.hok kb, xs, rl, o, es, ep, h1, h2, h3, h4, fun x hx => ?_, h5⟩
  have all : ∀ {l : UT} {m : List (List Int × Addr × Value)}, RUT l m → (∀ u ∈ l, TupF H u.2.1 (u.1.map V.int)) → ∀ x ∈ m, (tkI X).is s.heap x.1 x.2.1 := by
    intro l m q
    induction q with
    | nil => intro _ x hx; exact nomatch hx
    | @cons p q ps qs hq t ih =>
      intro hk x hx
      rcases List.mem_cons.mp hx with e | hx
      · subst e
        rw [← hq.1, ← hq.2.1]
        exact keyT_of I.hok (hk _ List.mem_cons_self)
      · exact ih (fun u hu => hk u (List.mem_cons_of_mem _ hu)) x hx
  exact all rl ks x hx
theorem t_in {Q : Value → Shared → Prop} (hu : A.units + 1 < cLine) (I : Inv X pins σ H s) (g : AtT H a b ns us) (h : ∀ s', Inv X pins σ H s' → Q (.bool (valT us ns).isSome) s') : wpAny (model X.prog X.w) A (compareOp .In (.ref b) (.ref a)) Q E s := by
  obtain ⟨z, hd, hk, xs, rl, dd⟩ := dictT_of I g
  refine wpAny_in_heap (tupleKind_room_in1 hu) hk hd dd ?_
  rw [← rut_some rl]
  exact h _ (I.tok _)
theorem t_getItem {q : Addr} {Q : Value → Shared → Prop} (hu : A.units + 1 < cLine) (I : Inv X pins σ H s) (g : AtT H a b ns us) (hv : valT us ns = some (q, v)) (h : ∀ w' s', Inv X pins σ H s' → RelV v w' → Q w' s') : wpAny (model X.prog X.w) A (getItem (.ref a) (.ref b)) Q E s := by
  obtain ⟨z, hd, hk, xs, rl, dd⟩ := dictT_of I g
  have hx := rut_val rl ns
  rw [hv] at hx
  cases e : atKey xs ns with
  | none => rw [e] at hx; exact hx.elim
  | some p =>
    rw [e] at hx
    exact wpAny_getItem_heap (tupleKind_room_in1 hu) hk dd e (h _ _ (I.tok _) hx.2)
theorem t_get2 {d : V} {Q : Value → Shared → Prop} (hu : A.units + 1 < cLine) (I : Inv X pins σ H s) (g : AtT H a b ns us) (rd : RelV d r) (h : ∀ w' s', Inv X pins σ H s' → RelV (((valT us ns).map (·.2)).getD d) w' → Q w' s') :
    wpAny (model X.prog X.w) A (call (.builtin "dict.get") [.ref a, .ref b, r]) Q E s := by
  obtain ⟨z, hd, hk, xs, rl, dd⟩ := dictT_of I g
  refine call_meetsIn PySem.F.slot_dict_get dd.typeIs PySem.F.entry_dict_get (PySem.F.args_dict_get_3 _ _ _) (meetsH_dict_get_default (tkI X) a b hd r) ⟨tupleKind_room_in1 hu, ns, xs, hk, dd, h _ _ (I.tok _) ?_⟩
  have hx := rut_val rl ns
  cases e1 : valT us ns <;> cases e2 : atKey xs ns <;> rw [e1, e2] at hx <;> first | exact hx.elim | exact rd | exact hx.2
theorem t_setItem {Q : Unit → Shared → Prop} (hu : A.units + 1 < cLine) (I : Inv X pins σ H s) (g : AtT H a b ns us) (hz : us.length < sizeLine) (rv : RelV v r) (h : ∀ s', Inv X pins σ (upd H a (TDo a (putT us ns b v))) s' → Q () s') :
    wpAny (model X.prog X.w) A (setItem (.ref a) (.ref b) r) Q E s := by
  obtain ⟨z, hd, hk, xs, rl, dd⟩ := dictT_of I g
  have hl : xs.length ≤ sizeLine := by rw [← Paired.length rl]; exact z
  refine wpAny_setItem_heap (hsz := hl) (tupleKind_room_in1 hu) hk dd fun h' dd' hs => h _ ?_
  obtain ⟨q, es, ep, hq, h2, h3, h4, _, h5⟩ := dd'
  refine d_write I (by rw [g.1]; exact True.intro) hs ⟨q, hq⟩ ⟨⟨by have := len_putT us ns b v; omega, hd, _, rut_put rl ns b rv, q, es, ep, hq, h2, h3, h4, h5⟩, ⟨q, hq⟩, ?_⟩
  rintro g1 g2 ⟨z1, y1, xs1, r1, o1, es1, ep1, k1, k2⟩ st
  exact ⟨z1, y1, xs1, r1, o1, es1, ep1, st _ k1, k2⟩
/-- {} -/
def tDNewTT : TE := fun _ H Q => ∀ p, H p = none → Q (.ref p) (upd H p (TDo p []))
theorem pe_dnewTT {pos : Pos} : PE X (.Dict [] [] pos) tDNewTT := ⟨fun pins s σ H Q I h =>
  wpAny_Dict_empty ⟨.ref s.heap.objs.size, _, I.laid (a := s.heap.objs.size) (o := TDo s.heap.objs.size []) (t' := s.toks) (fun _ _ q => Heap.get?_push_of_some _ q) (Nat.le_refl _)
    ⟨⟨Nat.zero_le _, beq_eq_false_iff_ne.mpr (Ne.symm (Nat.ne_of_lt I.big)), [], .nil, _, #[], 0, Heap.get?_push_size _ rfl, ⟨rfl, rfl, rfl⟩, rfl, rfl, List.nodup_nil⟩, ⟨_, Heap.get?_push_size _ rfl⟩, fun g1 g2 ⟨z1, y1, xs1, r1, o1, es1, ep1, k1, k2⟩ st => ⟨z1, y1, xs1, r1, o1, es1, ep1, st _ k1, k2⟩⟩, rfl, h _ (I.hok.fresh (Nat.le_refl _))⟩⟩
def rInT : R2 := fun x y H Q => ∃ a b ns us, x = .ref b ∧ y = .ref a ∧ AtT H a b ns us ∧ Q (.bl (valT us ns).isSome) H
theorem op_inT (hu : X.A.units + 1 < cLine) : OpR X (compareOp .In) rInT := by
  intro pins s σ H x y v u Q I rx ry h
  obtain ⟨a, b, ns, us, rfl, rfl, g, q⟩ := h
  cases rx
  cases ry
  exact t_in hu I g fun s' I' => ⟨.bl _, H, I', rfl, q⟩
def tGetT (td ty : TE) : TE := fun σ H Q => td σ H fun x H1 => ty σ H1 fun y H2 => ∃ a b ns us p, x = .ref a ∧ y = .ref b ∧ AtT H2 a b ns us ∧ valT us ns = some p ∧ Q p.2 H2
theorem pe_dgetT {o i : Expr} {td ty : TE} {pos : Pos} (hu : X.A.units + 1 < cLine) (ho : PE X o td) (hi : PE X i ty) (hs : NoSl i) : PE X (.Subscript o i pos) (tGetT td ty) := by
  refine ⟨fun pins s σ H Q I h => ?_⟩
  refine subD_of PySem.F.slot_dict_getitem.lookup hs (thn (ho.run pins s σ H _ I h) fun u s1 ⟨x, H1, I1, rx, q1⟩ => thn (hi.run pins s1 σ H1 _ I1 q1) fun iv s2 ⟨y, H2, I2, ry, a, b, ns, us, p, ex, ey, g, hv, q2⟩ => ?_)
  subst ex ey
  obtain rfl : u = Value.ref a := rx
  obtain rfl : iv = Value.ref b := ry
  obtain ⟨_, _, _, _, _, dd⟩ := dictT_of I2 g
  exact ⟨dd.typeIs, t_getItem (q := p.1) (v := p.2) hu I2 g hv fun w' s3 I3 rw' => ⟨p.2, H2, I3, rw', q2⟩⟩
def tGet2T (td ty tx : TE) : TE := fun σ H Q => td σ H fun x H1 => ∃ a us0, x = .ref a ∧ H1 a = some (TDo a us0) ∧ ty σ H1 fun y H2 => tx σ H2 fun z H3 => ∃ b ns us, y = .ref b ∧ AtT H3 a b ns us ∧ Q (((valT us ns).map (·.2)).getD z) H3
theorem pe_dget2T {o e f : Expr} {apos cpos : Pos} {td ty tx : TE} (hu : X.A.units + 1 < cLine) (ho : PE X o td) (he : PE X e ty) (hf : PE X f tx) (m : M2 X o "get" apos e f cpos) : PE X (.Call (.Attribute o "get" apos) [e, f] [] cpos) (tGet2T td ty tx) := by
  refine ⟨fun pins s σ H Q I h => ?_⟩
  refine wpAny_Call_method m.base m.few m.line PySem.F.plainAttrs_dict PySem.F.slot_dict_get PySem.F.type_dict_get (thn (ho.run pins s σ H _ I h) fun u s1 ⟨x, H1, I1, rx, a, us0, ex, e1, q1⟩ => ?_)
  subst ex
  obtain rfl : u = Value.ref a := rx
  obtain ⟨⟨_, _, xs1, _, o1, es1, ep1, h1, h2, h3, _⟩, _⟩ := (show ObjOk X.prog X.w H1 s1.heap a (TDo a us0) from I1.hok a _ e1)
  refine ⟨⟨o1, h1, h2.1⟩, fun c q => by cases q; exact ⟨o1, h1, h2.2.1⟩, ?_⟩
  rw [m.trees]
  refine Calls.callWith_builtin rfl (Calls.evalArgs_plain (Calls.spliced_cons (thn (he.run pins s1 σ H1 _ I1 q1) fun iv s2 ⟨y, H2, I2, ry, q2⟩ =>
    Calls.spliced_cons (thn (hf.run pins s2 σ H2 _ I2 q2) fun fv s3 ⟨z, H3, I3, rz, b, ns, us, ey, g, q3⟩ => Calls.spliced_nil ?_))))
  subst ey
  obtain rfl : iv = Value.ref b := ry
  exact t_get2 hu I3 g rz fun w' s4 I4 rw' => ⟨_, H3, I4, rw', q3⟩
def sPutT (td ty tv : TE) : TS := fun D σ H => tv σ H fun v H1 => td σ H1 fun x H2 => ty σ H2 fun y H3 => ∃ a b ns us, x = .ref a ∧ y = .ref b ∧ AtT H3 a b ns us ∧ us.length < sizeLine ∧ D.nx σ (upd H3 a (TDo a (putT us ns b v)))
theorem ps_dputT {o i value : Expr} {td ty tv : TE} {pos pos' : Pos} (hu : X.A.units + 1 < cLine) (ho : PE X o td) (hi : PE X i ty) (hv : PE X value tv) (hs : swapsWith value (some (.Subscript o i pos')) pos.line X.env = pure false) :
    PS X (.Assign [.Subscript o i pos'] value pos) (sPutT td ty tv) := by
  refine ⟨fun pins s σ H D I h => ?_⟩
  refine wpAny_Assign_Subscript (thn (hv.run pins s σ H _ I h) fun r s1 ⟨v, H1, I1, rv, q1⟩ => thn (ho.run pins s1 σ H1 _ I1 q1) fun u s2 ⟨x, H2, I2, rx, q2⟩ => thn (hi.run pins s2 σ H2 _ I2 q2) fun iv s3 ⟨y, H3, I3, ry, a, b, ns, us, ex, ey, g, hz, q3⟩ => ?_) hs
  subst ex ey
  obtain rfl : u = Value.ref a := rx
  obtain rfl : iv = Value.ref b := ry
  exact t_setItem hu I3 g hz rv fun s4 I4 => ⟨σ, _, I4, q3⟩
end
/-! ### over data -/
theorem ktf_val {F : Hp} {kvs : List (List Int × Pd)} {us : UT} (r : KTF F kvs us) (ns : List Int) : match getP kvs ns, valT us ns with
    | none, none => True
    | some d, some p => Da F d p.2
    | _, _ => False := by
  unfold KTF at r
  induction r with
  | nil => exact True.intro
  | @cons p q ps qs h t ih =>
    obtain ⟨h1, h2, h3⟩ := h
    unfold valT getP at ih ⊢
    by_cases e : p.1 = ns
    · rw [List.find?_cons_of_pos (by simpa using e), List.find?_cons_of_pos (by simpa using h1.symm.trans e)]
      exact h3
    · rw [List.find?_cons_of_neg (by simpa using e), List.find?_cons_of_neg (by simpa using fun z => e (h1.trans z))]
      exact ih
theorem ktf_some {F : Hp} {kvs : List (List Int × Pd)} {us : UT} (r : KTF F kvs us) (ns : List Int) : (valT us ns).isSome = (getP kvs ns).isSome := by
  have h := ktf_val r ns
  cases e1 : getP kvs ns <;> cases e2 : valT us ns <;> rw [e1, e2] at h <;> first | rfl | exact h.elim
theorem getP_any {kvs : List (List Int × Pd)} {ns : List Int} : (kvs.any fun kv => decide (kv.1 = ns)) = (getP kvs ns).isSome := by
  unfold getP
  rw [Option.isSome_map]
  induction kvs with
  | nil => rfl
  | cons p ps ih =>
    rw [List.any_cons, List.find?_cons]
    cases decide (p.1 = ns) with
    | true => rfl
    | false => rw [Bool.false_or]; exact ih
theorem ktf_put {F : Hp} {kvs : List (List Int × Pd)} {us : UT} (r : KTF F kvs us) {ns : List Int} {b : Addr} {d : Pd} {v : V} (hb : TupF F b (ns.map V.int)) (a : Da F d v) : KTF F (putP kvs ns d) (putT us ns b v) := by
  unfold putP putT
  rw [getP_any, ktf_some r ns]
  split
  · rename_i hh
    clear hh
    unfold KTF at r ⊢
    induction r with
    | nil => exact .nil
    | @cons p q ps qs h t ih =>
      obtain ⟨h1, h2, h3⟩ := h
      refine .cons ?_ ih
      dsimp only
      by_cases e : p.1 = ns
      · rw [if_pos e, if_pos (h1.symm.trans e)]; exact ⟨h1, h2, a⟩
      · rw [if_neg e, if_neg fun z => e (h1.trans z)]; exact ⟨h1, h2, h3⟩
  · exact Paired.snoc r ⟨rfl, hb, a⟩
theorem ktf_tups {F : Hp} {kvs : List (List Int × Pd)} {us : UT} (r : KTF F kvs us) : ∀ u ∈ us, TupF F u.2.1 (u.1.map V.int) := by
  unfold KTF at r
  induction r with
  | nil => intro u hu; exact nomatch hu
  | @cons p q ps qs h t ih =>
    intro u hu
    rcases List.mem_cons.mp hu with e | hu
    · rw [e]; exact h.2.1
    · exact ih u hu
section
variable {g : Gh} {X : Cx} {ρ ρ1 ρ2 ρ3 : List Sl} {pos p1 pos' apos cpos : Pos} {x : Str} {o e v f : Expr} {k i : Nat} {q : Addr} {d : Pd} {ns : List Int} {kvs kvs0 : List (List Int × Pd)} {rest : List Stmt} {N : List Sl → Prop} {R' : Rt → List Sl → Prop}
theorem tup_int {F : Hp} {ns : List Int} {y : V} (h : Da F (.tuple (ns.map .int)) y) : ∃ b, y = .ref b ∧ TupF F b (ns.map V.int) := by
  obtain ⟨b, vs, e, t, _, dl⟩ := h
  cases dl.ints
  exact ⟨b, e, t⟩
/-- x = {} -/
theorem dss_newT (i : Nat) (hX : X.N.Nodup) (hr : ∀ p, DSs g X rest (ρ.set i (.own p (.dT p []))) N R') (hi : X.N[i]? = some x := by rfl) (hx : Loc X.env.scope x := by first | exact Or.inl rfl | exact Or.inr rfl) (hl : i < ρ.length := by exact Nat.le_of_ble_eq_true rfl)
    (hf : X.fn x = true ∨ X.env.scope.names.lookup x = some .local := by first | exact .inl rfl | exact .inr rfl) :
    DSs g X (.Assign [.Name x pos'] (.Dict [] [] p1) pos :: rest) ρ N R' :=
  dss_cons (N' := fun ρ2 => ∃ p, ρ2 = ρ.set i (.own p (.dT p []))) (ps_mono (ps_set hX hi hx pe_dnewTT (by rfl) hf) fun D σ H ⟨F, S, kn, _⟩ => fun p hp => by
    obtain ⟨S2, fn, no, gn⟩ := S.newO hp (o := TDo p [])
    exact kn _ F _ _ ⟨p, rfl⟩ (S2.set (s := .own p (.dT p [])) hl ⟨rfl, fn, _, upd_same, [], rfl, .nil⟩ fun q hq => by rw [List.mem_singleton.mp hq]; exact ⟨no, gn⟩) (Same.refl _)) fun ρ2 ⟨p, h⟩ => by subst h; exact hr p
theorem atT_of {F H : Hp} {σ : L2.St} {us : UT} {b : Addr} (S : Sg g F H σ ρ) (h : H q = some (TDo q us)) (kt : KTF F kvs us) (hb : TupF F b (ns.map V.int)) : AtT H q b ns us :=
  ⟨h, fun u hu => (ktf_tups kt u hu).mono S.st.sub, hb.mono S.st.sub⟩
/-- t in d -/
theorem dt_inT {ds : List Pd} (hX : XO k X) (he : DE g X e ρ (.d (.tuple ds)) ρ1) (ho : DE g X o ρ1 (.s i) ρ2) (hd : ds = ns.map .int) (h1 : ρ2[i]? = some (.own q (.dT q kvs))) (hm : behindInMarks .In o = false := by with_unfolding_all rfl) :
    DT g X (.Compare e [.In] [o] pos) ρ (getP kvs ns).isSome ρ2 := dt_cmp2 (op_inT hX.hu) (fun F H σ y w Q S ay ao kn => by
    subst hd
    obtain ⟨f1, f2, h3, f3, us, rfl, kt⟩ := S.st.own h1
    have a' : σ[i]? = some (some w) := ao
    rw [f1] at a'
    cases a'
    obtain ⟨b, rfl, tb⟩ := tup_int (show Da F _ y from ay)
    exact ⟨q, b, ns, us, rfl, rfl, atT_of S f3 kt tb, by rw [ktf_some kt]; exact kn _ F H S (Same.refl _) rfl⟩) he ho hm
theorem de_inT {ds : List Pd} (hX : XO k X) (he : DE g X e ρ (.d (.tuple ds)) ρ1) (ho : DE g X o ρ1 (.s i) ρ2) (hd : ds = ns.map .int) (h1 : ρ2[i]? = some (.own q (.dT q kvs))) (hm : behindInMarks .In o = false := by with_unfolding_all rfl) :
    DE g X (.Compare e [.In] [o] pos) ρ (.d (.bool (getP kvs ns).isSome)) ρ2 := de_cmp2 (op_inT hX.hu) (fun F H σ y w Q S ay ao kn => by
    subst hd
    obtain ⟨f1, f2, h3, f3, us, rfl, kt⟩ := S.st.own h1
    have a' : σ[i]? = some (some w) := ao
    rw [f1] at a'
    cases a'
    obtain ⟨b, rfl, tb⟩ := tup_int (show Da F _ y from ay)
    exact ⟨q, b, ns, us, rfl, rfl, atT_of S f3 kt tb, by rw [ktf_some kt]; exact kn _ F H S (Same.refl _) rfl⟩) he ho hm
/-- d[t] -/
theorem de_getT {ds : List Pd} (hX : XO k X) (ho : DE g X o ρ (.s i) ρ) (he : DE g X e ρ (.d (.tuple ds)) ρ1) (hd : ds = ns.map .int) (h1 : ρ1[i]? = some (.own q (.dT q kvs))) (hv : getP kvs ns = some d) (hs : NoSl e := by exact fun _ _ => rfl) : DE g X (.Subscript o e pos) ρ (.d d) ρ1 :=
  pe_mono (pe_dgetT hX.hu ho he hs) fun σ H Q ⟨F, S, kn⟩ => ⟨F, S, fun ov F2 H2 S2 k2 ao => ⟨F2, S2, fun iv F3 H3 S3 k3 ai => by
    subst hd
    obtain ⟨f1, f2, h3, f3, us, rfl, kt⟩ := S3.st.own h1
    have a' : σ[i]? = some (some ov) := ao
    rw [f1] at a'
    cases a'
    obtain ⟨b, rfl, tb⟩ := tup_int (show Da F3 _ iv from ai)
    have kg := ktf_val kt ns
    rw [hv] at kg
    cases ew : valT us ns with
    | none => rw [ew] at kg; exact kg.elim
    | some p =>
      rw [ew] at kg
      exact ⟨q, b, ns, us, p, rfl, rfl, atT_of S3 f3 kt tb, ew, kn p.2 F3 H3 S3 (k2.trans k3) kg⟩⟩⟩
/-- d.get(t, x) -/
theorem de_get2T {ds : List Pd} {dx : Pd} (hX : XO k X) (ho : DE g X o ρ (.s i) ρ) (h0 : ρ[i]? = some (.own q (.dT q kvs0))) (he : DE g X e ρ (.d (.tuple ds)) ρ1) (hf : DE g X f ρ1 (.d dx) ρ2) (hd : ds = ns.map .int) (h1 : ρ2[i]? = some (.own q (.dT q kvs)))
    (hbase : attributeBase o "get" X.env (eval o X.env) = eval o X.env := by rfl) (hfew : ((backTo cpos (starEach [e, f] X.env)).all (fun x => !x.1) && (backToKw cpos (keywordEach [] X.env)).all (fun x => x.1.isSome)
    && decide (([e, f] : List Expr).length + ([] : List Keyword).length + (if ([] : List Keyword).isEmpty then 0 else 1) < 30)) = true := by rfl) (hline : (apos.endLine == cpos.line) = true := by rfl) (htr : backTo cpos (starEach [e, f] X.env) = [(false, eval e X.env), (false, eval f X.env)] := by rfl) :
    DE g X (.Call (.Attribute o "get" apos) [e, f] [] cpos) ρ (.d ((getP kvs ns).getD dx)) ρ2 :=
  pe_mono (pe_dget2T hX.hu ho he hf ⟨hbase, hfew, hline, htr⟩) fun σ H Q ⟨F, S, kn⟩ => ⟨F, S, fun ov F2 H2 S2 k2 ao => by
    obtain ⟨f1, f2, h3, f3, us0, rfl, kt0⟩ := S2.st.own h0
    have a' : σ[i]? = some (some ov) := ao
    rw [f1] at a'
    cases a'
    refine ⟨q, us0, rfl, f3, F2, S2, fun iv F3 H3 S3 k3 ai => ⟨F3, S3, fun zv F4 H4 S4 k4 az => ?_⟩⟩
    subst hd
    obtain ⟨f1', f2', h3', f3', us, rfl, kt⟩ := S4.st.own h1
    obtain ⟨b, rfl, tb⟩ := tup_int (show Da F3 _ iv from ai)
    refine ⟨b, ns, us, rfl, atT_of S4 f3' kt (tb.mono k4), kn _ F4 H4 S4 (k2.trans (k3.trans k4)) ?_⟩
    have kg := ktf_val kt ns
    cases e1 : getP kvs ns <;> cases e2 : valT us ns <;> rw [e1, e2] at kg <;> first | exact kg.elim | exact az | exact kg⟩
/-- d[t] = v -/
theorem dss_putT {ds : List Pd} (hX : XO k X) (hv : DE g X v ρ (.d d) ρ1) (ho : DE g X o ρ1 (.s i) ρ1) (he : DE g X e ρ1 (.d (.tuple ds)) ρ2) (hd : ds = ns.map .int) (h1 : ρ2[i]? = some (.own q (.dT q kvs))) (hz : kvs.length < 16777216)
    (hr : DSs g X rest (ρ2.set i (.own q (.dT q (putP kvs ns d)))) N R') (hs : swapsWith v (some (.Subscript o e pos')) pos.line X.env = pure false := by rfl) :
    DSs g X (.Assign [.Subscript o e pos'] v pos :: rest) ρ N R' :=
  dss_cons (N' := (· = ρ2.set i (.own q (.dT q (putP kvs ns d))))) (ps_mono (ps_dputT hX.hu ho he hv hs) fun D σ H ⟨F, S, kn, _⟩ => ⟨F, S, fun w F1 H1 S1 k1 aw => ⟨F1, S1, fun ov F2 H2 S2 k2 ao => ⟨F2, S2, fun iv F3 H3 S3 k3 ai => by
    subst hd
    obtain ⟨f1, f2, h3, f3, us, rfl, kt⟩ := S3.st.own h1
    have a' : σ[i]? = some (some ov) := ao
    rw [f1] at a'
    cases a'
    obtain ⟨b, rfl, tb⟩ := tup_int (show Da F3 _ iv from ai)
    exact ⟨q, b, ns, us, rfl, rfl, atT_of S3 f3 kt tb, by rw [← Paired.length kt, sizeLine_eq]; exact hz, kn σ F3 _ _ rfl (S3.put h1 ⟨_, rfl, ktf_put kt tb ((show Da F1 d w from aw).mono (k2.trans k3))⟩) (k1.trans (k2.trans k3))⟩⟩⟩⟩) fun ρ3 h => by subst h; exact hr
theorem getP_put {κ : Type} [DecidableEq κ] (kvs : List (κ × Pd)) (k : κ) (d : Pd) (j : κ) : getP (putP kvs k d) j = if j = k then some d else getP kvs j := by
  have hf : ∀ l : List (κ × Pd), (l.map fun kv => if kv.1 = k then (kv.1, d) else kv).find? (fun kv => decide (kv.1 = j)) = (l.find? fun kv => decide (kv.1 = j)).map fun kv => if kv.1 = k then (kv.1, d) else kv := fun l => by
    rw [List.find?_map]
    congr 1
    refine congrArg (fun p => List.find? p l) (funext fun kv => ?_)
    show decide ((if kv.1 = k then (kv.1, d) else kv).1 = j) = _
    split <;> rfl
  unfold getP putP
  by_cases hk : (kvs.any fun kv => decide (kv.1 = k)) = true
  · rw [if_pos hk, hf, Option.map_map]
    by_cases e : j = k
    · subst e
      rw [if_pos rfl]
      obtain ⟨p, hp, hp2⟩ := List.any_eq_true.mp hk
      cases h : kvs.find? fun kv => decide (kv.1 = j) with
      | none => exact absurd hp2 (List.find?_eq_none.mp h p hp)
      | some q =>
        have hq : q.1 = j := by simpa using List.find?_some h
        simp only [Option.map_some, Function.comp]
        rw [if_pos hq]
    · rw [if_neg e]
      cases h : kvs.find? fun kv => decide (kv.1 = j) with
      | none => rfl
      | some q =>
        have hq : q.1 = j := by simpa using List.find?_some h
        simp only [Option.map_some, Function.comp]
        rw [if_neg (by rw [hq]; exact e)]
  · rw [if_neg hk, List.find?_append]
    have hn : ∀ p ∈ kvs, p.1 ≠ k := fun p hp z => hk (List.any_eq_true.mpr ⟨p, hp, decide_eq_true z⟩)
    by_cases e : j = k
    · subst e
      rw [if_pos rfl, List.find?_eq_none.mpr fun p hp z => hn p hp (of_decide_eq_true z)]
      simp
    · rw [if_neg e]
      cases h : kvs.find? fun kv => decide (kv.1 = j) with
      | none => simp [Ne.symm e]
      | some q => simp
theorem putP_len {κ : Type} [DecidableEq κ] (kvs : List (κ × Pd)) (k : κ) (d : Pd) : (putP kvs k d).length ≤ kvs.length + 1 := by
  unfold putP
  split
  · rw [List.length_map]; omega
  · rw [List.length_append, List.length_singleton]; exact Nat.le_refl _
/-! ### list(range(a, b)) -/
theorem rg_da {F : Hp} (a b : Int) : DaL F (rngD a (b - a).toNat) (rgV a b) := by
  have := DaL.of_ints (F := F) (ns := (List.range (b - a).toNat).map fun i => a + ((i : Nat) : Int))
  rw [List.map_map, List.map_map] at this
  exact this
theorem rg_len {a b : Int} (h : RgOk a b) : (rgV a b).length ≤ sizeLine := by
  rw [rgV_length, sizeLine_eq]
  exact h.2.2.2.2
variable {e2 : Expr} {a b : Int} {p p2 pos2 : Pos}
theorem df_listR2 (hX : XO k X) (ha : DE g X e ρ (.d (.int a)) ρ1) (hb : DE g X e2 ρ1 (.d (.int b)) ρ2) (h : RgOk a b) (hg : Gl X "list" := by rfl) (hg2 : Gl X "range" := by rfl) (na : starEach [e, e2] X.env = (false, eval e X.env) :: starEach [e2] X.env := by rfl) (nb : starEach [e2] X.env = (false, eval e2 X.env) :: starEach [] X.env := by rfl) (hp : (backTo pos2 (starEach [e2] X.env)).any (·.1) = false := by rfl)
    (nc : starEach [.Call (.Name "range" p2) [e, e2] [] pos2] X.env = (false, eval (.Call (.Name "range" p2) [e, e2] [] pos2) X.env) :: starEach [] X.env := by rfl) :
    DF g X (.Call (.Name "list" p) [.Call (.Name "range" p2) [e, e2] [] pos2] [] pos) ρ (.lst (rngD a (b - a).toNat)) ρ2 :=
  pe_mono (pe_listRg hX.calm hg hX.bi.list (prg_2 hg2 hX.bi.range ha hb na nb hp) nc) fun σ H Q ⟨F, S, kn⟩ => ⟨F, S, fun x F1 H1 S1 k1 a1 => ⟨F1, S1, fun y F2 H2 S2 k2 a2 => ⟨a, b, a1, a2, h, new_lst S2 (fun p h F' H' S' k' => kn p h F' H' S' (k1.trans (k2.trans k'))) (rg_len h) (rg_da a b)⟩⟩⟩
theorem df_listR1 (hX : XO k X) (hb : DE g X e ρ (.d (.int b)) ρ1) (h : RgOk 0 b) (hg : Gl X "list" := by rfl) (hg2 : Gl X "range" := by rfl) (na : starEach [e] X.env = (false, eval e X.env) :: starEach [] X.env := by rfl)
    (nc : starEach [.Call (.Name "range" p2) [e] [] pos2] X.env = (false, eval (.Call (.Name "range" p2) [e] [] pos2) X.env) :: starEach [] X.env := by rfl) :
    DF g X (.Call (.Name "list" p) [.Call (.Name "range" p2) [e] [] pos2] [] pos) ρ (.lst (rngD 0 b.toNat)) ρ1 :=
  pe_mono (pe_listRg hX.calm hg hX.bi.list (prg_1 hg2 hX.bi.range hb na) nc) fun σ H Q ⟨F, S, kn⟩ => ⟨F, S, fun x F1 H1 S1 k1 a1 => ⟨b, a1, h, new_lst S1 (fun p h F' H' S' k' => kn p h F' H' S' (k1.trans k')) (rg_len h) (by have := rg_da (F := F1) 0 b; rwa [Int.sub_zero] at this)⟩⟩
end
end DL

set_option Elab.async false
set_option linter.all false
set_option maxRecDepth 100000
set_option maxHeartbeats 1000000
set_option autoImplicit false
/-! DL24: dict(zip(xs, ys)), a list or a tuple each. -/
namespace DL
open PySem PySem.Spec PyProof.Rows L2
section
variable {prog : Program} {w : World} {A : Around} {E : Value → Shared → Prop} {s : Shared} {z TI TO i1 i2 T : Addr} {f1 f2 : List Addr} {fl : Bool} {oT : Obj} {n1 n2 i : Nat} {P1 P2 : Nat → Value → Prop} {S1 S2 : Nat → Heap → Prop}
/-- next of a zip whose pair is still held elsewhere -/
theorem zheld_next {Q : Value → Shared → Prop} (S : ZipSep2 z TI TO i1 i2 f1 f2) (D1 : Draws prog w A i1 f1 n1 P1 S1) (D2 : Draws prog w A i2 f2 n2 P2 S2) (hz : IsZipHeld s.heap z TI TO T fl) (hT : s.heap.get? T = some oT) (hTI : IsPair s.heap TI (.ref i1) (.ref i2))
    (t1 : S1 i s.heap) (t2 : S2 i s.heap) (hi1 : i < n1) (hi2 : i < n2)
    (hQ : ∀ x y h' tk, P1 i x → P2 i y → IsZipHeld h' z TI TO T true → S1 (i + 1) h' → S2 (i + 1) h' → IsPair h' s.heap.objs.size x y → (∀ c o, c ≠ z → c ≠ i1 → c ≠ i2 → s.heap.get? c = some o → h'.get? c = some o) → Q (.ref s.heap.objs.size) { s with heap := h', toks := tk }) :
    wpAny (model prog w) A (Builtin.«zip.__next__» ⟨[.ref z], []⟩) (fun fin s' => ∃ v, fin = .done (.ret v) ∧ Q v s') E s := by
  show wpAny _ A (field (.ref z) 2 >>= _) _ _ s
  refine wpAny_bind (wpAny_field hz rfl (x := .bool false) rfl ?_)
  show wpAny _ A (field (.ref z) 3 >>= _) _ _ s
  refine wpAny_bind (wpAny_field hz rfl (x := .ref TI) rfl ?_)
  refine wpAny_bind (wpAny_seqItems hTI rfl ?_)
  show wpAny _ A (Builtin.SmallTypes.ownedTupleIsFree (.ref z) >>= _) _ _ s
  refine wpAny_bind (wpAny_tupleHeld_zip hz hT fun ha za sa => ?_)
  simp only [Bool.false_eq_true, if_false]
  refine wpAny_bind ?_
  rw [← Array.forIn_toList]
  simp only [List.forIn_cons, List.forIn_nil]
  refine wpAny_bind (wpAny_bind (wpAny_holding ?_))
  show wpAny _ A (Builtin.SmallTypes.nextOf (.ref i1) >>= _) _ _ { s with heap := ha }
  refine wpAny_bind (D1.item i { s with heap := ha } _ _ hi1 (D1.over t1 sa S.zf1) fun x hb kb px tb sb => wpAny_pure ?_)
  refine wpAny_pure ?_
  refine wpAny_bind (wpAny_bind (wpAny_holding ?_))
  show wpAny _ A (Builtin.SmallTypes.nextOf (.ref i2) >>= _) _ _ { s with heap := hb, toks := kb }
  refine wpAny_bind (D2.item i { s with heap := hb, toks := kb } _ _ hi2 (D2.over (D2.over t2 sa S.zf2) sb S.sep1_2) fun y hc kc py tc sc => wpAny_pure ?_)
  refine wpAny_pure (wpAny_pure ?_)
  show wpAny _ A (newTuple [x, y] >>= _) _ _ { s with heap := hc, toks := kc }
  refine wpAny_bind (wpAny_newTuple ?_)
  have hsz : hc.objs.size = s.heap.objs.size := (sc.1.trans sb.1).trans sa.1
  have zc : IsZipHeld hc z TI TO T true := (sc.2 _ S.zi2).trans ((sb.2 _ S.zi1).trans za)
  have kp : ∀ c o, c ≠ z → c ≠ i1 → c ≠ i2 → s.heap.get? c = some o → hc.get? c = some o := fun c o c1 c2 c3 q => (sc.2 c c3).trans ((sb.2 c c2).trans ((sa.2 c c1).trans q))
  have t1c : S1 (i + 1) hc := D1.over tb sc S.sep2_1
  have pu : ∀ c o, hc.get? c = some o → (hc.push { cls := .type "tuple", data := .seq #[x, y] }).get? c = some o := fun c o q => Heap.get?_push_of_some _ q
  refine wpAny_pure ⟨.ref hc.objs.size, rfl, ?_⟩
  have hp : IsPair (hc.push { cls := .type "tuple", data := .seq #[x, y] }) hc.objs.size x y := Heap.get?_push_size _ rfl
  rw [hsz] at hp ⊢
  exact hQ x y _ _ px py (pu _ _ zc) (D1.frame _ _ _ t1c fun b _ o q => pu _ _ q) (D2.frame _ _ _ tc fun b _ o q => pu _ _ q) hp fun c o c1 c2 c3 q => pu _ _ (kp c o c1 c2 c3 q)
theorem zheld_stop {Q : Fin → Shared → Prop} (S : ZipSep2 z TI TO i1 i2 f1 f2) (D1 : Draws prog w A i1 f1 n1 P1 S1) (D2 : Draws prog w A i2 f2 n2 P2 S2) (hz : IsZipHeld s.heap z TI TO T fl) (hT : s.heap.get? T = some oT) (hTI : IsPair s.heap TI (.ref i1) (.ref i2))
    (t1 : S1 i s.heap) (t2 : S2 i s.heap) (hi1 : i ≤ n1) (hi2 : i ≤ n2) (hend : i = n1 ∨ i = n2)
    (hE : ∀ h' tk e, (∀ c o, c ≠ z → c ≠ i1 → c ≠ i2 → s.heap.get? c = some o → h'.get? c = some o) → (∃ o, h'.get? e = some o ∧ o.cls = .type "StopIteration") → E (.ref e) { s with heap := h', toks := tk }) :
    wpAny (model prog w) A (Builtin.«zip.__next__» ⟨[.ref z], []⟩) Q E s := by
  show wpAny _ A (field (.ref z) 2 >>= _) _ _ s
  refine wpAny_bind (wpAny_field hz rfl (x := .bool false) rfl ?_)
  show wpAny _ A (field (.ref z) 3 >>= _) _ _ s
  refine wpAny_bind (wpAny_field hz rfl (x := .ref TI) rfl ?_)
  refine wpAny_bind (wpAny_seqItems hTI rfl ?_)
  show wpAny _ A (Builtin.SmallTypes.ownedTupleIsFree (.ref z) >>= _) _ _ s
  refine wpAny_bind (wpAny_tupleHeld_zip hz hT fun ha za sa => ?_)
  simp only [Bool.false_eq_true, if_false]
  refine wpAny_bind ?_
  rw [← Array.forIn_toList]
  simp only [List.forIn_cons, List.forIn_nil]
  refine wpAny_bind (wpAny_bind (wpAny_holding ?_))
  show wpAny _ A (Builtin.SmallTypes.nextOf (.ref i1) >>= _) _ _ { s with heap := ha }
  by_cases h1 : i = n1
  · subst h1
    exact wpAny_bind (D1.done { s with heap := ha } _ _ (D1.over t1 sa S.zf1) fun hb e xb he => hE hb s.toks e (fun c o c1 c2 _ q => xb c o c2 ((sa.2 c c1).trans q)) he)
  · refine wpAny_bind (D1.item i { s with heap := ha } _ _ (by omega) (D1.over t1 sa S.zf1) fun x hb kb px tb sb => wpAny_pure ?_)
    refine wpAny_pure ?_
    refine wpAny_bind (wpAny_bind (wpAny_holding ?_))
    show wpAny _ A (Builtin.SmallTypes.nextOf (.ref i2) >>= _) _ _ { s with heap := hb, toks := kb }
    have h2 : i = n2 := by omega
    subst h2
    exact wpAny_bind (D2.done { s with heap := hb, toks := kb } _ _ (D2.over (D2.over t2 sa S.zf2) sb S.sep1_2) fun hc e xc he => hE hc kb e (fun c o c1 c2 c3 q => xc c o c3 ((sb.2 c c2).trans ((sa.2 c c1).trans q))) he)
theorem zheld_item {Q : Option Value → Shared → Prop} (S : ZipSep2 z TI TO i1 i2 f1 f2) (D1 : Draws prog w A.in1 i1 f1 n1 P1 S1) (D2 : Draws prog w A.in1 i2 f2 n2 P2 S2) (hz : IsZipHeld s.heap z TI TO T fl) (hT : s.heap.get? T = some oT) (hTI : IsPair s.heap TI (.ref i1) (.ref i2))
    (t1 : S1 i s.heap) (t2 : S2 i s.heap) (hi1 : i < n1) (hi2 : i < n2)
    (hQ : ∀ x y h' tk, P1 i x → P2 i y → IsZipHeld h' z TI TO T true → S1 (i + 1) h' → S2 (i + 1) h' → IsPair h' s.heap.objs.size x y → (∀ c o, c ≠ z → c ≠ i1 → c ≠ i2 → s.heap.get? c = some o → h'.get? c = some o) → Q (some (.ref s.heap.objs.size)) { s with heap := h', toks := tk }) :
    wpAny (model prog w) A (pyNext (.ref z)) Q E s := by
  have ty : s.TypeIs (.ref z) "zip" := ⟨_, hz, rfl⟩
  unfold pyNext
  exact wpAny_bind (wpAny_attempt (wpAny_callSpecial?_slot (name := Str.ofString "__next__") ty F.slot_zip_next (wpAny_call_entry F.slot_zip_next ty F.entry_zip_next (zheld_next S D1 D2 hz hT hTI t1 t2 hi1 hi2 fun x y h' tk a b c d e f k => wpAny_pure (hQ x y h' tk a b c d e f k)) (F.args_zip_next_1 _))))
theorem zheld_end {Q : Option Value → Shared → Prop} (S : ZipSep2 z TI TO i1 i2 f1 f2) (D1 : Draws prog w A.in1 i1 f1 n1 P1 S1) (D2 : Draws prog w A.in1 i2 f2 n2 P2 S2) (hz : IsZipHeld s.heap z TI TO T fl) (hT : s.heap.get? T = some oT) (hTI : IsPair s.heap TI (.ref i1) (.ref i2))
    (t1 : S1 i s.heap) (t2 : S2 i s.heap) (hi1 : i ≤ n1) (hi2 : i ≤ n2) (hend : i = n1 ∨ i = n2)
    (hQ : ∀ h' tk, (∀ c o, c ≠ z → c ≠ i1 → c ≠ i2 → s.heap.get? c = some o → h'.get? c = some o) → Q none { s with heap := h', toks := tk }) :
    wpAny (model prog w) A (pyNext (.ref z)) Q E s := by
  have ty : s.TypeIs (.ref z) "zip" := ⟨_, hz, rfl⟩
  unfold pyNext
  refine wpAny_bind (wpAny_attempt (wpAny_callSpecial?_slot (name := Str.ofString "__next__") ty F.slot_zip_next (wpAny_call_entry F.slot_zip_next ty F.entry_zip_next (zheld_stop S D1 D2 hz hT hTI t1 t2 hi1 hi2 hend fun h' tk e k he => ?_) (F.args_zip_next_1 _))))
  obtain ⟨o, ho, hc⟩ := he
  exact wpAny_bind (wpAny_isInstance (T := "StopIteration") (b := true) ⟨o, ho, hc⟩ isSubtype_stop (wpAny_pure (hQ h' tk k)))
end
section
variable {prog : Program} {w : World}
theorem gb_at {b : Bool} {h h' : Heap} {a : Addr} {items : Array Value} (x : IsB b h a items) (k : ∀ o, h.get? a = some o → h'.get? a = some o) : IsB b h' a items := by
  cases b with
  | false => exact (show h.IsList a items from x).at k
  | true => obtain ⟨o, e, r⟩ := (show h.IsTuple a items from x); exact ⟨o, k _ e, r⟩
/-- zip(xs, ys) as what dict() reads -/
theorem pairB {z TI TO i1 i2 l1 l2 : Addr} {b1 b2 : Bool} (S : ZipSep2 z TI TO i1 i2 [i1, l1] [i2, l2]) (e1 : l1 ≠ i1) (e2 : l2 ≠ i2) (xs ys : Array Value) :
    PairArg prog w "zip" z [z, TI, TO, i1, i2, l1, l2] [z, TO, i1, i2] (min xs.size ys.size) (fun i k v => xs[i]? = some k ∧ ys[i]? = some v)
      (fun h => IsZip h z TI TO .none ∧ IsPair h TI (.ref i1) (.ref i2) ∧ (∃ a b, IsPair h TO a b) ∧ (ItB b1 h i1 l1 0 ∧ IsB b1 h l1 xs) ∧ (ItB b2 h i2 l2 0 ∧ IsB b2 h l2 ys)) where
  type := fun s q => ⟨_, q.1, rfl⟩
  notDict := by decide
  keep := by
    rintro h h' ⟨q1, q2, ⟨u, v, q3⟩, q4, q5⟩ k
    exact ⟨k _ _ q1, k _ _ q2, ⟨u, v, k _ _ q3⟩, ⟨q4.1.at fun o e => k _ o e, gb_at q4.2 fun o e => k _ o e⟩, q5.1.at fun o e => k _ o e, gb_at q5.2 fun o e => k _ o e⟩
  there := by
    rintro h ⟨q1, q2, ⟨u, v, q3⟩, q4, q5⟩ b hb
    have s1 : ∃ o, h.get? l1 = some o := by
      cases b1 with
      | false => obtain ⟨o, a, _⟩ := (show h.IsList l1 xs from q4.2); exact ⟨o, a⟩
      | true => obtain ⟨o, a, _⟩ := (show h.IsTuple l1 xs from q4.2); exact ⟨o, a⟩
    have s2 : ∃ o, h.get? l2 = some o := by
      cases b2 with
      | false => obtain ⟨o, a, _⟩ := (show h.IsList l2 ys from q5.2); exact ⟨o, a⟩
      | true => obtain ⟨o, a, _⟩ := (show h.IsTuple l2 ys from q5.2); exact ⟨o, a⟩
    obtain ⟨o4, r4, _⟩ := q4.1.obj
    obtain ⟨o5, r5, _⟩ := q5.1.obj
    simp only [List.mem_cons, List.not_mem_nil, or_false] at hb
    rcases hb with e | e | e | e | e | e | e <;> rw [e]
    · exact ⟨_, q1⟩
    · exact ⟨_, q2⟩
    · exact ⟨_, q3⟩
    · exact ⟨_, r4⟩
    · exact ⟨_, r5⟩
    · exact s1
    · exact s2
  sub := fun b hb => by
    simp only [List.mem_cons, List.not_mem_nil, or_false] at hb ⊢
    rcases hb with e | e | e | e <;> simp [e]
  noKeys := fun A s Q E hA q h => getAttrOr_miss_zip q.1 rfl rfl rfl zip_no_keys (by decide +kernel) hA h
  iter := by
    intro A s d Q E hA q hd hdf h
    obtain ⟨q1, q2, ⟨u, v, q3⟩, q4, q5⟩ := q
    simp only [List.mem_cons, List.not_mem_nil, or_false, not_or] at hdf
    obtain ⟨dz, dTI, dTO, d1, d2, dl1, dl2⟩ := hdf
    have D1 := drawsB (prog := prog) (w := w) (A := A.in1) b1 hA i1 l1 e1 xs
    have D2 := drawsB (prog := prog) (w := w) (A := A.in1) b2 hA i2 l2 e2 ys
    refine wpAny_pyIter_zip q1 (h z [z, TO, i1, i2] (fun i g => IsPair g TI (.ref i1) (.ref i2) ∧ (ItB b1 g i1 l1 i ∧ IsB b1 g l1 xs) ∧ (ItB b2 g i2 l2 i ∧ IsB b2 g l2 ys) ∧
      ((IsZip g z TI TO .none ∧ ∃ a b, IsPair g TO a b) ∨ ∃ T f o, IsZipHeld g z TI TO T f ∧ g.get? T = some o ∧ T ≠ z ∧ T ≠ i1 ∧ T ≠ i2 ∧ T ≠ d)) s.heap s.toks ?_ ⟨q2, q4, q5, .inl ⟨q1, u, v, q3⟩⟩ (fun _ _ e => e) fun b hb => .inl hb)
    have away : ∀ b, b ∈ [i1, l1] ∨ b ∈ [i2, l2] → b ≠ d := fun b hb e => by
      subst e
      simp only [List.mem_cons, List.not_mem_nil, or_false] at hb
      rcases hb with (e | e) | (e | e)
      · exact d1 e
      · exact dl1 e
      · exact d2 e
      · exact dl2 e
    exact {
      off := by
        intro hm
        simp only [List.mem_cons, List.not_mem_nil, or_false] at hm
        rcases hm with e | e | e | e
        · exact dz e
        · exact dTO e
        · exact d1 e
        · exact d2 e
      frame := by
        rintro i g g' ⟨a1, a2, a3, a4⟩ k
        refine ⟨k _ _ (Ne.symm dTI) a1, D1.frame _ _ _ a2 fun b hb o e => k b o (away b (.inl hb)) e, D2.frame _ _ _ a3 fun b hb o e => k b o (away b (.inr hb)) e, ?_⟩
        rcases a4 with ⟨c1, a, b, c2⟩ | ⟨T, f, o, c1, c2, r1, r2, r3, r4⟩
        · exact .inl ⟨k _ _ (Ne.symm dz) c1, a, b, k _ _ (Ne.symm dTO) c2⟩
        · exact .inr ⟨T, f, o, k _ _ (Ne.symm dz) c1, k _ _ r4 c2, r1, r2, r3, r4⟩
      item := by
        rintro i t R F hi ⟨a1, a2, a3, a4⟩ hds hR
        have h1 : i < xs.size := Nat.lt_of_lt_of_le hi (Nat.min_le_left ..)
        have h2 : i < ys.size := Nat.lt_of_lt_of_le hi (Nat.min_le_right ..)
        have lt : ∀ {c o}, t.heap.get? c = some o → t.heap.objs.size ≠ c := fun e => Nat.ne_of_gt (Heap.lt_size e)
        have m1 : t.heap.objs.size ≠ i1 := by obtain ⟨o, e, _⟩ := a2.1.obj; exact lt e
        have m2 : t.heap.objs.size ≠ i2 := by obtain ⟨o, e, _⟩ := a3.1.obj; exact lt e
        rcases a4 with ⟨c1, a, b, c2⟩ | ⟨T, f, o, c1, c2, r1, r2, r3, r4⟩
        · refine wpAny_pyNext_zipD2_item S D1 D2 c1 a1 c2 a2 a3 h1 h2 fun x y g tk px py z1 z2 z3 z4 z5 _ k => ?_
          have kw : ∀ c o, c ∉ [z, TO, i1, i2] → t.heap.get? c = some o → g.get? c = some o := fun c o hc e => by
            simp only [List.mem_cons, List.not_mem_nil, or_false, not_or] at hc
            exact k c o hc.1 hc.2.1 hc.2.2.1 hc.2.2.2 e
          exact hR t.heap.objs.size x y g tk ⟨px, py⟩ (.inl ⟨_, z5, rfl, _, rfl⟩) ⟨k _ _ S.TIz S.TITO S.TIi1 S.TIi2 a1, z3, z4, .inr ⟨t.heap.objs.size, false, _, z1, z5, lt c1, m1, m2, Nat.ne_of_gt hds⟩⟩ kw
        · refine zheld_item S D1 D2 c1 c2 a1 a2 a3 h1 h2 fun x y g tk px py z1 z3 z4 z5 k => ?_
          have kw : ∀ c o, c ∉ [z, TO, i1, i2] → t.heap.get? c = some o → g.get? c = some o := fun c o hc e => by
            simp only [List.mem_cons, List.not_mem_nil, or_false, not_or] at hc
            exact k c o hc.1 hc.2.2.1 hc.2.2.2 e
          exact hR t.heap.objs.size x y g tk ⟨px, py⟩ (.inl ⟨_, z5, rfl, _, rfl⟩) ⟨k _ _ S.TIz S.TIi1 S.TIi2 a1, z3, z4, .inr ⟨T, true, o, z1, k _ _ r1 r2 r3 c2, r1, r2, r3, r4⟩⟩ kw
      done := by
        rintro t R F ⟨a1, a2, a3, a4⟩ hR
        have h1 : min xs.size ys.size ≤ xs.size := Nat.min_le_left ..
        have h2 : min xs.size ys.size ≤ ys.size := Nat.min_le_right ..
        have h3 : min xs.size ys.size = xs.size ∨ min xs.size ys.size = ys.size := by omega
        rcases a4 with ⟨c1, a, b, c2⟩ | ⟨T, f, o, c1, c2, _⟩
        · refine wpAny_pyNext_zipD2_end S D1 D2 c1 a1 c2 a2 a3 h1 h2 h3 fun g tk k => hR g tk fun c o hc e => ?_
          simp only [List.mem_cons, List.not_mem_nil, or_false, not_or] at hc
          exact k c o hc.1 hc.2.1 hc.2.2.1 hc.2.2.2 e
        · refine zheld_end S D1 D2 c1 c2 a1 a2 a3 h1 h2 h3 fun g tk k => hR g tk fun c o hc e => ?_
          simp only [List.mem_cons, List.not_mem_nil, or_false, not_or] at hc
          exact k c o hc.1 hc.2.2.1 hc.2.2.2 e }
end
/-! ### by values -/
theorem kv_zip {P : Program} {w : World} : ∀ {xs ys : List V} {ks : List Int} {us vs : List Value}, xs = ks.map V.int → Vals xs us → Vals ys vs → ∃ kvs : List (Key × Value), kvs.length = min us.length vs.length ∧ (∀ (i : Nat) (k v : Value), us[i]? = some k → vs[i]? = some v → ∃ j : Key, kvs[i]? = some (j, v) ∧ (mixKind P w).is j k = true) ∧
    L2.KV ((ks.zip ys).map fun p => ((Sum.inl p.1 : Key), p.2)) kvs
  | [], ys, ks, us, vs, hk, h1, h2 => by
    cases ks with
    | cons a b => cases hk
    | nil =>
      cases h1
      exact ⟨[], by simp, fun i k v e => by simp at e, .nil⟩
  | x :: xs, [], ks, us, vs, hk, h1, h2 => by
    cases h2
    exact ⟨[], by simp, fun i k v e e' => by simp at e', by rw [List.zip_nil_right]; exact .nil⟩
  | x :: xs, y :: ys, [], us, vs, hk, h1, h2 => by cases hk
  | x :: xs, y :: ys, k :: ks, us, vs, hk, h1, h2 => by
    rw [List.map_cons, List.cons.injEq] at hk
    obtain ⟨rfl, hk⟩ := hk
    cases h1 with
    | @cons _ u _ us r1 t1 =>
      cases h2 with
      | @cons _ v _ vs r2 t2 =>
        obtain ⟨kvs, l, g, q⟩ := kv_zip (P := P) (w := w) hk t1 t2
        refine ⟨(.inl k, v) :: kvs, by simp only [List.length_cons]; omega, fun i a b ea eb => ?_, .cons ⟨rfl, r2⟩ q⟩
        cases i with
        | zero =>
          simp only [List.getElem?_cons_zero, Option.some.injEq] at ea eb
          subst ea eb
          exact ⟨.inl k, rfl, kV_is (k := .inl k) r1⟩
        | succ i => exact g i a b (by simpa using ea) (by simpa using eb)
def tDictZip (K : PySem.W.Frag) (ta : TA) : TE := fun σ H Q => ta σ H fun vs H1 => ∃ (b1 b2 : Bool) (a c : Addr) (ks : List Int) (ys : List V), vs = [.ref a, .ref c] ∧ SqB b1 K H1 a (ks.map V.int) ∧ SqB b2 K H1 c ys ∧
  ∀ p, H1 p = none → Q (.ref p) (upd H1 p (.dK (mergeK [] ((ks.zip ys).map fun q => ((Sum.inl q.1 : Key), q.2)))))
theorem pe_dictZip {X : Cx} {e e2 : Expr} {ta : TA} {p p2 pos pos2 : Pos} (hc : X.calm = true) (hg0 : Gl X "dict") (hm0 : X.mg "dict" = none) (hg : Gl X "zip") (hm : X.mg "zip" = none) (ha : PA X [e, e2] ta)
    (hs : starEach [e, e2] X.env = (false, eval e X.env) :: starEach [e2] X.env := by rfl) (hpl : (backTo pos2 (starEach [e2] X.env)).any (·.1) = false := by rfl)
    (hs0 : starEach [.Call (.Name "zip" p2) [e, e2] [] pos2] X.env = (false, eval (.Call (.Name "zip" p2) [e, e2] [] pos2) X.env) :: starEach [] X.env := by rfl) :
    PE X (.Call (.Name "dict" p) [.Call (.Name "zip" p2) [e, e2] [] pos2] [] pos) (tDictZip X.K ta) := by
  refine ⟨fun pins s σ H Q I h => ?_⟩
  refine Call_ (ld_blt I hg0 hm0 PyProof.Rows.boot_dict (PyProof.Rows.callWith_type1 (PyProof.Rows.args_cons ?_ hs0)))
  refine Call_ (ld_blt I hg hm PyProof.Rows.boot_zip (PyProof.Rows.callWith_type1 (thn (ha.run pos2 pins s σ H _ I h) fun us s1 ⟨vs, H1, I1, r1, q1⟩ => ?_) hs hpl))
  obtain ⟨b1, b2, a, c, ks, ys, ex, hqx, hqy, q⟩ := q1
  subst ex
  cases r1 with
  | cons r rr =>
    cases rr with
    | cons r' rr =>
      cases rr
      cases r
      cases r'
      obtain ⟨its, rv, g1, lx, la⟩ := DL.Inv.sqB I1 hqx
      obtain ⟨its2, rv2, g2, _, lc⟩ := DL.Inv.sqB I1 hqy
      refine zip_begins2 (beginsB b1 a its.toArray) (beginsB b2 c its2.toArray) g1 g2 fun h' hz hTI hTO h1 h2 hsz hk => PyProof.Rows.args_nil ?_
      have I2 : Inv X pins σ H1 { s1 with heap := h' } := I1.kept (t' := s1.toks) hk
      obtain ⟨kvs, kl, kr, kv⟩ := kv_zip (P := X.prog) (w := X.w) rfl rv rv2
      have S : ZipSep2 (s1.heap.objs.size + 4) (s1.heap.objs.size + 2) (s1.heap.objs.size + 3) s1.heap.objs.size (s1.heap.objs.size + 1) [s1.heap.objs.size, a] [s1.heap.objs.size + 1, c] :=
        zip_sep2 (N := s1.heap.objs.size) (fp1 := [a]) (fp2 := [c]) (fun d hd => by rw [List.mem_singleton.mp hd]; exact la) (fun d hd => by rw [List.mem_singleton.mp hd]; exact lc)
      have ml : kvs.length ≤ sizeLine := by
        rw [kl]
        exact Nat.le_trans (Nat.min_le_left _ _) (by rw [← Paired.length rv]; exact lx)
      refine call_dict_pairs (P := pairB S (Nat.ne_of_lt la) (Nat.ne_of_lt (Nat.lt_succ_of_lt lc)) its.toArray its2.toArray) (knd := mixKind X.prog X.w) (kvs := kvs) (s := { s1 with heap := h' }) (I1.ok.hd hc)
        ⟨hz, hTI, ⟨_, _, hTO⟩, ⟨itB_new h1, gb_at g1 fun o q => hk _ o q⟩, itB_new h2, gb_at g2 fun o q => hk _ o q⟩ ⟨by rw [kl, List.size_toArray, List.size_toArray], fun i k v e => kr i k v (by simpa using e.1) (by simpa using e.2)⟩ (by rw [List.size_toArray, List.size_toArray, ← kl]; exact ml) fun h2 tk hd' k => ?_
      have kp : ∀ b o, s1.heap.get? b = some o → h2.get? b = some o := fun b o q => k b o (fun hm => by
        have lt : b < s1.heap.objs.size := Heap.lt_size q
        simp only [List.mem_cons, List.not_mem_nil, or_false] at hm
        rcases hm with e | e | e | e
        · exact absurd (e ▸ lt) (Nat.not_lt.mpr (Nat.le_add_right _ _))
        · exact absurd (e ▸ lt) (Nat.not_lt.mpr (Nat.le_add_right _ _))
        · exact absurd (e ▸ lt) (Nat.lt_irrefl _)
        · exact absurd (e ▸ lt) (Nat.not_lt.mpr (Nat.le_add_right _ _))) (hk b o q)
      have hle : s1.heap.objs.size ≤ h'.objs.size := by rw [hsz]; omega
      have hm : (h'.objs.size == sysModules) = false := beq_eq_false_iff_ne.mpr fun z => by
        have hb := I1.big
        rw [z] at hle
        exact absurd (Nat.lt_of_le_of_lt hle hb) (Nat.lt_irrefl _)
      have hlen : (mergeK [] ((ks.zip ys).map fun q => ((Sum.inl q.1 : Key), q.2))).length ≤ sizeLine := by
        refine Nat.le_trans (length_mergeK _ []) ?_
        rw [List.length_nil, Nat.zero_add, kv.length]
        exact ml
      exact ⟨.ref h'.objs.size, _, I1.laid (a := h'.objs.size) (o := .dK (mergeK [] ((ks.zip ys).map fun q => ((Sum.inl q.1 : Key), q.2)))) (t' := tk) kp hle (show ObjOk X.prog X.w _ _ _ (.dK _) from ⟨hlen, hm, merged [] kvs, KV.merge kv .nil, hd'⟩), rfl, q _ (I1.hok.fresh hle)⟩
variable {g : Gh} {X : Cx} {ρ ρ1 : List Sl} {pos pos2 p p2 : Pos} {e e2 : Expr} {k n : Nat}
theorem kd_zip {F : Hp} : ∀ {ks : List Int} {ds : List Pd} {ys : List V}, DaL F ds ys → KD F ((ks.zip ds).map fun q => ((Sum.inl q.1 : Key), q.2)) ((ks.zip ys).map fun q => ((Sum.inl q.1 : Key), q.2))
  | [], _, _, _ => .nil
  | k :: ks, [], _, h => by cases (show _ = _ from h); exact .nil
  | k :: ks, d :: ds, _, ⟨v, ws, e, a, b⟩ => by subst e; exact .cons ⟨rfl, a⟩ (kd_zip b)
/-- dict(zip(xs, ys)) -/
theorem df_dictZip {r r2 : R} {ks : List Int} {ds es : List Pd} (hX : XO k X) (ha : DA g X [e, e2] ρ [r, r2] ρ1) (hr : seqD r = some es) (he : es = ks.map .int) (hr2 : seqD r2 = some ds) (hg0 : Gl X "dict" := by rfl) (hg : Gl X "zip" := by rfl)
    (hs : starEach [e, e2] X.env = (false, eval e X.env) :: starEach [e2] X.env := by rfl) (hpl : (backTo pos2 (starEach [e2] X.env)).any (·.1) = false := by rfl)
    (hs0 : starEach [.Call (.Name "zip" p2) [e, e2] [] pos2] X.env = (false, eval (.Call (.Name "zip" p2) [e, e2] [] pos2) X.env) :: starEach [] X.env := by rfl) :
    DF g X (.Call (.Name "dict" p) [.Call (.Name "zip" p2) [e, e2] [] pos2] [] pos) ρ (.dK (mergeP [] ((ks.zip ds).map fun q => ((Sum.inl q.1 : Key), q.2)))) ρ1 :=
  pe_mono (pe_dictZip hX.calm hg0 hX.bi.dict hg hX.bi.zip ha hs hpl hs0) fun σ H Q ⟨F, S, kn⟩ => ⟨F, S, fun vs F1 H1 S1 k1 a => by
    subst he
    obtain ⟨v, w, rfl, a1, a2⟩ := rs2 a
    obtain ⟨b1, p, xs, rfl, dl, _, sq⟩ := seqD_at hr a1
    obtain ⟨b2, q, ys, rfl, dl2, _, sq2⟩ := seqD_at hr2 a2
    have ex := dl.ints
    subst ex
    refine ⟨b1, b2, p, q, ks, ys, rfl, sq _ _ S1.st.sub, sq2 _ _ S1.st.sub, fun c hc => ?_⟩
    obtain ⟨S2, fn, no, gn⟩ := S1.newO hc (o := .dK (mergeK [] ((ks.zip ys).map fun q => ((Sum.inl q.1 : Key), q.2))))
    exact kn c _ F1 _ S2 k1 fn no gn upd_same ⟨_, rfl, (kd_zip dl2).merge .nil⟩⟩
end DL

set_option Elab.async false
set_option linter.all false
set_option maxRecDepth 100000
set_option maxHeartbeats 2000000
set_option autoImplicit false
/-! DL23: t * n, sorted(set(t)). -/
namespace DL
open PySem PySem.Spec PyProof.Rows L2 LB
/-! ### t * n -/
theorem mulNone (l : Addr) (vs : Array Value) (m : Nat) (dd : Option Addr) (sl : Array (Option Value)) (x : Int) (u : Tok) (b0 : (decide (x < -(2 ^ 63)) || decide (x ≥ 2 ^ 63)) = false) (b1 : (vs.isEmpty || x == 1) = false) (b2 : (decide (x ≤ 0) || vs.isEmpty) = true) :
    Meets (Builtin.«tuple.__mul__» ⟨[.ref l, .int x u], []⟩) (fun _ R s => s.heap.get? l = some { cls := .type "tuple", dict := dd, data := .seq vs m, slots := sl } ∧
      R (.ok (.ret (Value.ref s.heap.objs.size))) { s with heap := s.heap.push { cls := Value.type "tuple", data := Data.seq #[] } }) :=
  .of_wp fun prog w A R s ⟨hl, q⟩ => by
    obtain ⟨hp, gg, d, tk, os⟩ := s
    have f1 := AutoSeq1.idx_int
    wp_walk using wpAny_loadPart' hl
    repeat (first
      | (refine wpAny_ite_false (decide_eq_false (by rw [b0]; exact Bool.false_ne_true)) ?_; wp_walk using wpAny_loadPart' hl)
      | (refine wpAny_ite_false (decide_eq_false (by rw [b1]; exact Bool.false_ne_true)) ?_; wp_walk using wpAny_loadPart' hl)
      | (refine wpAny_ite_true (decide_eq_true b2) ?_; wp_walk using wpAny_loadPart' hl))
    exact ⟨_, rfl, q⟩
theorem mulSame (l : Addr) (vs : Array Value) (m : Nat) (dd : Option Addr) (sl : Array (Option Value)) (u : Tok) :
    Meets (Builtin.«tuple.__mul__» ⟨[.ref l, .int 1 u], []⟩) (fun _ R s => s.heap.get? l = some { cls := .type "tuple", dict := dd, data := .seq vs m, slots := sl } ∧ R (.ok (.ret (Value.ref l))) s) :=
  .of_wp fun prog w A R s ⟨hl, q⟩ => by
    obtain ⟨hp, gg, d, tk, os⟩ := s
    have f1 := AutoSeq1.idx_int
    have b1 : (vs.isEmpty || (1 : Int) == 1) = true := by simp
    wp_walk using wpAny_loadPart' hl
    repeat (first
      | (refine wpAny_ite_true (decide_eq_true b1) ?_; wp_walk using wpAny_loadPart' hl))
    exact ⟨_, rfl, q⟩
/-- the tuple as often as n says -/
def repD {α : Type} (xs : List α) (n : Int) : List α := (List.replicate n.toNat xs).flatten
def rRepF (K : PySem.W.Frag) : R2 := fun x y H Q => ∃ l k xs, x = .ref l ∧ y = .int k ∧ SqT K H l xs ∧ xs ≠ [] ∧ -1000 ≤ k ∧ k ≤ 1000 ∧ xs.length ≤ 1000 ∧
  (k = 1 → Q (.ref l) H) ∧ (∀ p ob, H p = none → ob.dict = none → Q (.ref p) (upd H p (.frz ob (.tup (repD xs k)))))
section
variable {X : Cx}
theorem op_repF : OpR X (binaryOp .Mult) (rRepF X.K) := by
  intro pins s σ H x y v u Q I rx ry h
  obtain ⟨l, k, xs, rfl, rfl, hT, hne, h0, h2, hz, q1, q2⟩ := h
  cases rx
  obtain ⟨t, rfl⟩ := ry
  obtain ⟨its, r, ⟨⟨cls, dd, data, sl⟩, ho, hc, n, hd⟩, hs⟩ := I.tuple hT
  simp only at hc hd
  subst hc hd
  have hle : its.length = xs.length := r.length.symm
  have hn : its ≠ [] := fun e => hne (List.eq_nil_of_length_eq_zero (by rw [← hle, e]; rfl))
  have hi : its.toArray.isEmpty = false := by
    cases its with
    | nil => exact absurd rfl hn
    | cons a b => rfl
  have b0 : (decide (k < -(2 ^ 63)) || decide (k ≥ 2 ^ 63)) = false := by
    rw [Bool.or_eq_false_iff]
    exact ⟨decide_eq_false (by omega), decide_eq_false (by omega)⟩
  refine wpAny_binaryOp_repeat_ref (T := "tuple") (U := "int") (by decide) ⟨_, ho, rfl⟩ (fun s' => typeIs_int s' k t) noFill_tuple_mul F.fills_int_mul F.slot_int_rmul repeat_tuple F.slot_int_index.lookup
    (call_meets F.slot_int_rmul (typeIs_int s k t) F.entry_int_rmul (F.args_int_rmul_2 _ _) (int_rmul_tuple k t l its.toArray n dd sl)
      ⟨ho, rfl, ⟨_, ho, rfl⟩, ?_⟩)
  by_cases k1 : k = 1
  · subst k1
    exact call_meets F.slot_tuple_mul ⟨_, ho, rfl⟩ F.entry_tuple_mul (F.args_tuple_mul_2 _ _) (mulSame l its.toArray n dd sl t) ⟨ho, .ref l, H, I, rfl, q1 rfl⟩
  · have b1 : (its.toArray.isEmpty || k == 1) = false := by
      rw [hi, Bool.false_or]
      exact beq_eq_false_iff_ne.mpr k1
    by_cases k2 : k ≤ 0
    · have b2 : (decide (k ≤ 0) || its.toArray.isEmpty) = true := by rw [decide_eq_true k2]; rfl
      have e0 : repD xs k = [] := by unfold repD; rw [show k.toNat = 0 from by omega]; rfl
      rw [e0] at q2
      exact call_meets F.slot_tuple_mul ⟨_, ho, rfl⟩ F.entry_tuple_mul (F.args_tuple_mul_2 _ _) (mulNone l its.toArray n dd sl k t b0 b1 b2) ⟨ho, laidF (its := []) I .nil (Nat.zero_le _) q2⟩
    · have b2 : (decide (k ≤ 0) || its.toArray.isEmpty) = false := by
        rw [hi, Bool.or_false]
        exact decide_eq_false k2
      have hm : ((its.toArray.size : Nat) : Int) * k ≤ 1000000 := by
        rw [List.size_toArray, hle]
        have := Int.mul_le_mul_of_nonneg_right (show ((xs.length : Nat) : Int) ≤ 1000 by omega) (show 0 ≤ k by omega)
        omega
      have lens : ∀ {α : Type} (ys : List α), ys.length ≤ 1000 → (repD ys k).length ≤ sizeLine := fun ys hy => by
        unfold repD
        rw [PyProof.Rows.lm_len_rep_flat, sizeLine_eq]
        have := Nat.mul_le_mul (show k.toNat ≤ 1000 by omega) hy
        omega
      have b3 : Builtin.Tuple.tupleTooMany (((its.toArray.size : Nat) : Int) * k) = false := by
        unfold Builtin.Tuple.tupleTooMany
        rw [sizeLine_eq]
        exact decide_eq_false (by omega)
      have b4 : (List.foldl (fun x1 x2 => x1 ++ x2) #[] (List.replicate k.toNat its.toArray)).size ≤ sizeLine := by
        rw [size_rep, List.size_toArray]
        exact lens its (by omega)
      refine call_meets F.slot_tuple_mul ⟨_, ho, rfl⟩ F.entry_tuple_mul (F.args_tuple_mul_2 _ _) (tuple_mulW l its.toArray n dd sl k t b0 b1 b2 (by omega) b3 b4) ⟨ho, ?_⟩
      rw [size_rep]
      exact laidF I (r.rep k.toNat) (lens xs hz) q2
end
section
variable {g : Gh} {X : Cx} {ρ ρ1 ρ2 : List Sl} {pos p p2 q : Pos} {a b : Expr} {k : Nat} {n : Int} {ds : List Pd}
theorem rep_da {F : Hp} {vs : List V} (h : DaL F ds vs) : ∀ m : Nat, DaL F (List.replicate m ds).flatten (List.replicate m vs).flatten
  | 0 => rfl
  | m + 1 => by
    rw [List.replicate_succ, List.replicate_succ, List.flatten_cons, List.flatten_cons]
    exact h.append (rep_da h m)
theorem de_rep (ha : DE g X a ρ (.d (.tuple ds)) ρ1) (hb : DE g X b ρ1 (.d (.int n)) ρ2) (hne : ds ≠ []) (h0 : -1000 ≤ n) (h1 : n ≤ 1000) (hz : ds.length ≤ 1000 := by exact Nat.le_of_ble_eq_true rfl) : DE g X (.BinOp a .Mult b pos) ρ (.d (.tuple (repD ds n))) ρ2 :=
  de_op2 op_repF (fun F H σ v w Q S av aw kn => by
    obtain ⟨c, vs, rfl, t, z, dl⟩ := av
    have hl := dl.length
    have r1 : DaL F (repD ds n) (repD vs n) := rep_da dl n.toNat
    refine ⟨c, n, vs, rfl, aw, (t.mono S.st.sub).sq, fun e => hne (List.eq_nil_of_length_eq_zero (by rw [hl, e]; rfl)), h0, h1, by rw [← hl]; exact hz, fun e => ?_, ?_⟩
    · refine kn _ F H S (Same.refl _) ⟨c, vs, rfl, t, z, ?_⟩
      subst e
      have e1 : repD ds 1 = ds := by unfold repD; simp
      rw [e1]
      exact dl
    · refine new_tup S (fun v F' H' S' k' r => kn v F' H' S' k' r) ?_ r1
      rw [← r1.length]
      unfold repD
      rw [PyProof.Rows.lm_len_rep_flat, sizeLine_eq]
      have := Nat.mul_le_mul (show n.toNat ≤ 1000 by omega) hz
      omega) ha hb
/-! ### sorted(set(t)) -/
def sdL (ns : List Int) : List Int := srt (dd ns)
theorem sdL_unique {ns ms : List Int} (h : ms.Pairwise (· < ·)) (hm : ∀ k, k ∈ ms ↔ k ∈ ns) : ms = sdL ns := by
  refine srt_unique ?_ (h.imp fun h => Int.le_of_lt h)
  refine List.perm_iff_count.mpr fun x => ?_
  have n1 : ms.Nodup := h.imp fun h => Int.ne_of_lt h
  rw [n1.count, (nodup_dd ns).count]
  by_cases hx : x ∈ ns
  · rw [if_pos ((hm x).mpr hx), if_pos (mem_dd.mpr hx)]
  · rw [if_neg fun z => hx ((hm x).mp z), if_neg fun z => hx (mem_dd.mp z)]
def tSortSetT (K : PySem.W.Frag) (ta : TE) : TE := fun σ H Q => ta σ H fun x H1 => ∃ (l : Addr) (ns : List Int), x = V.ref l ∧ SqT K H1 l (ns.map V.int) ∧ ns.length < 64 ∧ ∀ p, H1 p = none → Q (.ref p) (upd H1 p (.lst ((sdL ns).map V.int)))
theorem pe_sortSetT {ta : TE} (hc : X.calm = true) (hg : Gl X "sorted") (hm : X.mg "sorted" = none) (hg2 : Gl X "set") (hm2 : X.mg "set" = none) (ha : PE X a ta)
    (na : starEach [a] X.env = (false, eval a X.env) :: starEach [] X.env := by rfl) (na2 : starEach [.Call (.Name "set" p2) [a] [] q] X.env = (false, eval (.Call (.Name "set" p2) [a] [] q) X.env) :: starEach [] X.env := by rfl) : PE X (.Call (.Name "sorted" p) [.Call (.Name "set" p2) [a] [] q] [] pos) (tSortSetT X.K ta) := by
  refine ⟨fun pins s σ H Q I h => ?_⟩
  refine Call_ (ld_blt I hg hm (by decide +kernel : bootBuiltins "sorted" = some (.builtin "sorted")) ?_)
  refine PyProof.Rows.callWith_builtin1 (PyProof.Rows.args_cons ?_ na2) rfl rfl
  refine Call_ (ld_blt I hg2 hm2 PyProof.Rows.boot_set ?_)
  refine PyProof.Rows.callWith_type1 (PyProof.Rows.args_cons (thn (ha.run pins s σ H _ I h) fun v s1 ⟨x, H1, I1, r1, q1⟩ => PyProof.Rows.args_nil ?_) na) na rfl
  obtain ⟨l, ns, rfl, hq, h64, q1⟩ := q1
  cases r1
  obtain ⟨its, r, pl, hz⟩ := I1.tuple hq
  refine L2.call_set_tupI ns (I1.ok.hd hc) (show s1.heap.IsTuple l its.toArray from pl) (by simpa using r.ints) (by have : scanBound = 4096 := rfl; omega) fun h' tk c hS hcn hk => ?_
  refine PyProof.Rows.args_nil ?_
  have I2 : Inv X pins σ H1 { s1 with heap := h', toks := tk } := I1.kept hk
  refine sorted_set (s := { s1 with heap := h', toks := tk }) hS (I1.ok.hd hc) (by omega) fun s' pp out cc ms kk gg oo hp hgt hi hs hmm hl => ?_
  have em : ms = sdL ns := sdL_unique hs fun k => by rw [hmm]; exact ⟨of_decide_eq_true, decide_eq_true⟩
  subst em
  have kp : ∀ b o, s1.heap.get? b = some o → s'.heap.get? b = some o := fun b o z => kk b o (hk b o z)
  have hle : s1.heap.objs.size ≤ pp := Nat.le_trans (Nat.le_of_lt hS.lt) hp
  have hlen : ((sdL ns).map V.int).length ≤ sizeLine := by rw [List.length_map, hl, sizeLine_eq]; omega
  have hn : H1 pp = none := I1.hok.fresh hle
  have J : Inv X pins σ (upd H1 pp (.lst ((sdL ns).map V.int))) { s1 with heap := s'.heap, gens := s'.gens, drawn := s'.drawn, toks := s'.toks } :=
    I1.call (ch := []) (Un.laid kp hle hn) (I1.hok.laid kp hle ⟨hlen, out.toList, cc, vals_of_ints hi, hgt⟩) (by rw [gg]; exact I1.bare) (fun _ z => nomatch z)
  have e : s' = { s1 with heap := s'.heap, gens := s'.gens, drawn := s'.drawn, toks := s'.toks } := by
    cases s'
    cases s1
    cases oo
    rfl
  rw [e]
  exact ⟨.ref pp, _, J, rfl, q1 pp hn⟩
theorem df_sortSet {ns : List Int} (hX : XO k X) (ha : DE g X a ρ (.d (.tuple ds)) ρ1) (hd : ds = ns.map .int) (hz : ns.length < 64) (hg : Gl X "sorted" := by rfl) (hg2 : Gl X "set" := by rfl)
    (na : starEach [a] X.env = (false, eval a X.env) :: starEach [] X.env := by rfl) (na2 : starEach [.Call (.Name "set" p2) [a] [] q] X.env = (false, eval (.Call (.Name "set" p2) [a] [] q) X.env) :: starEach [] X.env := by rfl) :
    DF g X (.Call (.Name "sorted" p) [.Call (.Name "set" p2) [a] [] q] [] pos) ρ (.lst ((sdL ns).map .int)) ρ1 :=
  pe_mono (pe_sortSetT hX.calm hg hX.bi.sorted hg2 hX.bi.set ha na na2) fun σ H Q ⟨F, S, kn⟩ => ⟨F, S, fun v F1 H1 S1 k1 av => by
    subst hd
    obtain ⟨l, vs, rfl, t, z, dl⟩ := av
    have ew := dl.ints
    subst ew
    have hl : (sdL ns).length ≤ ns.length := by unfold sdL; rw [srt_length]; exact dd_len_le ns
    exact ⟨l, ns, rfl, (t.mono S1.st.sub).sq, hz, new_lst S1 (fun p h F' H' S' k' => kn p h F' H' S' (k1.trans k')) (by rw [List.length_map, sizeLine_eq]; omega) DaL.of_ints⟩⟩
end
end DL

set_option Elab.async false
set_option linter.all false
set_option maxRecDepth 100000
set_option autoImplicit false
/-! DL25: a turn of a comprehension that draws, in short. -/
namespace DL
open PySem PySem.Spec PyProof.Rows L2
section
variable {X : Cx} {ρ : List Sl} {ib j : Nat} {d f : Pd} {vs : List Nat} {scope : Scope} {elt : Expr} {pb : Addr} {o1 o2 : Ow}
theorem turnB (hj : j < ρ.length) (hv : j ∈ vs) (hib : ib < ρ.length) (hne : ib ∉ vs)
    (he : ∀ g' s H C cl fp, DE g' (blkOf X scope s H C cl fp) elt ((wp (ρ.set ib (.own pb o1)) vs).set j (.dat d)) (.d f) (((wp (ρ.set ib (.own pb o1)) vs).set j (.dat d)).set ib (.own pb o2))) :
    ∃ ρb ρc, bName j d (wp (ρ.set ib (.own pb o1)) vs) = some ρb ∧ (∀ g' s H C cl fp, DE g' (blkOf X scope s H C cl fp) elt ρb (.d f) ρc) ∧ ∀ i s, i ∉ vs → (ρ.set ib (.own pb o2))[i]? = some s → ρc[i]? = some s := by
  obtain ⟨a, b, _⟩ := bind_name (ρ := ρ.set ib (.own pb o1)) (d := d) (by rw [List.length_set]; exact hj) hv
  refine ⟨_, _, a, he, fun i s hi h => ?_⟩
  by_cases e : i = ib
  · subst e
    rw [List.getElem?_set_self hib] at h
    rw [List.getElem?_set_self (by rw [List.length_set, wp_length, List.length_set]; exact hib)]
    exact h
  · rw [List.getElem?_set_ne (Ne.symm e)] at h
    rw [List.getElem?_set_ne (Ne.symm e)]
    exact b i s hi (by rw [List.getElem?_set_ne (Ne.symm e)]; exact h)
end
end DL

set_option Elab.async false
set_option linter.all false
set_option maxRecDepth 100000
set_option maxHeartbeats 1000000
set_option autoImplicit false
/-! DL26: a zip within enumerate, a zip made a list. -/
namespace DL
open PySem PySem.Spec PyProof.Rows L2
/-! ### the zip, drawn from by a callee -/
abbrev ZOb (g : Heap) (z TI TO : Addr) (f0 : Value) (fl : Bool) : Prop := g.get? z = some { cls := .type "zip", dict := none, data := .fields #[f0, .bool fl, .bool false, .ref TI, .ref TO], slots := #[] }
/-- the zip z of two lists or tuples, i pairs given out -/
def ZAt (z TI TO i1 i2 l1 l2 : Addr) (b1 b2 : Bool) (i : Nat) (g : Heap) : Prop :=
  IsPair g TI (.ref i1) (.ref i2) ∧ ItB b1 g i1 l1 i ∧ ItB b2 g i2 l2 i ∧ (∃ a b, IsPair g TO a b) ∧ ∃ f0 fl, ZOb g z TI TO f0 fl ∧ (f0 = .none ∨ ∃ T : Addr, f0 = rawInt T)
theorem ZAt.frame {z TI TO i1 i2 l1 l2 : Addr} {b1 b2 : Bool} {i : Nat} {g g' : Heap} (h : ZAt z TI TO i1 i2 l1 l2 b1 b2 i g) (k : ∀ b ∈ [z, TI, TO, i1, i2], ∀ o, g.get? b = some o → g'.get? b = some o) : ZAt z TI TO i1 i2 l1 l2 b1 b2 i g' := by
  obtain ⟨a1, a2, a3, ⟨a, b, a4⟩, f0, fl, a5, a6⟩ := h
  exact ⟨k _ (by simp) _ a1, a2.at fun o e => k _ (by simp) o e, a3.at fun o e => k _ (by simp) o e, ⟨a, b, k _ (by simp) _ a4⟩, f0, fl, k _ (by simp) _ a5, a6⟩
section
variable {prog : Program} {w : World} {A : Around} {E : Value → Shared → Prop} {s t : Shared} {z TI TO i1 i2 l1 l2 : Addr} {f1 f2 : List Addr} {f0 : Value} {fl : Bool} {n1 n2 i : Nat} {P1 P2 : Nat → Value → Prop} {S1 S2 : Nat → Heap → Prop} {b1 b2 : Bool} {xs ys : Array Value} {u v : Value}
theorem alive_any {a : Addr} {Q : Option Obj → Shared → Prop} (h : Q (s.heap.get? a) s) : wpAny (model prog w) A (loadIfAlive a) Q E s := fun _ _ _ => h
theorem zfree_none {Q : Bool → Shared → Prop} (hz : ZOb s.heap z TI TO .none fl) (h : Q true s) : wpAny (model prog w) A (Builtin.SmallTypes.ownedTupleIsFree (.ref z)) Q E s := by
  unfold Builtin.SmallTypes.ownedTupleIsFree
  exact wpAny_bind (wpAny_field hz rfl (x := .none) rfl (wpAny_pure h))
theorem zfree_dead {T : Addr} {Q : Bool → Shared → Prop} (hz : ZOb s.heap z TI TO (rawInt T) fl) (hT : s.heap.get? T = none) (h : Q true s) : wpAny (model prog w) A (Builtin.SmallTypes.ownedTupleIsFree (.ref z)) Q E s := by
  unfold Builtin.SmallTypes.ownedTupleIsFree
  refine wpAny_bind (wpAny_field hz rfl (x := rawInt T) rfl ?_)
  show wpAny _ A (loadIfAlive ((T : Int).toNat) >>= _) Q E s
  rw [Int.toNat_natCast]
  refine wpAny_bind (alive_any ?_)
  rw [hT]
  simp only [Option.isNone_none, if_true]
  exact wpAny_pure h
/-- next of a zip whose own tuple is free again -/
theorem zfree_next {Q : Value → Shared → Prop} (S : ZipSep2 z TI TO i1 i2 f1 f2) (D1 : Draws prog w A i1 f1 n1 P1 S1) (D2 : Draws prog w A i2 f2 n2 P2 S2) (hz : ZOb s.heap z TI TO f0 fl) (hf : ∀ (Q : Bool → Shared → Prop) (E : Value → Shared → Prop), Q true s → wpAny (model prog w) A (Builtin.SmallTypes.ownedTupleIsFree (.ref z)) Q E s)
    (hTI : IsPair s.heap TI (.ref i1) (.ref i2)) (hTO : IsPair s.heap TO u v) (t1 : S1 i s.heap) (t2 : S2 i s.heap) (hi1 : i < n1) (hi2 : i < n2)
    (hQ : ∀ T x y g tk, s.heap.objs.size ≤ T → T < g.objs.size → P1 i x → P2 i y → ZOb g z TI TO (rawInt T) false → IsPair g TO x y → S1 (i + 1) g → S2 (i + 1) g → IsPair g T x y → (∀ c o, c ≠ z → c ≠ TO → c ≠ i1 → c ≠ i2 → s.heap.get? c = some o → g.get? c = some o) → Q (.ref T) { s with heap := g, toks := tk }) :
    wpAny (model prog w) A (Builtin.«zip.__next__» ⟨[.ref z], []⟩) (fun fin s' => ∃ v, fin = .done (.ret v) ∧ Q v s') E s := by
  obtain ⟨h0, gg, d, k0, os⟩ := s
  show wpAny _ A (field (.ref z) 2 >>= _) _ E _
  refine wpAny_bind (wpAny_field hz rfl (x := .bool false) rfl ?_)
  show wpAny _ A (field (.ref z) 3 >>= _) _ E _
  refine wpAny_bind (wpAny_field hz rfl (x := .ref TI) rfl ?_)
  refine wpAny_bind (wpAny_seqItems hTI rfl ?_)
  show wpAny _ A (Builtin.SmallTypes.ownedTupleIsFree (.ref z) >>= _) _ E _
  refine wpAny_bind (hf _ _ ?_)
  simp only [if_true]
  refine wpAny_bind (wpAny_rule ?_)
  refine wpAny_bind (wpAny_field hz rfl (x := .ref TO) rfl ?_)
  refine wpAny_bind (wpAny_setField_rec hz (by simp) fun ga za sa => ?_)
  replace za : ZOb ga z TI TO .ellipsis fl := za
  replace sa : Heap.SameBut z h0 ga := sa
  refine wpAny_bind ?_
  simp only [List.zipIdx_cons, List.zipIdx_nil, List.forIn_cons, List.forIn_nil]
  refine wpAny_bind (wpAny_bind (wpAny_onRaise ?_))
  show wpAny _ A (Builtin.SmallTypes.nextOf (.ref i1) >>= _) _ _ ⟨ga, gg, d, k0, os⟩
  refine wpAny_bind (D1.item i _ _ _ hi1 (D1.over t1 sa S.zf1) fun x gb kb px nb sb => wpAny_pure ?_)
  replace sb : Heap.SameBut i1 ga gb := sb
  have ob : IsTupOf2 gb TO u v := (sb.2 _ S.Ti1).trans ((sa.2 _ S.TOz).trans hTO)
  refine wpAny_bind (wpAny_seqItems (s := ⟨gb, gg, d, kb, os⟩) ob rfl ?_)
  refine wpAny_bind (updateSeq_IsTupOf2 (s := ⟨gb, gg, d, kb, os⟩) ob fun gc oc sc => ?_)
  replace oc : IsTupOf2 gc TO x v := oc
  replace sc : Heap.SameBut TO gb gc := sc
  refine wpAny_bind (wpAny_letGo (wpAny_pure ?_))
  refine wpAny_bind (wpAny_bind (wpAny_onRaise ?_))
  show wpAny _ A (Builtin.SmallTypes.nextOf (.ref i2) >>= _) _ _ ⟨gc, gg, d, kb, os⟩
  refine wpAny_bind (D2.item i _ _ _ hi2 (D2.over (D2.over (D2.over t2 sa S.zf2) sb S.sep1_2) sc S.Tf2) fun y gd kd py nd sd => wpAny_pure ?_)
  replace sd : Heap.SameBut i2 gc gd := sd
  have od : IsTupOf2 gd TO x v := (sd.2 _ S.Ti2).trans oc
  refine wpAny_bind (wpAny_seqItems (s := ⟨gd, gg, d, kd, os⟩) od rfl ?_)
  refine wpAny_bind (updateSeq_IsTupOf2 (s := ⟨gd, gg, d, kd, os⟩) od fun ge oe se => ?_)
  replace oe : IsTupOf2 ge TO x y := oe
  replace se : Heap.SameBut TO gd ge := se
  refine wpAny_bind (wpAny_letGo (wpAny_pure (wpAny_pure ?_)))
  refine wpAny_bind (wpAny_seqItems (s := ⟨ge, gg, d, kd, os⟩) oe rfl ?_)
  refine wpAny_bind (wpAny_newTuple ?_)
  have esz : ge.objs.size = h0.objs.size := by rw [se.1, sd.1, sc.1, sb.1, sa.1]
  have ze : ZOb ge z TI TO .ellipsis fl := (se.2 _ S.TOz.symm).trans ((sd.2 _ S.zi2).trans ((sc.2 _ S.TOz.symm).trans ((sb.2 _ S.zi1).trans za)))
  have ke : ∀ c o, c ≠ z → c ≠ TO → c ≠ i1 → c ≠ i2 → h0.get? c = some o → ge.get? c = some o := fun c o cz cT c1 c2 q =>
    (se.2 _ cT).trans ((sd.2 _ c2).trans ((sc.2 _ cT).trans ((sb.2 _ c1).trans ((sa.2 _ cz).trans q))))
  have j1 : S1 (i + 1) ge := D1.over (D1.over (D1.over nb sc S.Tf1) sd S.sep2_1) se S.Tf1
  have j2 : S2 (i + 1) ge := D2.over nd se S.Tf2
  have zlt : z < ge.objs.size := Heap.lt_size ze
  show wpAny _ A (Builtin.SmallTypes.ownedTupleHandOut (.ref z) (.ref ge.objs.size) >>= _) _ E ⟨ge.push { cls := .type "tuple", data := .seq #[x, y] }, gg, d, kd, os⟩
  refine wpAny_bind ?_
  unfold Builtin.SmallTypes.ownedTupleHandOut
  have zp : ZOb (ge.push { cls := .type "tuple", data := .seq #[x, y] }) z TI TO .ellipsis fl := Heap.get?_push_of_some _ ze
  refine wpAny_bind (wpAny_setField_rec zp (by simp) fun gp zq sp => ?_)
  replace zq : ZOb gp z TI TO (rawInt ge.objs.size) fl := zq
  refine wpAny_setField_rec zq (by simp) fun gr zr sr => ?_
  replace zr : ZOb gr z TI TO (rawInt ge.objs.size) false := zr
  replace sp : Heap.SameBut z (ge.push { cls := .type "tuple", data := .seq #[x, y] }) gp := sp
  replace sr : Heap.SameBut z gp gr := sr
  have up : ∀ c o, c ≠ z → ge.get? c = some o → gr.get? c = some o := fun c o c1 q => (sr.2 _ c1).trans ((sp.2 _ c1).trans (Heap.get?_push_of_some _ q))
  have pr : IsPair gr ge.objs.size x y := (sr.2 _ (Nat.ne_of_gt zlt)).trans ((sp.2 _ (Nat.ne_of_gt zlt)).trans (Heap.get?_push_size _ rfl))
  have rsz : gr.objs.size = ge.objs.size + 1 := by rw [sr.1, sp.1, Heap.size_push]
  refine wpAny_pure ⟨_, rfl, ?_⟩
  exact hQ ge.objs.size x y gr kd (by rw [esz]; exact Nat.le_refl _) (by rw [rsz]; exact Nat.lt_succ_self _) px py zr (up _ _ S.TOz oe) (D1.frame _ _ _ j1 fun b hb o q => up b o (fun e => S.zf1 (e ▸ hb)) q) (D2.frame _ _ _ j2 fun b hb o q => up b o (fun e => S.zf2 (e ▸ hb)) q) pr fun c o cz cT c1 c2 q => up c o cz (ke c o cz cT c1 c2 q)
theorem zfree_stop {Q : Fin → Shared → Prop} (S : ZipSep2 z TI TO i1 i2 f1 f2) (D1 : Draws prog w A i1 f1 n1 P1 S1) (D2 : Draws prog w A i2 f2 n2 P2 S2) (hz : ZOb s.heap z TI TO f0 fl) (hf : ∀ (Q : Bool → Shared → Prop) (E : Value → Shared → Prop), Q true s → wpAny (model prog w) A (Builtin.SmallTypes.ownedTupleIsFree (.ref z)) Q E s)
    (hTI : IsPair s.heap TI (.ref i1) (.ref i2)) (hTO : IsPair s.heap TO u v) (t1 : S1 i s.heap) (t2 : S2 i s.heap) (hi1 : i ≤ n1) (hi2 : i ≤ n2) (hend : i = n1 ∨ i = n2)
    (hE : ∀ g tk e, (∀ c o, c ≠ z → c ≠ TO → c ≠ i1 → c ≠ i2 → s.heap.get? c = some o → g.get? c = some o) → (∃ o, g.get? e = some o ∧ o.cls = .type "StopIteration") → E (.ref e) { s with heap := g, toks := tk }) :
    wpAny (model prog w) A (Builtin.«zip.__next__» ⟨[.ref z], []⟩) Q E s := by
  obtain ⟨h0, gg, d, k0, os⟩ := s
  show wpAny _ A (field (.ref z) 2 >>= _) _ E _
  refine wpAny_bind (wpAny_field hz rfl (x := .bool false) rfl ?_)
  show wpAny _ A (field (.ref z) 3 >>= _) _ E _
  refine wpAny_bind (wpAny_field hz rfl (x := .ref TI) rfl ?_)
  refine wpAny_bind (wpAny_seqItems hTI rfl ?_)
  show wpAny _ A (Builtin.SmallTypes.ownedTupleIsFree (.ref z) >>= _) _ E _
  refine wpAny_bind (hf _ _ ?_)
  simp only [if_true]
  refine wpAny_bind (wpAny_rule ?_)
  refine wpAny_bind (wpAny_field hz rfl (x := .ref TO) rfl ?_)
  refine wpAny_bind (wpAny_setField_rec hz (by simp) fun ga za sa => ?_)
  replace za : ZOb ga z TI TO .ellipsis fl := za
  replace sa : Heap.SameBut z h0 ga := sa
  refine wpAny_bind ?_
  simp only [List.zipIdx_cons, List.zipIdx_nil, List.forIn_cons, List.forIn_nil]
  refine wpAny_bind (wpAny_bind (wpAny_onRaise ?_))
  show wpAny _ A (Builtin.SmallTypes.nextOf (.ref i1) >>= _) _ _ ⟨ga, gg, d, k0, os⟩
  have fin : ∀ (g : Heap) (tk : Tok) (e : Addr) (k : ∀ c o, c ≠ z → c ≠ TO → c ≠ i1 → c ≠ i2 → h0.get? c = some o → g.get? c = some o) (zg : ZOb g z TI TO .ellipsis fl) (he : ∃ o, g.get? e = some o ∧ o.cls = .type "StopIteration"),
      wpAny (model prog w) A (setField (.ref z) 0 .none) (fun _ s' => E (.ref e) s') E ⟨g, gg, d, tk, os⟩ := fun g tk e k zg ⟨o, ho, hc⟩ => by
    have nz : e ≠ z := fun q => by
      subst q
      rw [zg] at ho
      cases ho
      simp at hc
    refine wpAny_setField_rec (s := ⟨g, gg, d, tk, os⟩) zg (by simp) fun g2 _ s2 => ?_
    replace s2 : Heap.SameBut z g g2 := s2
    exact hE g2 tk e (fun c o cz cT c1 c2 q => (s2.2 _ cz).trans (k c o cz cT c1 c2 q)) ⟨o, (s2.2 _ nz).trans ho, hc⟩
  by_cases hlt : i < n1
  · refine wpAny_bind (D1.item i _ _ _ hlt (D1.over t1 sa S.zf1) fun x gb kb px nb sb => wpAny_pure ?_)
    replace sb : Heap.SameBut i1 ga gb := sb
    have ob : IsTupOf2 gb TO u v := (sb.2 _ S.Ti1).trans ((sa.2 _ S.TOz).trans hTO)
    refine wpAny_bind (wpAny_seqItems (s := ⟨gb, gg, d, kb, os⟩) ob rfl ?_)
    refine wpAny_bind (updateSeq_IsTupOf2 (s := ⟨gb, gg, d, kb, os⟩) ob fun gc oc sc => ?_)
    replace sc : Heap.SameBut TO gb gc := sc
    refine wpAny_bind (wpAny_letGo (wpAny_pure ?_))
    have h2 : i = n2 := by omega
    refine wpAny_bind (wpAny_bind (wpAny_onRaise ?_))
    show wpAny _ A (Builtin.SmallTypes.nextOf (.ref i2) >>= _) _ _ ⟨gc, gg, d, kb, os⟩
    refine wpAny_bind (D2.done ⟨gc, gg, d, kb, os⟩ _ _ (by rw [← h2]; exact D2.over (D2.over (D2.over t2 sa S.zf2) sb S.sep1_2) sc S.Tf2) fun g e q he => ?_)
    replace q : Heap.ExtBut i2 gc g := q
    exact fin g kb e (fun c o cz cT c1 c2 w => q _ _ c2 ((sc.2 _ cT).trans ((sb.2 _ c1).trans ((sa.2 _ cz).trans w)))) (q _ _ S.zi2 ((sc.2 _ S.TOz.symm).trans ((sb.2 _ S.zi1).trans za))) he
  · have h1 : i = n1 := by omega
    refine wpAny_bind (D1.done ⟨ga, gg, d, k0, os⟩ _ _ (by rw [← h1]; exact D1.over t1 sa S.zf1) fun g e q he => ?_)
    replace q : Heap.ExtBut i1 ga g := q
    exact fin g k0 e (fun c o cz cT c1 c2 w => q _ _ c1 ((sa.2 _ cz).trans w)) (q _ _ S.zi1 za) he
theorem znext {Q : Value → Shared → Prop} (hA : A.handled = none) (S : ZipSep2 z TI TO i1 i2 [i1, l1] [i2, l2]) (e1 : l1 ≠ i1) (e2 : l2 ≠ i2) (h : ZAt z TI TO i1 i2 l1 l2 b1 b2 i t.heap) (g1 : IsB b1 t.heap l1 xs) (g2 : IsB b2 t.heap l2 ys) (hi : i < min xs.size ys.size)
    (hQ : ∀ T x y g tk, t.heap.objs.size ≤ T → T < g.objs.size → xs[i]? = some x → ys[i]? = some y → IsPair g T x y → ZAt z TI TO i1 i2 l1 l2 b1 b2 (i + 1) g → (∀ c o, c ∉ [z, TO, i1, i2] → t.heap.get? c = some o → g.get? c = some o) → Q (.ref T) { t with heap := g, toks := tk }) :
    wpAny (model prog w) A (Builtin.SmallTypes.nextOf (.ref z)) Q E t := by
  have D1 := drawsB (prog := prog) (w := w) (A := A.in1) b1 hA i1 l1 e1 xs
  have D2 := drawsB (prog := prog) (w := w) (A := A.in1) b2 hA i2 l2 e2 ys
  obtain ⟨a1, a2, a3, ⟨p, q, a4⟩, f0, fl, a5, a6⟩ := h
  have h1 : i < xs.size := Nat.lt_of_lt_of_le hi (Nat.min_le_left ..)
  have h2 : i < ys.size := Nat.lt_of_lt_of_le hi (Nat.min_le_right ..)
  have ty : t.TypeIs (.ref z) "zip" := ⟨_, a5, rfl⟩
  unfold Builtin.SmallTypes.nextOf
  refine wpAny_bind (wpAny_callSpecial?_slot (name := Str.ofString "__next__") ty F.slot_zip_next (wpAny_call_entry F.slot_zip_next ty F.entry_zip_next ?_ (F.args_zip_next_1 _)))
  have cs : (∀ (Q : Bool → Shared → Prop) (E : Value → Shared → Prop), Q true t → wpAny (model prog w) A.in1 (Builtin.SmallTypes.ownedTupleIsFree (.ref z)) Q E t) ∨ ∃ (T : Addr) (oT : Obj), f0 = rawInt T ∧ t.heap.get? T = some oT := by
    rcases a6 with rfl | ⟨T, rfl⟩
    · exact .inl fun Q E q => zfree_none a5 q
    · cases hT : t.heap.get? T with
      | none => exact .inl fun Q E q => zfree_dead a5 hT q
      | some oT => exact .inr ⟨T, oT, rfl, hT⟩
  rcases cs with hf | ⟨T, oT, rfl, hT⟩
  · refine zfree_next S D1 D2 a5 hf a1 a4 ⟨a2, g1⟩ ⟨a3, g2⟩ h1 h2 fun T x y g tk hT hTl px py z1 z2 z3 z4 z5 k => wpAny_pure ?_
    refine hQ T x y g tk hT hTl px py z5 ⟨k _ _ S.TIz S.TITO S.TIi1 S.TIi2 a1, z3.1, z4.1, ⟨x, y, z2⟩, _, _, z1, .inr ⟨T, rfl⟩⟩ fun c o hc e => ?_
    simp only [List.mem_cons, List.not_mem_nil, or_false, not_or] at hc
    exact k c o hc.1 hc.2.1 hc.2.2.1 hc.2.2.2 e
  · refine zheld_next S D1 D2 a5 hT a1 ⟨a2, g1⟩ ⟨a3, g2⟩ h1 h2 fun x y g tk px py z1 z3 z4 z5 k => wpAny_pure ?_
    refine hQ t.heap.objs.size x y g tk (Nat.le_refl _) (Heap.lt_size z5) px py z5 ⟨k _ _ S.TIz S.TIi1 S.TIi2 a1, z3.1, z4.1, ⟨p, q, k _ _ S.TOz S.Ti1 S.Ti2 a4⟩, _, _, z1, .inr ⟨T, rfl⟩⟩ fun c o hc e => ?_
    simp only [List.mem_cons, List.not_mem_nil, or_false, not_or] at hc
    exact k c o hc.1 hc.2.2.1 hc.2.2.2 e
theorem zstop {Q : Value → Shared → Prop} (hA : A.handled = none) (S : ZipSep2 z TI TO i1 i2 [i1, l1] [i2, l2]) (e1 : l1 ≠ i1) (e2 : l2 ≠ i2) (h : ZAt z TI TO i1 i2 l1 l2 b1 b2 (min xs.size ys.size) t.heap) (g1 : IsB b1 t.heap l1 xs) (g2 : IsB b2 t.heap l2 ys)
    (hE : ∀ g tk e, (∀ c o, c ∉ [z, TO, i1, i2] → t.heap.get? c = some o → g.get? c = some o) → (∃ o, g.get? e = some o ∧ o.cls = .type "StopIteration") → E (.ref e) { t with heap := g, toks := tk }) :
    wpAny (model prog w) A (Builtin.SmallTypes.nextOf (.ref z)) Q E t := by
  have D1 := drawsB (prog := prog) (w := w) (A := A.in1) b1 hA i1 l1 e1 xs
  have D2 := drawsB (prog := prog) (w := w) (A := A.in1) b2 hA i2 l2 e2 ys
  obtain ⟨a1, a2, a3, ⟨p, q, a4⟩, f0, fl, a5, a6⟩ := h
  have h1 : min xs.size ys.size ≤ xs.size := Nat.min_le_left ..
  have h2 : min xs.size ys.size ≤ ys.size := Nat.min_le_right ..
  have h3 : min xs.size ys.size = xs.size ∨ min xs.size ys.size = ys.size := by omega
  have ty : t.TypeIs (.ref z) "zip" := ⟨_, a5, rfl⟩
  unfold Builtin.SmallTypes.nextOf
  refine wpAny_bind (wpAny_callSpecial?_slot (name := Str.ofString "__next__") ty F.slot_zip_next (wpAny_call_entry F.slot_zip_next ty F.entry_zip_next ?_ (F.args_zip_next_1 _)))
  have cs : (∀ (Q : Bool → Shared → Prop) (E : Value → Shared → Prop), Q true t → wpAny (model prog w) A.in1 (Builtin.SmallTypes.ownedTupleIsFree (.ref z)) Q E t) ∨ ∃ (T : Addr) (oT : Obj), f0 = rawInt T ∧ t.heap.get? T = some oT := by
    rcases a6 with rfl | ⟨T, rfl⟩
    · exact .inl fun Q E q => zfree_none a5 q
    · cases hT : t.heap.get? T with
      | none => exact .inl fun Q E q => zfree_dead a5 hT q
      | some oT => exact .inr ⟨T, oT, rfl, hT⟩
  rcases cs with hf | ⟨T, oT, rfl, hT⟩
  · refine zfree_stop S D1 D2 a5 hf a1 a4 ⟨a2, g1⟩ ⟨a3, g2⟩ h1 h2 h3 fun g tk e k he => hE g tk e (fun c o hc q => ?_) he
    simp only [List.mem_cons, List.not_mem_nil, or_false, not_or] at hc
    exact k c o hc.1 hc.2.1 hc.2.2.1 hc.2.2.2 q
  · refine zheld_stop S D1 D2 a5 hT a1 ⟨a2, g1⟩ ⟨a3, g2⟩ h1 h2 h3 fun g tk e k he => hE g tk e (fun c o hc q => ?_) he
    simp only [List.mem_cons, List.not_mem_nil, or_false, not_or] at hc
    exact k c o hc.1 hc.2.2.1 hc.2.2.2 q
end
end DL

set_option Elab.async false
set_option linter.all false
set_option maxRecDepth 100000
set_option maxHeartbeats 1000000
set_option autoImplicit false
/-! DL27: for i, (x, y) in enumerate(zip(..)); list(zip(..)). -/
namespace DL
open PySem PySem.Spec PyProof.Rows L2
section
variable {prog : Program} {w : World} {A : Around} {E : Value → Shared → Prop} {s t : Shared} {z TI TO i1 i2 l1 l2 e : Addr} {i : Nat} {b1 b2 : Bool} {xs ys : Array Value} {old : Value}
theorem enumZ {Q : Option Value → Shared → Prop} (hA : A.handled = none) (S : ZipSep2 z TI TO i1 i2 [i1, l1] [i2, l2]) (e1 : l1 ≠ i1) (e2 : l2 ≠ i2) (ne : e ∉ [z, TI, TO, i1, i2]) (he : IsEnum t.heap e z ((i : Nat) : Int) old) (h : ZAt z TI TO i1 i2 l1 l2 b1 b2 i t.heap) (g1 : IsB b1 t.heap l1 xs) (g2 : IsB b2 t.heap l2 ys) (hi : i < min xs.size ys.size)
    (hQ : ∀ T T2 x y g tk, t.heap.objs.size ≤ T → T < T2 → xs[i]? = some x → ys[i]? = some y → IsPair g T x y → IsEnumOut g e z ((i : Int) + 1) (.ref T) T2 → ZAt z TI TO i1 i2 l1 l2 b1 b2 (i + 1) g →
      g.get? T2 = some { cls := .type "tuple", data := .seq #[.int i tk, .ref T] } → (∀ b o, b ≠ e → b ∉ [z, TO, i1, i2] → t.heap.get? b = some o → g.get? b = some o) → Q (some (.ref T2)) { t with heap := g, toks := tk + 1 }) :
    wpAny (model prog w) A (pyNext (.ref e)) Q E t := by
  have ty : t.TypeIs (.ref e) "enumerate" := ⟨_, he, rfl⟩
  have nei : e ∉ [z, TO, i1, i2] := fun q => ne (by
    simp only [List.mem_cons, List.not_mem_nil, or_false] at q ⊢
    rcases q with q | q | q | q <;> simp [q])
  unfold pyNext
  refine wpAny_bind (wpAny_attempt (wpAny_callSpecial?_slot (name := Str.ofString "__next__") ty F.slot_enumerate_next (wpAny_call_entry F.slot_enumerate_next ty F.entry_enumerate_next ?_ (F.args_enumerate_next_1 _))))
  obtain ⟨hp, gg, d, tk0, os⟩ := t
  show wpAny _ A.in1 (field (.ref e) 2 >>= _) _ _ _
  refine wpAny_bind (wpAny_field he rfl (x := .ref z) rfl ?_)
  refine wpAny_bind (znext (A := A.in1) hA S e1 e2 h g1 g2 hi fun T x y ha tk hT hTl px py hp1 za ka => ?_)
  have ea : IsEnum ha e z ((i : Nat) : Int) old := ka e _ nei he
  show wpAny _ A.in1 (field (.ref e) 3 >>= _) _ _ ⟨ha, gg, d, tk, os⟩
  refine wpAny_bind (wpAny_field ea rfl (x := rawInt i) rfl ?_)
  show wpAny _ A.in1 (field (.ref e) 4 >>= _) _ _ ⟨ha, gg, d, tk, os⟩
  refine wpAny_bind (wpAny_field ea rfl (x := .none) rfl ?_)
  show wpAny _ A.in1 (mkInt i >>= _) _ _ ⟨ha, gg, d, tk, os⟩
  refine wpAny_bind (wpAny_mkInt ?_)
  show wpAny _ A.in1 (setField (.ref e) 3 (rawInt ((i : Int) + 1)) >>= _) _ _ ⟨ha, gg, d, tk + 1, os⟩
  refine wpAny_bind (wpAny_setField_rec ea (by simp) fun hb eb sb => ?_)
  replace sb : Heap.SameBut e ha hb := sb
  replace eb : IsEnum hb e z ((i : Int) + 1) old := eb
  show wpAny _ A.in1 (setField (.ref e) 4 .none >>= _) _ _ ⟨hb, gg, d, tk + 1, os⟩
  refine wpAny_bind (wpAny_setField_rec eb (by simp) fun hc ec sc => ?_)
  replace sc : Heap.SameBut e hb hc := sc
  replace ec : IsEnum hc e z ((i : Int) + 1) old := ec
  show wpAny _ A.in1 (newTuple [.int i tk, .ref T] >>= _) _ _ ⟨hc, gg, d, tk + 1, os⟩
  refine wpAny_bind (wpAny_newTuple ?_)
  have ed : IsEnum (hc.push { cls := .type "tuple", data := .seq #[.int i tk, .ref T] }) e z ((i : Int) + 1) old := Heap.get?_push_of_some _ ec
  have td : (hc.push { cls := .type "tuple", data := .seq #[.int i tk, .ref T] }).get? hc.objs.size = some { cls := .type "tuple", data := .seq #[.int i tk, .ref T] } := Heap.get?_push_size _ rfl
  have kd : ∀ b o, b ≠ e → ha.get? b = some o → (hc.push { cls := .type "tuple", data := .seq #[.int i tk, .ref T] }).get? b = some o := fun b o hbe q => Heap.get?_push_of_some _ ((sc.2 b hbe).trans ((sb.2 b hbe).trans q))
  have hcl : T < hc.objs.size := by rw [sc.1, sb.1]; exact hTl
  have hel : e ≠ hc.objs.size := Nat.ne_of_lt (Heap.lt_size ec)
  show wpAny _ A.in1 (Builtin.SmallTypes.ownedTupleIsFree (.ref e) >>= _) _ _ _
  generalize hc.push { cls := .type "tuple", data := .seq #[.int i tk, .ref T] } = hd at ed td kd
  generalize hc.objs.size = T2 at td hcl hel
  have Te : T ≠ e := fun q => by
    have := Heap.lt_size he
    rw [q] at hT
    exact Nat.lt_irrefl _ (Nat.lt_of_le_of_lt hT this)
  refine wpAny_bind ?_
  unfold Builtin.SmallTypes.ownedTupleIsFree
  refine wpAny_bind (wpAny_field (s := ⟨hd, gg, d, tk + 1, os⟩) ed rfl (x := .none) rfl (wpAny_pure ?_))
  simp only [if_true]
  refine wpAny_bind (wpAny_rule ?_)
  refine wpAny_bind (wpAny_field ed rfl (x := old) rfl ?_)
  refine wpAny_bind (wpAny_setField_rec ed (by simp) fun h5 q5 s5 => ?_)
  replace s5 : Heap.SameBut e hd h5 := s5
  replace q5 : IsEnum h5 e z ((i : Int) + 1) (.ref T) := q5
  show wpAny _ A.in1 (Builtin.SmallTypes.ownedTupleHandOut (.ref e) (.ref T2) >>= _) _ _ ⟨h5, gg, d, tk + 1, os⟩
  refine wpAny_bind ?_
  unfold Builtin.SmallTypes.ownedTupleHandOut
  refine wpAny_bind (wpAny_setField_rec q5 (by simp) fun h6 q6 s6 => ?_)
  replace s6 : Heap.SameBut e h5 h6 := s6
  replace q6 : IsEnumOut h6 e z ((i : Int) + 1) (.ref T) T2 := q6
  refine wpAny_setField_rec q6 (by simp) fun h7 q7 s7 => ?_
  replace s7 : Heap.SameBut e h6 h7 := s7
  replace q7 : IsEnumOut h7 e z ((i : Int) + 1) (.ref T) T2 := q7
  have kz : ∀ b o, b ≠ e → ha.get? b = some o → h7.get? b = some o := fun b o hbe q => (s7.2 b hbe).trans ((s6.2 b hbe).trans ((s5.2 b hbe).trans (kd b o hbe q)))
  refine wpAny_bind (wpAny_letGo (wpAny_pure ⟨_, rfl, wpAny_pure (hQ T T2 x y h7 tk hT hcl px py (kz T _ Te hp1) q7 ?_ ?_ fun b o hbe hbz q => kz b o hbe (ka b o hbz q))⟩))
  · exact za.frame fun b hb o q => kz b o (fun z => ne (z ▸ hb)) q
  · exact (s7.2 T2 (Ne.symm hel)).trans ((s6.2 T2 (Ne.symm hel)).trans ((s5.2 T2 (Ne.symm hel)).trans td))
theorem enumZ_stop {Q : Option Value → Shared → Prop} {n : Int} (hA : A.handled = none) (S : ZipSep2 z TI TO i1 i2 [i1, l1] [i2, l2]) (e1 : l1 ≠ i1) (e2 : l2 ≠ i2) (he : IsEnum t.heap e z n old) (h : ZAt z TI TO i1 i2 l1 l2 b1 b2 (min xs.size ys.size) t.heap) (g1 : IsB b1 t.heap l1 xs) (g2 : IsB b2 t.heap l2 ys)
    (hQ : ∀ g tk, (∀ c o, c ∉ [z, TO, i1, i2] → t.heap.get? c = some o → g.get? c = some o) → Q none { t with heap := g, toks := tk }) :
    wpAny (model prog w) A (pyNext (.ref e)) Q E t := by
  have ty : t.TypeIs (.ref e) "enumerate" := ⟨_, he, rfl⟩
  unfold pyNext
  refine wpAny_bind (wpAny_attempt (wpAny_callSpecial?_slot (name := Str.ofString "__next__") ty F.slot_enumerate_next (wpAny_call_entry F.slot_enumerate_next ty F.entry_enumerate_next ?_ (F.args_enumerate_next_1 _))))
  show wpAny _ A.in1 (field (.ref e) 2 >>= _) _ _ _
  refine wpAny_bind (wpAny_field he rfl (x := .ref z) rfl ?_)
  refine wpAny_bind (zstop (A := A.in1) hA S e1 e2 h g1 g2 fun g tk ex k hx => ?_)
  obtain ⟨o, ho, hc⟩ := hx
  exact wpAny_bind (wpAny_isInstance (T := "StopIteration") (b := true) ⟨o, ho, hc⟩ isSubtype_stop (wpAny_pure (hQ g tk k)))
end
/-! ### two new objects are laid -/
section
variable {X : Cx} {pins : List (Addr × Obj)} {σ : L2.St} {H : Hp} {s : Shared} {h' : Heap} {t' : Nat} {ch : List Addr} {T T2 : Addr} {o1 o2 : HO}
theorem turned2 (I : Inv X pins σ H s) (k : ∀ b o, b ∉ ch → s.heap.get? b = some o → h'.get? b = some o) (hf : ∀ b ∈ ch, FpOk X pins H b) (hT : s.heap.objs.size ≤ T) (hT2 : T < T2) (n1 : ObjOk X.prog X.w (upd H T o1) h' T o1) (n2 : ObjOk X.prog X.w (upd (upd H T o1) T2 o2) h' T2 o2) :
    Inv X pins σ (upd (upd H T o1) T2 o2) { s with heap := h', toks := t' } := by
  have hn : H T = none := I.hok.fresh hT
  have hle : s.heap.objs.size ≤ T2 := Nat.le_trans hT (Nat.le_of_lt hT2)
  have hn2 : H T2 = none := I.hok.fresh hle
  have old : ∀ {b u}, H b = some u → upd (upd H T o1) T2 o2 b = H b := fun {b u} q => by
    rw [upd_ne (ne_of_none q hn2), upd_ne (ne_of_none q hn)]
  have nit : ∀ b u, H b = some u → b ∉ ch := fun b u q z => by
    have := (hf b z).1
    rw [this] at q; cases q
  have stay : ∀ {H2 : Hp} b u, (∀ c x, H c = some x → H2 c = some x) → H b = some u → ObjOk X.prog X.w H2 h' b u := fun {H2} b u ext q =>
    (I.hok b u q).stay (fun c v hc r => k c v (by
      rcases hc with z | z
      · rw [z]; exact nit b u q
      · exact nit c _ z) r) (fun c r => ext _ _ r) fun c xs r => ext _ _ r
  refine I.step (g' := s.gens) (d' := s.drawn) (ch := ch) (fun b hb => ⟨(hf b hb).2.2.2.1, (hf b hb).2.1, (hf b hb).2.2.2.2.1, (hf b hb).2.2.2.2.2⟩) (fun b o _ _ hc q _ => k b o hc q) (fun b o _ _ hc q _ => ⟨o.slots, k b o hc q⟩)
    (fun b o _ q n => ?_) (fun b o hc q => ⟨o, k b o hc q⟩) (fun b xs q => (old q).trans q) (fun b o u q => (old q).trans q) (fun b ps q => ⟨#[], by rw [old q, q]; simp⟩) (fun m hm => ?_) (fun b u q => ?_) I.bare
  · have lt := Heap.lt_size q
    rw [upd_ne (Nat.ne_of_lt (Nat.lt_of_lt_of_le lt hle)), upd_ne (Nat.ne_of_lt (Nat.lt_of_lt_of_le lt hT))]; exact n
  · obtain ⟨o, es, ep, ho, r⟩ := hm
    exact ⟨o, es, ep, k _ o (fun z => (hf _ z).2.1 rfl) ho, r⟩
  · by_cases hb : b = T2
    · subst hb
      rw [upd_same] at q
      cases q
      exact n2
    · rw [upd_ne hb] at q
      by_cases hb1 : b = T
      · subst hb1
        rw [upd_same] at q
        cases q
        refine n1.stay (fun c v _ r => r) (fun c r => ?_) fun c xs r => ?_
        · by_cases hc : c = T2
          · subst hc
            rw [upd_ne (Nat.ne_of_gt hT2), hn2] at r
            cases r
          · rw [upd_ne hc]; exact r
        · by_cases hc : c = T2
          · subst hc
            rw [upd_ne (Nat.ne_of_gt hT2), hn2] at r
            cases r
          · rw [upd_ne hc]; exact r
      · rw [upd_ne hb1] at q
        exact stay b u (fun c x r => (old r).trans r) q
end
/-! ### for i, (x, y) in enumerate(zip(xs, ys)) -/
def IteZ (b1 b2 : Bool) (K : PySem.W.Frag) (a c : Addr) : It :=
  ⟨fun i H => ∃ (xs ys : List V) (x y : V), SqB b1 K H a xs ∧ SqB b2 K H c ys ∧ xs[i]? = some x ∧ ys[i]? = some y,
    fun i H v H' => ∃ T x y ob T2 ob2, v = .ref T2 ∧ H T = none ∧ ob.dict = none ∧ upd H T (.frz ob (.tup [x, y])) T2 = none ∧ ob2.dict = none ∧ H' = upd (upd H T (.frz ob (.tup [x, y]))) T2 (.frz ob2 (.tup [.int (i : Nat), .ref T])) ∧ (∀ xs, SqB b1 K H a xs → xs[i]? = some x) ∧ ∀ ys, SqB b2 K H c ys → ys[i]? = some y,
    fun i H => ∃ xs ys : List V, SqB b1 K H a xs ∧ SqB b2 K H c ys ∧ i = min xs.length ys.length⟩
theorem turn_enumZ {P : Program} {w : World} {K : PySem.W.Frag} {elts : List Expr} {kk : Nat} {tpos : Pos} {b1 b2 : Bool} {a c e z TI TO i1 i2 : Addr} (S : ZipSep2 z TI TO i1 i2 [i1, a] [i2, c]) (h1 : a ≠ i1) (h2 : c ≠ i2) (ne : e ∉ [z, TI, TO, i1, i2]) :
    Turn P w K (.Tuple elts kk tpos) (IteZ b1 b2 K a c) [e, z, TI, TO, i1, i2] e (fun i h => (∃ old, IsEnum h e z ((i : Nat) : Int) old) ∧ ZAt z TI TO i1 i2 a c b1 b2 i h) where
  mem := by simp
  obj := fun i h ⟨⟨old, he⟩, a1, a2, a3, ⟨u, v, a4⟩, f0, fl, a5, _⟩ b hb => by
    simp only [List.mem_cons, List.not_mem_nil, or_false] at hb
    rcases hb with q | q | q | q | q | q <;> rw [q]
    · exact ⟨_, he, fun v r => nomatch r⟩
    · exact ⟨_, a5, fun v r => nomatch r⟩
    · exact ⟨_, a1, fun v r => nomatch r⟩
    · exact ⟨_, a4, fun v r => nomatch r⟩
    · exact a2.obj
    · exact a3.obj
  keep := fun i h h' ⟨⟨old, he⟩, za⟩ k => ⟨⟨old, k e (by simp) _ he⟩, za.frame fun b hb o q => k b (List.mem_cons_of_mem _ hb) o q⟩
  item := by
    intro X hP hw hK hc i pins s σ H E I hf ⟨⟨old, he⟩, za⟩ hg
    subst hP hw hK
    obtain ⟨xs, ys, x, y, hqx, hqy, hx, hy⟩ := hg
    obtain ⟨its, rv, p1, _, la⟩ := DL.Inv.sqB I hqx
    obtain ⟨its2, rv2, p2, _, lc⟩ := DL.Inv.sqB I hqy
    obtain ⟨u, hu, ru⟩ := rv.get hx
    obtain ⟨v, hv, rw2⟩ := rv2.get hy
    have in1 : i < its.length := (List.getElem?_eq_some_iff.mp hu).1
    have in2 : i < its2.length := (List.getElem?_eq_some_iff.mp hv).1
    have hel : e < s.heap.objs.size := Heap.lt_size he
    refine enumZ (I.ok.hd hc) S h1 h2 ne he za p1 p2 (by rw [List.size_toArray, List.size_toArray]; omega) fun T T2 x' y' g tk hT hT2 px py hp out za' t2 k => ?_
    have ex : x' = u := by
      have : its[i]? = some x' := by simpa using px
      rw [hu] at this; exact (Option.some.inj this).symm
    have ey : y' = v := by
      have : its2[i]? = some y' := by simpa using py
      rw [hv] at this; exact (Option.some.inj this).symm
    subst ex ey
    refine ⟨_, rfl, wpAny_letOwnedTupleGo_enum (s := { s with heap := g, toks := tk + 1 }) out fun g2 he2 sb => ?_⟩
    have ne1 : T ≠ e := Nat.ne_of_gt (Nat.lt_of_lt_of_le hel hT)
    have ne2 : T2 ≠ e := Nat.ne_of_gt (Nat.lt_of_lt_of_le hel (Nat.le_trans hT (Nat.le_of_lt hT2)))
    have q1 : g2.get? T = some { cls := .type "tuple", data := .seq #[x', y'] } := (sb.2 _ ne1).trans hp
    have q2 : g2.get? T2 = some { cls := .type "tuple", data := .seq #[.int i tk, .ref T] } := (sb.2 _ ne2).trans t2
    have I1 := turned2 (t' := tk + 1) (ch := [e, z, TI, TO, i1, i2]) (o1 := .frz { cls := .type "tuple", data := .seq #[x', y'] } (.tup [x, y])) (o2 := .frz { cls := .type "tuple", data := .seq #[.int i tk, .ref T] } (.tup [.int (i : Nat), .ref T])) (h' := g2) I
      (fun b o hb q => (sb.2 b fun r => hb (by simp [r])).trans (k b o (fun r => hb (by simp [r])) (fun r => hb (by
        simp only [List.mem_cons, List.not_mem_nil, or_false] at r ⊢
        rcases r with r | r | r | r <;> simp [r])) q)) hf hT hT2
      ⟨q1, by show 2 ≤ sizeLine; decide, [x', y'], .cons ru (.cons rw2 .nil), ⟨_, q1, rfl, _, rfl⟩⟩ ⟨q2, by show 2 ≤ sizeLine; decide, [.int i tk, .ref T], .cons ⟨_, rfl⟩ (.cons rfl .nil), ⟨_, q2, rfl, _, rfl⟩⟩
    have fr2 : upd H T (.frz { cls := .type "tuple", data := .seq #[x', y'] } (.tup [x, y])) T2 = none := by
      rw [upd_ne (Nat.ne_of_gt hT2)]
      exact I.hok.fresh (Nat.le_trans hT (Nat.le_of_lt hT2))
    refine ⟨.ref T2, _, I1, rfl, ⟨T, x, y, _, T2, _, rfl, I.hok.fresh hT, rfl, fr2, rfl, rfl, fun zs hz => by rw [DL.Inv.sqB_inj I hz hqx]; exact hx, fun zs hz => by rw [DL.Inv.sqB_inj I hz hqy]; exact hy⟩, ⟨⟨.ref T, ?_⟩, za'.frame fun b hb o q => (sb.2 b fun r => ne (r ▸ hb)).trans q⟩, fun b hb => ?_⟩
    · rw [show ((i + 1 : Nat) : Int) = (i : Int) + 1 from by omega]; exact he2
    · have hlt : b < s.heap.objs.size := by
        obtain ⟨o, q⟩ : ∃ o, s.heap.get? b = some o := by
          obtain ⟨a1, a2, a3, ⟨u, v, a4⟩, f0, fl, a5, _⟩ := za
          simp only [List.mem_cons, List.not_mem_nil, or_false] at hb
          rcases hb with q | q | q | q | q | q <;> rw [q]
          · exact ⟨_, he⟩
          · exact ⟨_, a5⟩
          · exact ⟨_, a1⟩
          · exact ⟨_, a4⟩
          · obtain ⟨o, r, _⟩ := a2.obj; exact ⟨o, r⟩
          · obtain ⟨o, r, _⟩ := a3.obj; exact ⟨o, r⟩
        exact Heap.lt_size q
      rw [upd_ne (Nat.ne_of_lt (Nat.lt_of_lt_of_le hlt (Nat.le_trans hT (Nat.le_of_lt hT2)))), upd_ne (Nat.ne_of_lt (Nat.lt_of_lt_of_le hlt hT))]
      exact (hf b hb).1
  done := by
    intro X hP hw hK hc i pins s σ H E I hf ⟨⟨old, he⟩, za⟩ hg
    subst hP hw hK
    obtain ⟨xs, ys, hqx, hqy, rfl⟩ := hg
    obtain ⟨its, rv, p1, _, la⟩ := DL.Inv.sqB I hqx
    obtain ⟨its2, rv2, p2, _, lc⟩ := DL.Inv.sqB I hqy
    have em : min xs.length ys.length = min its.toArray.size its2.toArray.size := by rw [List.size_toArray, List.size_toArray, Paired.length rv, Paired.length rv2]
    rw [em] at za
    refine enumZ_stop (I.ok.hd hc) S h1 h2 he za p1 p2 fun g tk k => ⟨rfl, I.turnedL (t' := tk) (ch := [e, z, TI, TO, i1, i2]) (fun b o hb q => k b o (fun r => hb (by
        simp only [List.mem_cons, List.not_mem_nil, or_false] at r ⊢
        rcases r with r | r | r | r <;> simp [r])) q) hf⟩
  self := fun A i s Q E ⟨⟨old, he⟩, _⟩ q => wpAny_pyIter_enum he q
theorem call_enumSelf {prog : Program} {w : World} {A : Around} {E : Value → Shared → Prop} {s : Shared} {z TI TO : Addr} {Q : Value → Shared → Prop} (hz : IsZip s.heap z TI TO .none)
    (h : ∀ h', IsEnum h' s.heap.objs.size z 0 .none → h'.objs.size = s.heap.objs.size + 1 →
      (∀ b o, s.heap.get? b = some o → h'.get? b = some o) → Q (.ref s.heap.objs.size) { s with heap := h' }) :
    wpAny (model prog w) A (call (.type "enumerate") [.ref z]) Q E s := by
  have meets : Meets (Builtin.«enumerate.__new__» ⟨[.type "enumerate", .ref z], []⟩) (fun _ R s => IsZip s.heap z TI TO .none ∧
      R (.ok (.ret (.ref s.heap.objs.size))) { s with heap := s.heap.push { cls := .type "enumerate", data := .fields #[.none, .bool false, .ref z, rawInt 0, .none, .none] } }) :=
    .of_wp fun prog w A R s h => by
      obtain ⟨hp, g, d, tk, os⟩ := s; obtain ⟨h1, h⟩ := h
      have hsub := sub_enumerate
      have q1 : ∀ {A' : Around} {E : Value → Shared → Prop} {Q : Value → Shared → Prop}, Q (.ref z) ⟨hp, g, d, tk, os⟩ → wpAny (model prog w) A' (pyIter (.ref z)) Q E ⟨hp, g, d, tk, os⟩ :=
        fun q => wpAny_pyIter_zip h1 q
      wp_walk using q1
      first
        | (refine wpAny_stack_any fun st => wpAny_pure ?_
           split
           · rename_i c _ _ _ _ _
             cases (c == Value.type "enumerate")
             · wp_walk using q1
               exact ⟨_, rfl, h⟩
             · wp_walk using q1
               exact ⟨_, rfl, h⟩
           · wp_walk using q1
             exact ⟨_, rfl, h⟩)
        | exact ⟨_, rfl, h⟩
  refine callType_new F.called_enumerate (by decide) (F.typeCall_enumerate_1 _) (F.newCall_enumerate_1 _) (fun obj => F.args_object_init_2 obj _) F.entry_enumerate_new
    meets ⟨hz, ?_⟩
  have he : IsEnum (s.heap.push { cls := .type "enumerate", data := .fields #[.none, .bool false, .ref z, rawInt 0, .none, .none] }) s.heap.objs.size z 0 .none := Heap.get?_push_size s.heap rfl
  exact ⟨⟨_, he, rfl⟩, h _ he (Heap.size_push ..) fun b o x => Heap.get?_push_of_some _ x⟩
def iEnumZip (K : PySem.W.Frag) (ta : TA) : TI := fun σ H R => ta σ H fun vs H1 => ∃ (b1 b2 : Bool) (a c : Addr) (xs ys : List V), vs = [.ref a, .ref c] ∧ SqB b1 K H1 a xs ∧ SqB b2 K H1 c ys ∧ R (IteZ b1 b2 K a c) H1
theorem pi_enumZip {X : Cx} {e e2 : Expr} {ta : TA} {p p2 pos pos2 tpos : Pos} {elts : List Expr} {kk : Nat} (hg0 : Gl X "enumerate") (hm0 : X.mg "enumerate" = none) (hg : Gl X "zip") (hm : X.mg "zip" = none) (ha : PA X [e, e2] ta)
    (hs : starEach [e, e2] X.env = (false, eval e X.env) :: starEach [e2] X.env := by rfl) (hpl : (backTo pos2 (starEach [e2] X.env)).any (·.1) = false := by rfl)
    (hs0 : starEach [.Call (.Name "zip" p2) [e, e2] [] pos2] X.env = [(false, eval (.Call (.Name "zip" p2) [e, e2] [] pos2) X.env)] := by rfl) :
    PI X (.Tuple elts kk tpos) (.Call (.Name "enumerate" p) [.Call (.Name "zip" p2) [e, e2] [] pos2] [] pos) (iEnumZip X.K ta) := by
  refine ⟨fun pins s σ H R I h => ?_⟩
  refine Call_ (ld_blt I hg0 hm0 boot_enumerate (PyProof.Rows.callWith_type1 (Calls.spliced_cons ?_) hs0 rfl))
  refine Call_ (ld_blt I hg hm PyProof.Rows.boot_zip (PyProof.Rows.callWith_type1 (thn (ha.run pos2 pins s σ H _ I h) fun us s1 ⟨vs, H1, I1, r1, q1⟩ => ?_) hs hpl))
  obtain ⟨b1, b2, a, c, xs, ys, ex, hqx, hqy, q⟩ := q1
  subst ex
  cases r1 with
  | cons r rr =>
    cases rr with
    | cons r' rr =>
      cases rr
      cases r
      cases r'
      obtain ⟨its, rv, p1, _, la⟩ := DL.Inv.sqB I1 hqx
      obtain ⟨its2, rv2, p2, _, lc⟩ := DL.Inv.sqB I1 hqy
      refine zip_begins2 (beginsB b1 a its.toArray) (beginsB b2 c its2.toArray) p1 p2 fun h' hz hTI hTO h1 h2 hsz hk => Calls.spliced_nil ?_
      refine call_enumSelf (s := { s1 with heap := h' }) hz fun h'' he hsz2 hk2 => wpAny_pyIter_enum he ?_
      have hk3 : ∀ b o, s1.heap.get? b = some o → h''.get? b = some o := fun b o r => hk2 b o (hk b o r)
      have I2 : Inv X pins σ H1 { s1 with heap := h'' } := I1.kept (t' := s1.toks) hk3
      have ez : h'.objs.size = s1.heap.objs.size + 5 := hsz
      have S := zip_sep2 (N := s1.heap.objs.size) (fp1 := [a]) (fp2 := [c]) (fun d hd => by rw [List.mem_singleton.mp hd]; exact la) (fun d hd => by rw [List.mem_singleton.mp hd]; exact lc)
      have mem : ∀ d, d ∈ [h'.objs.size, s1.heap.objs.size + 4, s1.heap.objs.size + 2, s1.heap.objs.size + 3, s1.heap.objs.size, s1.heap.objs.size + 1] → s1.heap.objs.size ≤ d := fun d hd => by
        rw [ez] at hd
        simp only [List.mem_cons, List.not_mem_nil, or_false] at hd
        rcases hd with z | z | z | z | z | z
        · rw [z]; exact Nat.le_add_right _ _
        · rw [z]; exact Nat.le_add_right _ _
        · rw [z]; exact Nat.le_add_right _ _
        · rw [z]; exact Nat.le_add_right _ _
        · rw [z]; exact Nat.le_refl _
        · rw [z]; exact Nat.le_add_right _ _
      refine ⟨h'.objs.size, [h'.objs.size, s1.heap.objs.size + 4, s1.heap.objs.size + 2, s1.heap.objs.size + 3, s1.heap.objs.size, s1.heap.objs.size + 1], _, _, H1, rfl, I2,
        turn_enumZ S (Nat.ne_of_lt la) (Nat.ne_of_lt (Nat.lt_succ_of_lt lc)) (fun hm => ?_), ⟨⟨.none, he⟩, ⟨hk2 _ _ hTI, (itB_new h1).at fun o e => hk2 _ _ e, (itB_new h2).at fun o e => hk2 _ _ e, ⟨_, _, hk2 _ _ hTO⟩, .none, false, hk2 _ _ hz, .inl rfl⟩⟩, fun d hdm => ?_, q⟩
      · rw [ez] at hm
        simp only [List.mem_cons, List.not_mem_nil, or_false] at hm
        have L : ∀ (n k j : Nat), j < k → ¬ (n + k = n + j) := fun n k j hj e => absurd (Nat.add_left_cancel e) (by omega)
        rcases hm with z | z | z | z | z
        · exact L _ 5 4 (by omega) z
        · exact L _ 5 2 (by omega) z
        · exact L _ 5 3 (by omega) z
        · exact L _ 5 0 (by omega) z
        · exact L _ 5 1 (by omega) z
      · have hle := mem d hdm
        exact I1.fpOk hle (I1.hok.fresh hle)
theorem walk_enumZ {b1 b2 : Bool} {K : PySem.W.Frag} {a c : Addr} {xs ys : List V} {F1 : Hp} {ds es : List Pd} (hd : ds.length = xs.length) (he : es.length = ys.length) (hz : ds.length ≤ sizeLine) (G : ∀ H, Same F1 H → SqB b1 K H a xs ∧ SqB b2 K H c ys)
    (dd : ∀ (i : Nat) (v : V), xs[i]? = some v → ∃ d, ds[i]? = some d ∧ Da F1 d v) (de : ∀ (i : Nat) (v : V), ys[i]? = some v → ∃ d, es[i]? = some d ∧ Da F1 d v) : WalkD (IteZ b1 b2 K a c) F1 (enumD (zipD ds es)) := by
  have ln : (enumD (zipD ds es)).length = min ds.length es.length := by rw [enumD_length]; unfold zipD; rw [List.length_map, List.length_zip]
  refine ⟨by rw [ln]; omega, fun i F H hi s1 s2 => ?_, fun F H s1 s2 => ?_, fun i F H v H' hi s1 s2 y => ?_⟩
  · have g := G H (s1.trans s2)
    exact ⟨xs, ys, xs[i], ys[i], g.1, g.2, List.getElem?_eq_getElem (by omega), List.getElem?_eq_getElem (by omega)⟩
  · have g := G H (s1.trans s2)
    exact ⟨xs, ys, g.1, g.2, by rw [ln]; omega⟩
  · have g := G H (s1.trans s2)
    obtain ⟨T, x, y', ob, T2, ob2, ev, hT, o1, hT2, o2, eh, e1, e2⟩ := y
    obtain ⟨d, hd1, ad⟩ := dd i x (e1 xs g.1)
    obtain ⟨e, he1, ae⟩ := de i y' (e2 ys g.2)
    have hz1 : (zipD ds es)[i]? = some (.tuple [d, e]) := by
      unfold zipD
      rw [List.getElem?_map, show (ds.zip es)[i]? = some (d, e) from List.getElem?_zip_eq_some.mpr ⟨hd1, he1⟩]
      rfl
    have hTF : F T = none := s2.free hT
    have k1 : Same F (upd F T (.frz ob (.tup [x, y']))) := same_upd hTF
    have n2 : (upd F T (.frz ob (.tup [x, y']))) T2 = none := by
      rcases Classical.em (T2 = T) with q | q
      · subst q; rw [upd_same] at hT2; cases hT2
      · rw [upd_ne q] at hT2 ⊢
        exact s2.free hT2
    have k2 : Same (upd F T (.frz ob (.tup [x, y']))) (upd (upd F T (.frz ob (.tup [x, y']))) T2 (.frz ob2 (.tup [.int (i : Nat), .ref T]))) := same_upd n2
    refine ⟨_, upd (upd F T (.frz ob (.tup [x, y']))) T2 (.frz ob2 (.tup [.int (i : Nat), .ref T])), enumD_get hz1, ?_, T2, [.int (i : Nat), .ref T], ev, ⟨ob2, upd_same, o2⟩, (by show 2 ≤ sizeLine; decide), .int (i : Nat), [.ref T], rfl, rfl, .ref T, [], rfl, ?_, rfl⟩
    · rw [eh]
      exact .one T _ hT (.single T2 _ hT2)
    · exact ⟨T, [x, y'], rfl, ⟨ob, k2 _ _ upd_same, o1⟩, (by show 2 ≤ sizeLine; decide), x, [y'], rfl, ad.mono (s1.trans (k1.trans k2)), y', [], rfl, ae.mono (s1.trans (k1.trans k2)), rfl⟩
theorem di_enumZip {g : Gh} {X : Cx} {ρ ρ1 : List Sl} {e e2 : Expr} {ds ds2 : List Pd} {pos p p2 pos2 : Pos} {k n : Nat} {elts : List Expr} {tpos : Pos} {r r2 : R} (hX : XO k X) (h : DA g X [e, e2] ρ [r, r2] ρ1) (hr : seqD r = some ds) (hr2 : seqD r2 = some ds2) (hg0 : Gl X "enumerate" := by rfl) (hg : Gl X "zip" := by rfl)
    (hs : starEach [e, e2] X.env = (false, eval e X.env) :: starEach [e2] X.env := by rfl) (hpl : (backTo pos2 (starEach [e2] X.env)).any (·.1) = false := by rfl)
    (hs0 : starEach [.Call (.Name "zip" p2) [e, e2] [] pos2] X.env = [(false, eval (.Call (.Name "zip" p2) [e, e2] [] pos2) X.env)] := by rfl) :
    DI g X (.Tuple elts n tpos) (.Call (.Name "enumerate" p) [.Call (.Name "zip" p2) [e, e2] [] pos2] [] pos) ρ (enumD (zipD ds ds2)) ρ1 :=
  pi_mono (pi_enumZip hg0 hX.bi.enumerate hg hX.bi.zip h hs hpl hs0) fun σ H Q ⟨F, S, q⟩ => ⟨F, S, fun vs F1 H1 S1 k1 a => by
    obtain ⟨v, ws, e1, a1, w, ws2, e2, a2, a3⟩ := a
    subst e1 e2
    cases (show ws2 = _ from a3)
    obtain ⟨b, pp, us, e2, dl, dz, sq⟩ := seqD_at hr a1
    obtain ⟨b2, pp2, us2, e3, dl2, dz2, sq2⟩ := seqD_at hr2 a2
    subst e2 e3
    exact ⟨b, b2, pp, pp2, us, us2, rfl, sq _ _ S1.st.sub, sq2 _ _ S1.st.sub, q _ F1 H1 S1 k1 (walk_enumZ dl.length dl2.length dz (fun H k => ⟨sq _ _ k, sq2 _ _ k⟩) (fun i v ev => dl.get ev) fun i v ev => dl2.get ev)⟩⟩
end DL

set_option Elab.async false
set_option linter.all false
set_option maxRecDepth 100000
set_option maxHeartbeats 1000000
set_option autoImplicit false
/-! DL28: x, y = e. -/
namespace DL
open PySem PySem.Spec PyProof.Rows L2 LB
section
variable {X : Cx} {pos : Pos}
theorem ps_asg {elts : List Expr} {kt : Nat} {tpos : Pos} {e : Expr} {te : TE} {t : TG} (he : PE X e te) (hg : PG X (.Tuple elts kt tpos) t)
    (hw : swappedStores [.Tuple elts kt tpos] e X.env = pure none) (hs : swapsWithSole [.Tuple elts kt tpos] e pos.line X.env = pure false) :
    PS X (.Assign [.Tuple elts kt tpos] e pos) (fun D σ H => te σ H fun v H1 => t v σ H1 D.nx) := by
  refine ⟨fun pins s σ H D I h => ?_⟩
  refine Assign_Tuple (thn (he.run pins s σ H _ I h) fun u s1 ⟨v, H1, I1, r1, q0⟩ => ?_) hs hw
  exact hg.run pins _ σ H1 v u _ I1 r1 q0
variable {g : Gh} {ρ ρ1 ρ2 : List Sl} {rest : List Stmt} {N : List Sl → Prop} {R : Rt → List Sl → Prop}
theorem dss_asg {elts : List Expr} {kt : Nat} {tpos : Pos} {e : Expr} {d : Pd} {bind : Pd → List Sl → Option (List Sl)} {ix : List Nat} (hg : DG X (.Tuple elts kt tpos) bind ix) (he : DE g X e ρ (.d d) ρ1) (hb : bind d ρ1 = some ρ2) (hr : DSs g X rest ρ2 N R)
    (hw : swappedStores [.Tuple elts kt tpos] e X.env = pure none := by rfl) (hs : swapsWithSole [.Tuple elts kt tpos] e pos.line X.env = pure false := by rfl) :
    DSs g X (.Assign [.Tuple elts kt tpos] e pos :: rest) ρ N R :=
  dss_cons (N' := (· = ρ2)) (ps_mono (ps_asg he hg.pg hw hs) fun D σ H ⟨F, S, k, _⟩ => ⟨F, S, fun v F1 H1 S1 k1 a => ⟨F1, g, ρ1, d, ρ2, S1, a, hb, fun σ' S2 _ _ => k _ F1 H1 _ rfl S2 k1⟩⟩) fun ρ' h => by subst h; exact hr
end
end DL

set_option Elab.async false
set_option linter.all false
set_option maxRecDepth 100000
set_option maxHeartbeats 1000000
set_option autoImplicit false
/-! DL29: a list's index. -/
namespace DL
open PySem PySem.Spec PyProof.Rows L2 LB
theorem idx_first : ∀ {ns : List Int} {n : Int}, n ∈ ns → (ns.map V.int)[ns.idxOf n]? = some (.int n) ∧ ∀ (m : Nat) (z : V), m < ns.idxOf n → (ns.map V.int)[m]? = some z → eqV z (.int n) = false
  | [], n, h => by cases h
  | a :: ns, n, h => by
    by_cases e : a = n
    · subst e
      rw [List.idxOf_cons_self]
      exact ⟨rfl, fun m z hm => absurd hm (Nat.not_lt_zero _)⟩
    · have b : (a == n) = false := by simpa using e
      rw [List.idxOf_cons, b]
      rcases List.mem_cons.mp h with q | q
      · exact absurd q.symm e
      · obtain ⟨h1, h2⟩ := idx_first q
        refine ⟨h1, fun m z hm hz => ?_⟩
        cases m with
        | zero => cases hz; exact decide_eq_false e
        | succ m => exact h2 m z (Nat.lt_of_succ_lt_succ hm) hz
section
variable {g : Gh} {X : Cx} {ρ ρ1 ρ2 : List Sl} {o e : Expr} {ds : List Pd} {apos cpos : Pos}
/-- l.index(e), e in it -/
theorem de_indexL {ns : List Int} {n : Int} (ho : DE g X o ρ (.d (.list ds)) ρ1) (hd : ds = ns.map .int) (ha : DE g X e ρ1 (.d (.int n)) ρ2) (hn : n ∈ ns)
    (hbase : attributeBase o "index" X.env (eval o X.env) = eval o X.env := by rfl)
    (hfew : ((backTo cpos (starEach [e] X.env)).all (fun x => !x.1) && (backToKw cpos (keywordEach [] X.env)).all (fun x => x.1.isSome)
      && decide (([e] : List Expr).length + ([] : List Keyword).length + (if ([] : List Keyword).isEmpty then 0 else 1) < 30)) = true := by rfl)
    (hline : (apos.endLine == cpos.line) = true := by rfl) (hs : starEach [e] X.env = (false, eval e X.env) :: starEach [] X.env := by rfl) (hplain : (backTo cpos (starEach [] X.env)).any (·.1) = false := by rfl) :
    DE g X (.Call (.Attribute o "index" apos) [e] [] cpos) ρ (.d (.int (ns.idxOf n : Nat))) ρ2 :=
  pe_mono (pe_bm PySem.F.plainAttrs_list PySem.F.slot_list_index PySem.F.type_list_index mt_index ho (da_cons ha da_nil hs) hbase hfew hline hs hplain) fun σ H Q ⟨F, S, k⟩ => ⟨F, S, fun v F1 H1 S1 k1 av => by
    subst hd
    obtain ⟨a, vs, e1, tf, z, dl⟩ := av
    have ew := dl.ints
    subst e1 ew
    refine ⟨.inl ⟨rfl, _, SqL.of (S1.st.sub _ _ tf)⟩, F1, S1, fun vs F2 H2 S2 k2 r2 => ?_⟩
    obtain ⟨v, ev, a2⟩ := rs1 r2
    subst ev
    cases (show v = _ from a2)
    have hf : ∀ l : List Int, (l.map V.int).all flatV = true := fun l => by
      rw [List.all_map]
      exact List.all_eq_true.mpr fun x hx => rfl
    exact ⟨a, _, .int n, ns.idxOf n, .int n, rfl, rfl, SqL.of (S2.st.sub _ _ (k2 _ _ tf)), rfl, hf _, (idx_first hn).1, decide_eq_true rfl, (idx_first hn).2, k _ F2 H2 S2 (k1.trans k2) rfl⟩⟩
end
end DL
namespace DL
open PySem PySem.Spec PyProof.Rows L2 LB
theorem dss_is {g : Gh} {X : Cx} {ρ : List Sl} {rest : List Stmt} {N : List Sl → Prop} {R : Rt → List Sl → Prop} (ρ' : List Sl) (h : DSs g X rest ρ' N R) (e : ρ = ρ' := by rfl) : DSs g X rest ρ N R := e ▸ h
end DL

set_option Elab.async false
set_option linter.all false
set_option maxRecDepth 100000
set_option maxHeartbeats 1000000
set_option autoImplicit false
/-! DL30: short rules. -/
namespace DL
open PySem PySem.Spec PyProof.Rows L2 LB
section
variable {g : Gh} {X : Cx} {ρ ρ1 ρ2 : List Sl} {a b : Expr} {i : Int} {rb : R} {pos : Pos} {rest : List Stmt} {N : List Sl → Prop} {R' : Rt → List Sl → Prop}
theorem de_in {ns : List Int} (ha : DE g X a ρ (.d (.int i)) ρ1) (hb : DE g X b ρ1 rb ρ2) (h : seqo ρ2 rb = some (ns.map .int)) (hm : behindInMarks .In b = false := by with_unfolding_all rfl) : DE g X (.Compare a [.In] [b] pos) ρ (.d (.bool (decide (i ∈ ns)))) ρ2 := de_cmp2 op_in_seq (op2_in h) ha hb hm
/-- if that is known to be taken, and leaves -/
theorem dss_ifT {c : Expr} {bd : List Stmt} (hc : DT g X c ρ true ρ1) (ha : DSs g X bd ρ1 (fun _ => False) R') : DSs g X (.If c bd [] pos :: rest) ρ N R' := dss_ifR hc (fun _ => ha) fun h => by cases h
end
end DL

set_option Elab.async false
set_option linter.all false
set_option maxRecDepth 100000
set_option maxHeartbeats 1000000
set_option autoImplicit false
/-! DL31: list(zip(xs, ys)). -/
namespace DL
open PySem PySem.Spec PyProof.Rows L2 LB
section
variable {prog : Program} {w : World} {A : Around} {E : Value → Shared → Prop} {s t : Shared} {z TI TO i1 i2 l1 l2 : Addr} {i : Nat} {b1 b2 : Bool} {xs ys : Array Value}
theorem pnextZ {Q : Option Value → Shared → Prop} (hA : A.handled = none) (S : ZipSep2 z TI TO i1 i2 [i1, l1] [i2, l2]) (e1 : l1 ≠ i1) (e2 : l2 ≠ i2) (h : ZAt z TI TO i1 i2 l1 l2 b1 b2 i t.heap) (g1 : IsB b1 t.heap l1 xs) (g2 : IsB b2 t.heap l2 ys) (hi : i < min xs.size ys.size)
    (hQ : ∀ T x y g tk, t.heap.objs.size ≤ T → T < g.objs.size → xs[i]? = some x → ys[i]? = some y → IsPair g T x y → ZAt z TI TO i1 i2 l1 l2 b1 b2 (i + 1) g → (∀ c o, c ∉ [z, TO, i1, i2] → t.heap.get? c = some o → g.get? c = some o) → Q (some (.ref T)) { t with heap := g, toks := tk }) :
    wpAny (model prog w) A (pyNext (.ref z)) Q E t := by
  have D1 := drawsB (prog := prog) (w := w) (A := A.in1) b1 hA i1 l1 e1 xs
  have D2 := drawsB (prog := prog) (w := w) (A := A.in1) b2 hA i2 l2 e2 ys
  obtain ⟨a1, a2, a3, ⟨p, q, a4⟩, f0, fl, a5, a6⟩ := h
  have h1 : i < xs.size := Nat.lt_of_lt_of_le hi (Nat.min_le_left ..)
  have h2 : i < ys.size := Nat.lt_of_lt_of_le hi (Nat.min_le_right ..)
  have ty : t.TypeIs (.ref z) "zip" := ⟨_, a5, rfl⟩
  unfold pyNext
  refine wpAny_bind (wpAny_attempt (wpAny_callSpecial?_slot (name := Str.ofString "__next__") ty F.slot_zip_next (wpAny_call_entry F.slot_zip_next ty F.entry_zip_next ?_ (F.args_zip_next_1 _))))
  have cs : (∀ (Q : Bool → Shared → Prop) (E : Value → Shared → Prop), Q true t → wpAny (model prog w) A.in1 (Builtin.SmallTypes.ownedTupleIsFree (.ref z)) Q E t) ∨ ∃ (T : Addr) (oT : Obj), f0 = rawInt T ∧ t.heap.get? T = some oT := by
    rcases a6 with rfl | ⟨T, rfl⟩
    · exact .inl fun Q E q => zfree_none a5 q
    · cases hT : t.heap.get? T with
      | none => exact .inl fun Q E q => zfree_dead a5 hT q
      | some oT => exact .inr ⟨T, oT, rfl, hT⟩
  rcases cs with hf | ⟨T, oT, rfl, hT⟩
  · refine zfree_next S D1 D2 a5 hf a1 a4 ⟨a2, g1⟩ ⟨a3, g2⟩ h1 h2 fun T x y g tk hT hTl px py z1 z2 z3 z4 z5 k => wpAny_pure ?_
    refine hQ T x y g tk hT hTl px py z5 ⟨k _ _ S.TIz S.TITO S.TIi1 S.TIi2 a1, z3.1, z4.1, ⟨x, y, z2⟩, _, _, z1, .inr ⟨T, rfl⟩⟩ fun c o hc e => ?_
    simp only [List.mem_cons, List.not_mem_nil, or_false, not_or] at hc
    exact k c o hc.1 hc.2.1 hc.2.2.1 hc.2.2.2 e
  · refine zheld_next S D1 D2 a5 hT a1 ⟨a2, g1⟩ ⟨a3, g2⟩ h1 h2 fun x y g tk px py z1 z3 z4 z5 k => wpAny_pure ?_
    refine hQ t.heap.objs.size x y g tk (Nat.le_refl _) (Heap.lt_size z5) px py z5 ⟨k _ _ S.TIz S.TIi1 S.TIi2 a1, z3.1, z4.1, ⟨p, q, k _ _ S.TOz S.Ti1 S.Ti2 a4⟩, _, _, z1, .inr ⟨T, rfl⟩⟩ fun c o hc e => ?_
    simp only [List.mem_cons, List.not_mem_nil, or_false, not_or] at hc
    exact k c o hc.1 hc.2.2.1 hc.2.2.2 e
theorem pstopZ {Q : Option Value → Shared → Prop} (hA : A.handled = none) (S : ZipSep2 z TI TO i1 i2 [i1, l1] [i2, l2]) (e1 : l1 ≠ i1) (e2 : l2 ≠ i2) (h : ZAt z TI TO i1 i2 l1 l2 b1 b2 (min xs.size ys.size) t.heap) (g1 : IsB b1 t.heap l1 xs) (g2 : IsB b2 t.heap l2 ys)
    (hQ : ∀ g tk, (∀ c o, c ∉ [z, TO, i1, i2] → t.heap.get? c = some o → g.get? c = some o) → Q none { t with heap := g, toks := tk }) :
    wpAny (model prog w) A (pyNext (.ref z)) Q E t := by
  have D1 := drawsB (prog := prog) (w := w) (A := A.in1) b1 hA i1 l1 e1 xs
  have D2 := drawsB (prog := prog) (w := w) (A := A.in1) b2 hA i2 l2 e2 ys
  obtain ⟨a1, a2, a3, ⟨p, q, a4⟩, f0, fl, a5, a6⟩ := h
  have h1 : min xs.size ys.size ≤ xs.size := Nat.min_le_left ..
  have h2 : min xs.size ys.size ≤ ys.size := Nat.min_le_right ..
  have h3 : min xs.size ys.size = xs.size ∨ min xs.size ys.size = ys.size := by omega
  have ty : t.TypeIs (.ref z) "zip" := ⟨_, a5, rfl⟩
  unfold pyNext
  refine wpAny_bind (wpAny_attempt (wpAny_callSpecial?_slot (name := Str.ofString "__next__") ty F.slot_zip_next (wpAny_call_entry F.slot_zip_next ty F.entry_zip_next ?_ (F.args_zip_next_1 _))))
  have cs : (∀ (Q : Bool → Shared → Prop) (E : Value → Shared → Prop), Q true t → wpAny (model prog w) A.in1 (Builtin.SmallTypes.ownedTupleIsFree (.ref z)) Q E t) ∨ ∃ (T : Addr) (oT : Obj), f0 = rawInt T ∧ t.heap.get? T = some oT := by
    rcases a6 with rfl | ⟨T, rfl⟩
    · exact .inl fun Q E q => zfree_none a5 q
    · cases hT : t.heap.get? T with
      | none => exact .inl fun Q E q => zfree_dead a5 hT q
      | some oT => exact .inr ⟨T, oT, rfl, hT⟩
  rcases cs with hf | ⟨T, oT, rfl, hT⟩
  · refine zfree_stop S D1 D2 a5 hf a1 a4 ⟨a2, g1⟩ ⟨a3, g2⟩ h1 h2 h3 fun g tk e k he => ?_
    obtain ⟨o, ho, hc⟩ := he
    refine wpAny_bind (wpAny_isInstance (T := "StopIteration") (b := true) ⟨o, ho, hc⟩ isSubtype_stop (wpAny_pure (hQ g tk fun c o hc q => ?_)))
    simp only [List.mem_cons, List.not_mem_nil, or_false, not_or] at hc
    exact k c o hc.1 hc.2.1 hc.2.2.1 hc.2.2.2 q
  · refine zheld_stop S D1 D2 a5 hT a1 ⟨a2, g1⟩ ⟨a3, g2⟩ h1 h2 h3 fun g tk e k he => ?_
    obtain ⟨o, ho, hc⟩ := he
    refine wpAny_bind (wpAny_isInstance (T := "StopIteration") (b := true) ⟨o, ho, hc⟩ isSubtype_stop (wpAny_pure (hQ g tk fun c o hc q => ?_)))
    simp only [List.mem_cons, List.not_mem_nil, or_false, not_or] at hc
    exact k c o hc.1 hc.2.2.1 hc.2.2.2 q
structure ZG (xs ys : Array Value) (lo : Addr) (h : Heap) (as : List Addr) : Prop where
  rise : as.Pairwise (· < ·)
  above : ∀ a ∈ as, lo < a
  pairs : ∀ (j : Nat) (a : Addr), as[j]? = some a → ∃ x y, xs[j]? = some x ∧ ys[j]? = some y ∧ IsPair h a x y
theorem ZG.there {lo : Addr} {h : Heap} {as : List Addr} (g : ZG xs ys lo h as) {a : Addr} (ha : a ∈ as) : a < h.objs.size := by
  obtain ⟨j, hj⟩ := List.mem_iff_getElem?.mp ha
  obtain ⟨_, _, _, _, e⟩ := g.pairs j a hj
  exact Heap.lt_size e
variable {R : Result → Shared → Prop}
theorem zl_loop {L : Addr} (hA : A.handled = none) (S : ZipSep2 z TI TO i1 i2 [i1, l1] [i2, l2]) (e1 : l1 ≠ i1) (e2 : l2 ≠ i2) (hL : ∀ b ∈ [z, TI, TO, i1, i2, l1, l2], b < L) (hn : min xs.size ys.size ≤ sizeLine) (res : Value) {h₁ : Heap}
    (hR : ∀ h' tk acc c as, (∀ b o, b ≠ L → b ∉ [z, TO, i1, i2] → h₁.get? b = some o → h'.get? b = some o) → h'.get? L = some { cls := .type "list", dict := none, data := .seq acc c, slots := #[] } → as.length = min xs.size ys.size → ZG xs ys L h' as →
      acc.toList = as.map Value.ref → R (.ok (.ret res)) { s with heap := h', toks := tk }) :
    ∀ (k i : Nat) (h : Heap) (tk c : Nat) (acc : Array Value) (as : List Addr), min xs.size ys.size - i = k → i ≤ min xs.size ys.size → ZAt z TI TO i1 i2 l1 l2 b1 b2 i h → IsB b1 h l1 xs → IsB b2 h l2 ys → (∀ b o, b ≠ L → b ∉ [z, TO, i1, i2] → h₁.get? b = some o → h.get? b = some o) →
      h.get? L = some { cls := .type "list", dict := none, data := .seq acc c, slots := #[] } → acc.toList = as.map Value.ref → as.length = i → ZG xs ys L h as →
      codeAny (model prog w) A (.builtin "list.extend.loop" ⟨[.ref L, .ref z, res], []⟩) R { s with heap := h, toks := tk } := by
  have offL : L ∉ [z, TO, i1, i2] := fun hm => by
    have : L ∈ [z, TI, TO, i1, i2, l1, l2] := by
      simp only [List.mem_cons, List.not_mem_nil, or_false] at hm ⊢
      rcases hm with q | q | q | q <;> simp [q]
    exact Nat.lt_irrefl _ (hL _ this)
  have up2 : ∀ b, L < b → b ∉ [z, TO, i1, i2] := fun b hb hm => by
    have : b ∈ [z, TI, TO, i1, i2, l1, l2] := by
      simp only [List.mem_cons, List.not_mem_nil, or_false] at hm ⊢
      rcases hm with q | q | q | q <;> simp [q]
    exact Nat.lt_irrefl _ (Nat.lt_trans hb (hL _ this))
  have offl : ∀ b, b = l1 ∨ b = l2 → b ≠ L := fun b hb q => Nat.lt_irrefl L (q ▸ hL b (by rcases hb with q | q <;> simp [q]))
  intro k
  induction k with
  | zero =>
    intro i h tk c acc as hk hi hst g1 g2 hkeep hLl hacc hal hG
    have hin : i = min xs.size ys.size := by omega
    refine codeAny_builtin PySem.F.entry_extend_loop ?_
    rw [Around.under_plainId PySem.F.plain_extend_loop _]
    show wpAny _ A.in1 (pyNext (.ref z) >>= _) _ _ _
    rw [hin] at hst
    refine wpAny_bind (pstopZ (t := { s with heap := h, toks := tk }) (A := A.in1) hA S e1 e2 hst g1 g2 fun g tk' kp => ?_)
    refine wpAny_pure (hR g tk' acc c as (fun b o h1 h2 e => kp b o h2 (hkeep b o h1 h2 e)) (kp L _ offL hLl) (by omega) ⟨hG.rise, hG.above, fun j a hj => ?_⟩ hacc)
    obtain ⟨x, y, q1, q2, q3⟩ := hG.pairs j a hj
    exact ⟨x, y, q1, q2, kp a _ (up2 a (hG.above a (List.mem_of_getElem? hj))) q3⟩
  | succ k ih =>
    intro i h tk c acc as hk hi hst g1 g2 hkeep hLl hacc hal hG
    have hlt : i < min xs.size ys.size := by omega
    have hsz : acc.size = i := by rw [← Array.length_toList, hacc, List.length_map, hal]
    refine codeAny_builtin PySem.F.entry_extend_loop ?_
    rw [Around.under_plainId PySem.F.plain_extend_loop _]
    show wpAny _ A.in1 (pyNext (.ref z) >>= _) _ _ _
    refine wpAny_bind (pnextZ (t := { s with heap := h, toks := tk }) (A := A.in1) hA S e1 e2 hst g1 g2 hlt fun T x y g tk' hT hTl px py pT hst' kp => ?_)
    dsimp only at hT kp
    have hLs : L < h.objs.size := Heap.lt_size hLl
    have hLT : L < T := Nat.lt_of_lt_of_le hLs hT
    have hL' := kp L _ offL hLl
    have up : ∀ b o, b ≠ L → g.get? b = some o → (g.update L (Obj.mapSeq (·.push (Value.ref T)))).get? b = some o := fun b o hb e => (Heap.get?_update_other _ _ (Ne.symm hb)).trans e
    have znL : ∀ b ∈ [z, TI, TO, i1, i2], b ≠ L := fun b hb q => Nat.lt_irrefl L (q ▸ hL b (by
      simp only [List.mem_cons, List.not_mem_nil, or_false] at hb ⊢
      rcases hb with q | q | q | q | q <;> simp [q]))
    have l1o : l1 ∉ [z, TO, i1, i2] := fun hm => by
      have := S.zf1; have := S.Tf1; have := S.sep2_1
      simp only [List.mem_cons, List.not_mem_nil, or_false] at hm
      rcases hm with q | q | q | q
      · exact S.zf1 (by simp [q])
      · exact S.Tf1 (by simp [q])
      · exact e1 q
      · exact S.sep2_1 (by simp [q])
    have l2o : l2 ∉ [z, TO, i1, i2] := fun hm => by
      simp only [List.mem_cons, List.not_mem_nil, or_false] at hm
      rcases hm with q | q | q | q
      · exact S.zf2 (by simp [q])
      · exact S.Tf2 (by simp [q])
      · exact S.sep1_2 (by simp [q])
      · exact e2 q
    show wpAny _ A.in1 (updateSeq L (·.push (Value.ref T)) >>= _) _ _ _
    refine wpAny_bind ?_
    refine wpAny_updateSeq hL' rfl (wpAny_pure ⟨plainId_quiet PySem.F.plain_extend_loop _, ih (i + 1) _ tk' _ (acc.push (Value.ref T)) (as ++ [T]) (by omega) hlt (hst'.frame fun b hb o e => up b o (znL b hb) e)
      (gb_at g1 fun o e => up _ o (offl _ (.inl rfl)) (kp _ o l1o e)) (gb_at g2 fun o e => up _ o (offl _ (.inr rfl)) (kp _ o l2o e))
      (fun b o h1 h2 e => up b o h1 (kp b o h2 (hkeep b o h1 h2 e))) (Heap.get?_update_self _ hL' rfl) (by rw [Array.toList_push, hacc, List.map_append]; rfl) (by rw [List.length_append, hal]; rfl) ⟨?_, ?_, ?_⟩⟩) (by rw [hsz]; omega) (by show (acc.push (Value.ref T)).size ≤ sizeLine + 1; rw [Array.size_push, hsz]; omega)
    · refine List.pairwise_append.mpr ⟨hG.rise, List.pairwise_singleton _ _, fun a ha b hb => ?_⟩
      rw [List.mem_singleton.mp hb]
      exact Nat.lt_of_lt_of_le (hG.there ha) hT
    · intro a ha
      rcases List.mem_append.mp ha with ha | ha
      · exact hG.above a ha
      · rw [List.mem_singleton.mp ha]; exact hLT
    · intro j b hj
      rcases Nat.lt_trichotomy j as.length with q | q | q
      · rw [List.getElem?_append_left q] at hj
        obtain ⟨x', y', r1, r2, r3⟩ := hG.pairs j b hj
        have hb := hG.above b (List.mem_of_getElem? hj)
        exact ⟨x', y', r1, r2, up b _ (Nat.ne_of_gt hb) (kp b _ (up2 b hb) r3)⟩
      · subst q
        have hb : T = b := by simpa using hj
        subst hb
        exact ⟨x, y, by rw [hal]; exact px, by rw [hal]; exact py, up _ _ (Nat.ne_of_gt hLT) pT⟩
      · have hnone : (as ++ [T])[j]? = none := List.getElem?_eq_none (by rw [List.length_append, List.length_singleton]; omega)
        rw [hnone] at hj; cases hj
theorem zl_nolen : typeLookup (.type "zip") "__len__" = pure none := by rw [typeLookup_type, builtinLookup_eq_fast]; kernel_rfl
theorem zl_nohint : typeLookup (.type "zip") "__length_hint__" = pure none := by rw [typeLookup_type, builtinLookup_eq_fast]; kernel_rfl
theorem zl_hint (hT : s.TypeIs (.ref z) "zip") {Q : Bool → Shared → Prop} (h : Q true s) : wpAny (model prog w) A (Builtin.List.listLengthHint (.ref z)) Q E s := by
  unfold Builtin.List.listLengthHint
  refine wpAny_bind (wpAny_specialOf hT zl_nolen ?_)
  first
    | show wpAny _ _ (specialOf (Value.ref z) (Str.ofString "__length_hint__") >>= _) _ _ _
    | (dsimp only; show wpAny _ _ (specialOf (Value.ref z) (Str.ofString "__length_hint__") >>= _) _ _ _)
    | (refine wpAny_bind (wpAny_pure ?_); show wpAny _ _ (specialOf (Value.ref z) (Str.ofString "__length_hint__") >>= _) _ _ _)
  refine wpAny_bind (wpAny_specialOf hT zl_nohint ?_)
  exact wpAny_pure h
variable {xs ys : Array Value}
abbrev ZHere (h : Heap) (z TI TO i1 i2 l1 l2 : Addr) (b1 b2 : Bool) (xs ys : Array Value) : Prop := ZAt z TI TO i1 i2 l1 l2 b1 b2 0 h ∧ IsB b1 h l1 xs ∧ IsB b2 h l2 ys ∧ IsZip h z TI TO .none
theorem ZHere.at {h h' : Heap} (x : ZHere h z TI TO i1 i2 l1 l2 b1 b2 xs ys) (k : ∀ b ∈ [z, TI, TO, i1, i2, l1, l2], ∀ o, h.get? b = some o → h'.get? b = some o) : ZHere h' z TI TO i1 i2 l1 l2 b1 b2 xs ys :=
  ⟨x.1.frame fun b hb o e => k b (by
    simp only [List.mem_cons, List.not_mem_nil, or_false] at hb ⊢
    rcases hb with q | q | q | q | q <;> simp [q]) o e, gb_at x.2.1 fun o e => k _ (by simp) o e, gb_at x.2.2.1 fun o e => k _ (by simp) o e, k _ (by simp) _ x.2.2.2⟩
theorem zl_extend {R : Result → Shared → Prop} {L : Addr} (hA : A.handled = none) (S : ZipSep2 z TI TO i1 i2 [i1, l1] [i2, l2]) (e1 : l1 ≠ i1) (e2 : l2 ≠ i2) (hL : ∀ b ∈ [z, TI, TO, i1, i2, l1, l2], b < L) (hn : min xs.size ys.size ≤ sizeLine) (hz : ZHere s.heap z TI TO i1 i2 l1 l2 b1 b2 xs ys) (res : Value) (c₀ : Nat) (hS : s.heap.get? L = some { cls := .type "list", data := .seq #[] c₀ })
    (hR : ∀ h' tk acc c as, (∀ b o, b ≠ L → b ∉ [z, TO, i1, i2] → s.heap.get? b = some o → h'.get? b = some o) → h'.get? L = some { cls := .type "list", dict := none, data := .seq acc c, slots := #[] } → as.length = min xs.size ys.size → ZG xs ys L h' as →
      acc.toList = as.map Value.ref → R (.ok (.ret res)) { s with heap := h', toks := tk }) :
    wpAny (model prog w) A.in1 (Builtin.List.listExtendWith (.ref L) (.ref z) res)
      (fun fin s' => match fin with | .done f => R (.ok f) s' | .again c' => c'.quiet = true ∧ codeAny (model prog w) A c' R s') (fun e s' => R (.error e) s') s := by
  have hLz : L ≠ z := fun q => Nat.lt_irrefl L (by have := hL z (by simp); rw [← q] at this; exact this)
  have key : ∀ (h : Heap) (c₁ tk : Nat), (∀ b o, b ≠ L → s.heap.get? b = some o → h.get? b = some o) →
      h.get? L = some { cls := .type "list", data := .seq #[] c₁ } → codeAny (model prog w) A (.builtin "list.extend.loop" ⟨[.ref L, .ref z, res], []⟩) R { s with heap := h, toks := tk } := by
    intro h c₁ tk hk hS₁
    have hz' := hz.at fun b hb o e => hk b o (Nat.ne_of_lt (hL b hb)) e
    exact zl_loop (s := s) (h₁ := s.heap) hA S e1 e2 hL hn res hR _ 0 h tk c₁ #[] [] (Nat.sub_zero _) (Nat.zero_le _) hz'.1 hz'.2.1 hz'.2.2.1 (fun b o hb _ e => hk b o hb e) hS₁ rfl rfl
      ⟨List.Pairwise.nil, (fun _ ha => nomatch ha), (fun j a hj => by simp at hj)⟩
  have ty : s.TypeIs (.ref z) "zip" := ⟨_, hz.2.2.2, rfl⟩
  unfold Builtin.List.listExtendWith
  refine wpAny_bind (wpAny_typeOf (T := "zip") ty ?_)
  have h1 : Builtin.List.listSameRef (.ref L) (.ref z) = false := by simp [Builtin.List.listSameRef, hLz]
  have h2 : (Value.type "zip" == Value.type "list") = false := by decide
  have h3 : (Value.type "zip" == Value.type "tuple") = false := by decide
  simp only [h1, h2, h3, Bool.or_false, Bool.false_eq_true, if_false]
  refine wpAny_bind (wpAny_pyIter_zip hz.2.2.2 ?_)
  refine wpAny_bind (wpAny_holding (zl_hint ty ?_))
  refine wpAny_ite_split (fun _ => ?_) (fun _ => wpAny_pure ⟨plainId_quiet PySem.F.plain_extend_loop _, key _ c₀ _ (fun b o _ e => e) hS⟩)
  refine wpAny_bind (wpAny_rule ?_)
  refine wpAny_bind ?_
  show wpAny _ _ (updateSeq L (·.push .none) >>= fun _ => updateSeq L (·.pop)) _ _ _
  refine wpAny_bind (wpAny_updateSeq hS rfl ?_)
  have hS₂ := Heap.get?_update_self (Obj.mapSeq (·.push Value.none)) hS rfl
  refine wpAny_updateSeq (hz := by seq_fits) hS₂ rfl ?_
  have hS₃ := Heap.get?_update_self (Obj.mapSeq (·.pop)) hS₂ rfl
  refine wpAny_pure ⟨plainId_quiet PySem.F.plain_extend_loop _, key _ _ _ (fun b o hb e => ?_) hS₃⟩
  exact (Heap.get?_update_other _ _ (Ne.symm hb)).trans ((Heap.get?_update_other _ _ (Ne.symm hb)).trans e)
theorem zl_init {R : Result → Shared → Prop} {L : Addr} (hA : A.handled = none) (S : ZipSep2 z TI TO i1 i2 [i1, l1] [i2, l2]) (e1 : l1 ≠ i1) (e2 : l2 ≠ i2) (hL : ∀ b ∈ [z, TI, TO, i1, i2, l1, l2], b < L) (hn : min xs.size ys.size ≤ sizeLine) (hz : ZHere s.heap z TI TO i1 i2 l1 l2 b1 b2 xs ys) (hS : s.heap.get? L = some { cls := .type "list", data := .seq #[] })
    (hR : ∀ h' tk acc c as, (∀ b o, b ≠ L → b ∉ [z, TO, i1, i2] → s.heap.get? b = some o → h'.get? b = some o) → h'.get? L = some { cls := .type "list", dict := none, data := .seq acc c, slots := #[] } → as.length = min xs.size ys.size → ZG xs ys L h' as →
      acc.toList = as.map Value.ref → R (.ok (.ret .none)) { s with heap := h', toks := tk }) :
    wpAny (model prog w) A.in1 (Builtin.«list.__init__» ⟨[.ref L, .ref z], []⟩)
      (fun fin s' => match fin with | .done f => R (.ok f) s' | .again c' => c'.quiet = true ∧ codeAny (model prog w) A c' R s') (fun e s' => R (.error e) s') s := by
  show wpAny _ _ (do let old ← Builtin.List.listItems (.ref L); Builtin.List.listUpdate (.ref L) (fun _ => #[]); letGo old.toList.reverse; Builtin.List.listExtendWith (.ref L) (.ref z) .none) _ _ s
  refine wpAny_bind ?_
  unfold Builtin.List.listItems
  refine wpAny_bind (wpAny_seqItems hS rfl (wpAny_pure ?_))
  show wpAny _ _ (updateSeq L (fun _ => #[]) >>= fun _ => letGo (#[] : Array Value).toList.reverse >>= fun _ => Builtin.List.listExtendWith (.ref L) (.ref z) .none) _ _ s
  refine wpAny_bind (wpAny_updateSeq hS rfl ?_)
  have hS₂ := Heap.get?_update_self (Obj.mapSeq (fun _ => (#[] : Array Value))) hS rfl
  have oth : ∀ b o, b ≠ L → s.heap.get? b = some o → (s.heap.update L (Obj.mapSeq (fun _ => (#[] : Array Value)))).get? b = some o :=
    fun b o hb e => (Heap.get?_update_other _ _ (Ne.symm hb)).trans e
  refine wpAny_bind (wpAny_letGo ?_)
  refine zl_extend hA S e1 e2 hL hn (hz.at fun b hb o e => oth b o (Nat.ne_of_lt (hL b hb)) e) .none _ hS₂ (fun h' tk acc c as hk hS' hl hG hacc => ?_)
  exact hR h' tk acc c as (fun b o hb hm e => hk b o hb hm (oth b o hb e)) hS' hl hG hacc
theorem zl_call {Q : Value → Shared → Prop} (hA : A.handled = none) (S : ZipSep2 z TI TO i1 i2 [i1, l1] [i2, l2]) (e1 : l1 ≠ i1) (e2 : l2 ≠ i2) (hL : ∀ b ∈ [z, TI, TO, i1, i2, l1, l2], b < s.heap.objs.size) (hn : min xs.size ys.size ≤ sizeLine) (hz : ZHere s.heap z TI TO i1 i2 l1 l2 b1 b2 xs ys)
    (hQ : ∀ h' tk acc c as, (∀ b o, b ∉ [z, TO, i1, i2] → s.heap.get? b = some o → h'.get? b = some o) → h'.get? s.heap.objs.size = some { cls := .type "list", dict := none, data := .seq acc c, slots := #[] } → as.length = min xs.size ys.size → ZG xs ys s.heap.objs.size h' as →
      acc.toList = as.map Value.ref → Q (.ref s.heap.objs.size) { s with heap := h', toks := tk }) :
    wpAny (model prog w) A (call (.type "list") [.ref z]) Q E s := by
  refine callType_codes (Q₁ := fun obj s₁ => obj = .ref s.heap.objs.size ∧ s₁ = { s with heap := s.heap.push { cls := .type "list", data := .seq #[] } }) PySem.F.called_list (PySem.F.typeCall_list_1 _) PySem.F.entry_list_init
    (code_list_new _ ⟨rfl, rfl⟩) fun obj s₁ h₁ => ?_
  obtain ⟨rfl, rfl⟩ := h₁
  have hS : (s.heap.push { cls := .type "list", data := .seq #[] }).get? s.heap.objs.size = some { cls := .type "list", data := .seq #[] } := Heap.get?_push_size _ rfl
  refine ⟨⟨_, hS, rfl⟩, PySem.F.args_list_init_2 _ _, zl_init (A := A.in1) hA S e1 e2 hL hn (hz.at fun b _ o e => Heap.get?_push_of_some _ e) hS (fun h' tk acc c as hk hS' hl hG hacc => ?_)⟩
  exact ⟨rfl, hQ h' tk acc c as (fun b o hm e => hk b o (Nat.ne_of_lt (Heap.lt_size e)) hm (Heap.get?_push_of_some _ e)) hS' hl hG hacc⟩
end
end DL

set_option Elab.async false
set_option linter.all false
set_option maxRecDepth 100000
set_option maxHeartbeats 1000000
set_option autoImplicit false
/-! DL32: list(zip(xs, ys)) by values and by data. -/
namespace DL
open PySem PySem.Spec PyProof.Rows L2 LB
def layP (H : Hp) : List (Addr × HO) → Hp
  | [] => H
  | p :: ps => layP (upd H p.1 p.2) ps
theorem layP_off : ∀ {ps : List (Addr × HO)} {H : Hp} {b : Addr}, b ∉ ps.map (·.1) → layP H ps b = H b
  | [], _, _, _ => rfl
  | p :: ps, H, b, h => by
    rw [List.map_cons, List.mem_cons, not_or] at h
    show layP (upd H p.1 p.2) ps b = _
    rw [layP_off h.2, upd_ne h.1]
theorem layP_at : ∀ {ps : List (Addr × HO)} {H : Hp} {p : Addr × HO}, (ps.map (·.1)).Nodup → p ∈ ps → layP H ps p.1 = some p.2
  | [], _, _, _, h => by cases h
  | q :: ps, H, p, nd, h => by
    rw [List.map_cons, List.nodup_cons] at nd
    show layP (upd H q.1 q.2) ps p.1 = _
    rcases List.mem_cons.mp h with e | e
    · subst e
      rw [layP_off nd.1, upd_same]
    · exact layP_at nd.2 e
theorem layP_old {ps : List (Addr × HO)} {H : Hp} {b : Addr} {u : HO} (hn : ∀ p ∈ ps, H p.1 = none) (h : H b = some u) : layP H ps b = some u := by
  rw [layP_off fun hm => ?_, h]
  obtain ⟨p, hp, e⟩ := List.mem_map.mp hm
  have := hn p hp
  rw [e, h] at this
  cases this
theorem layP_inv {ps : List (Addr × HO)} {H : Hp} {b : Addr} {u : HO} (nd : (ps.map (·.1)).Nodup) (h : layP H ps b = some u) : (b, u) ∈ ps ∨ H b = some u := by
  by_cases hm : b ∈ ps.map (·.1)
  · obtain ⟨p, hp, e⟩ := List.mem_map.mp hm
    have h2 := layP_at (H := H) nd hp
    rw [e, h] at h2
    cases h2
    exact .inl (by rw [← e]; exact hp)
  · rw [layP_off hm] at h
    exact .inr h
theorem layP_append (a b : List (Addr × HO)) (H : Hp) : layP H (a ++ b) = layP (layP H a) b := by
  induction a generalizing H with
  | nil => rfl
  | cons p a ih => exact ih _
theorem grow_lay : ∀ {ps : List (Addr × HO)} {F H : Hp}, (∀ p ∈ ps, H p.1 = none) → (ps.map (·.1)).Nodup → Grow F H (layP F ps) (layP H ps)
  | [], F, H, _, _ => .no F H
  | p :: ps, F, H, hn, nd => by
    rw [List.map_cons, List.nodup_cons] at nd
    exact .one p.1 p.2 (hn p List.mem_cons_self) (grow_lay (fun q hq => by
      rw [upd_ne fun e => nd.1 (by rw [← e]; exact List.mem_map.mpr ⟨q, hq, rfl⟩)]
      exact hn q (List.mem_cons_of_mem _ hq)) nd.2)
section
variable {X : Cx} {pins : List (Addr × Obj)} {σ : L2.St} {H : Hp} {s : Shared} {h' : Heap} {t' : Nat}
theorem laidMany {ps : List (Addr × HO)} (I : Inv X pins σ H s) (k : ∀ b o, s.heap.get? b = some o → h'.get? b = some o) (hge : ∀ p ∈ ps, s.heap.objs.size ≤ p.1) (nd : (ps.map (·.1)).Nodup) (ok : ∀ p ∈ ps, ObjOk X.prog X.w (layP H ps) h' p.1 p.2) :
    Inv X pins σ (layP H ps) { s with heap := h', toks := t' } := by
  have hn : ∀ p ∈ ps, H p.1 = none := fun p hp => I.hok.fresh (hge p hp)
  have old : ∀ {b u}, H b = some u → layP H ps b = H b := fun {b u} q => by rw [layP_old hn q, q]
  refine I.step (g' := s.gens) (d' := s.drawn) (ch := []) (fun b hb => nomatch hb) (fun b o _ _ hc q _ => k b o q) (fun b o _ _ hc q _ => ⟨o.slots, k b o q⟩)
    (fun b o _ q n => ?_) (fun b o hc q => ⟨o, k b o q⟩) (fun b xs q => (old q).trans q) (fun b o u q => (old q).trans q) (fun b ps q => ⟨#[], by rw [old q, q]; simp⟩) (fun m hm => ?_) (fun b u q => ?_) I.bare
  · have lt := Heap.lt_size q
    rw [layP_off fun hm => ?_]; exact n
    obtain ⟨p, hp, e⟩ := List.mem_map.mp hm
    exact Nat.lt_irrefl _ (Nat.lt_of_lt_of_le (e ▸ lt) (hge p hp))
  · obtain ⟨o, es, ep, ho, r⟩ := hm
    exact ⟨o, es, ep, k _ o ho, r⟩
  · rcases layP_inv nd q with z | z
    · exact ok _ z
    · exact (I.hok b u z).stay (fun c v hc r => k c v r) (fun c r => (old r).trans r) fun c xs r => (old r).trans r
end
theorem mk_ps : ∀ {as : List Addr} {P : Nat → Addr → HO → Prop}, (∀ j a, as[j]? = some a → ∃ o, P j a o) → ∃ ps : List (Addr × HO), ps.map (·.1) = as ∧ ∀ (j : Nat) (p : Addr × HO), ps[j]? = some p → P j p.1 p.2
  | [], P, _ => ⟨[], rfl, fun j p h => by simp at h⟩
  | a :: as, P, h => by
    obtain ⟨o, ho⟩ := h 0 a rfl
    obtain ⟨ps, e, hp⟩ := mk_ps (as := as) (P := fun j => P (j + 1)) fun j b hb => h (j + 1) b (by simpa using hb)
    refine ⟨(a, o) :: ps, by rw [List.map_cons, e], fun j p hj => ?_⟩
    cases j with
    | zero => cases hj; exact ho
    | succ j => exact hp j p (by simpa using hj)
def tListZip (K : PySem.W.Frag) (ta : TA) : TE := fun σ H Q => ta σ H fun vs H1 => ∃ (b1 b2 : Bool) (a c : Addr) (xs ys : List V), vs = [.ref a, .ref c] ∧ SqB b1 K H1 a xs ∧ SqB b2 K H1 c ys ∧
  ∀ (ps : List (Addr × HO)) (L : Addr), (∀ p ∈ ps, H1 p.1 = none) → (ps.map (·.1)).Nodup → ps.length = min xs.length ys.length → (∀ (j : Nat) (p : Addr × HO), ps[j]? = some p → ∃ x y ob, xs[j]? = some x ∧ ys[j]? = some y ∧ ob.dict = none ∧ p.2 = .frz ob (.tup [x, y])) → layP H1 ps L = none →
    Q (.ref L) (upd (layP H1 ps) L (.lst (ps.map fun p => V.ref p.1)))
theorem pe_listZip {X : Cx} {e e2 : Expr} {ta : TA} {p p2 pos pos2 : Pos} (hc : X.calm = true) (hg0 : Gl X "list") (hm0 : X.mg "list" = none) (hg : Gl X "zip") (hm : X.mg "zip" = none) (ha : PA X [e, e2] ta)
    (hs : starEach [e, e2] X.env = (false, eval e X.env) :: starEach [e2] X.env := by rfl) (hpl : (backTo pos2 (starEach [e2] X.env)).any (·.1) = false := by rfl)
    (hs0 : starEach [.Call (.Name "zip" p2) [e, e2] [] pos2] X.env = (false, eval (.Call (.Name "zip" p2) [e, e2] [] pos2) X.env) :: starEach [] X.env := by rfl) :
    PE X (.Call (.Name "list" p) [.Call (.Name "zip" p2) [e, e2] [] pos2] [] pos) (tListZip X.K ta) := by
  refine ⟨fun pins s σ H Q I h => ?_⟩
  refine Call_ (ld_blt I hg0 hm0 PyProof.Rows.boot_list (PyProof.Rows.callWith_type1 (PyProof.Rows.args_cons ?_ hs0)))
  refine Call_ (ld_blt I hg hm PyProof.Rows.boot_zip (PyProof.Rows.callWith_type1 (thn (ha.run pos2 pins s σ H _ I h) fun us s1 ⟨vs, H1, I1, r1, q1⟩ => ?_) hs hpl))
  obtain ⟨b1, b2, a, c, xs, ys, ex, hqx, hqy, q⟩ := q1
  subst ex
  cases r1 with
  | cons r rr =>
    cases rr with
    | cons r' rr =>
      cases rr
      cases r
      cases r'
      obtain ⟨its, rv, g1, lx, la⟩ := DL.Inv.sqB I1 hqx
      obtain ⟨its2, rv2, g2, _, lc⟩ := DL.Inv.sqB I1 hqy
      refine zip_begins2 (beginsB b1 a its.toArray) (beginsB b2 c its2.toArray) g1 g2 fun h' hz hTI hTO h1 h2 hsz hk => PyProof.Rows.args_nil ?_
      have S : ZipSep2 (s1.heap.objs.size + 4) (s1.heap.objs.size + 2) (s1.heap.objs.size + 3) s1.heap.objs.size (s1.heap.objs.size + 1) [s1.heap.objs.size, a] [s1.heap.objs.size + 1, c] :=
        zip_sep2 (N := s1.heap.objs.size) (fp1 := [a]) (fp2 := [c]) (fun d hd => by rw [List.mem_singleton.mp hd]; exact la) (fun d hd => by rw [List.mem_singleton.mp hd]; exact lc)
      have ml : min its.toArray.size its2.toArray.size ≤ sizeLine := by
        rw [List.size_toArray, List.size_toArray]
        exact Nat.le_trans (Nat.min_le_left _ _) (by rw [← Paired.length rv]; exact lx)
      refine zl_call (s := { s1 with heap := h' }) (I1.ok.hd hc) S (Nat.ne_of_lt la) (Nat.ne_of_lt (Nat.lt_succ_of_lt lc)) (fun b hb => ?_) ml
        ⟨⟨hTI, itB_new h1, itB_new h2, ⟨_, _, hTO⟩, .none, false, hz, .inl rfl⟩, gb_at g1 fun o q => hk _ o q, gb_at g2 fun o q => hk _ o q, hz⟩ fun h3 tk acc cc as k hL hal hG hacc => ?_
      · show b < h'.objs.size
        rw [hsz]
        simp only [List.mem_cons, List.not_mem_nil, or_false] at hb
        have la' : a < s1.heap.objs.size + 5 := Nat.lt_of_lt_of_le la (Nat.le_add_right _ _)
        have lc' : c < s1.heap.objs.size + 5 := Nat.lt_of_lt_of_le lc (Nat.le_add_right _ _)
        rcases hb with e | e | e | e | e | e | e <;> rw [e] <;> first | exact la' | exact lc' | exact Nat.add_lt_add_left (by decide) _ | exact Nat.lt_add_of_pos_right (by decide)
      · have kp : ∀ b o, s1.heap.get? b = some o → h3.get? b = some o := fun b o q => k b o (fun hm => by
          have lt : b < s1.heap.objs.size := Heap.lt_size q
          simp only [List.mem_cons, List.not_mem_nil, or_false] at hm
          rcases hm with e | e | e | e
          · exact absurd (e ▸ lt) (Nat.not_lt.mpr (Nat.le_add_right _ _))
          · exact absurd (e ▸ lt) (Nat.not_lt.mpr (Nat.le_add_right _ _))
          · exact absurd (e ▸ lt) (Nat.lt_irrefl _)
          · exact absurd (e ▸ lt) (Nat.not_lt.mpr (Nat.le_add_right _ _))) (hk b o q)
        dsimp only at hL hG
        have hle : s1.heap.objs.size ≤ h'.objs.size := by rw [hsz]; exact Nat.le_add_right _ _
        obtain ⟨ps, eps, hps⟩ := mk_ps (as := as) (P := fun j a o => ∃ x y ob, xs[j]? = some x ∧ ys[j]? = some y ∧ ob.dict = none ∧ o = .frz ob (.tup [x, y]) ∧ ∀ H2 : Hp, ObjOk X.prog X.w H2 h3 a o) (fun j d hd => by
          obtain ⟨u, v, pu, pv, pp⟩ := hG.pairs j d hd
          have pu' : its[j]? = some u := by simpa using pu
          have pv' : its2[j]? = some v := by simpa using pv
          have jx : j < xs.length := by rw [Paired.length rv]; exact (List.getElem?_eq_some_iff.mp pu').1
          have jy : j < ys.length := by rw [Paired.length rv2]; exact (List.getElem?_eq_some_iff.mp pv').1
          obtain ⟨u2, hu2, ru⟩ := rv.get (List.getElem?_eq_getElem jx)
          obtain ⟨v2, hv2, rw2⟩ := rv2.get (List.getElem?_eq_getElem jy)
          rw [pu'] at hu2
          rw [pv'] at hv2
          cases hu2
          cases hv2
          exact ⟨_, xs[j], ys[j], _, List.getElem?_eq_getElem jx, List.getElem?_eq_getElem jy, rfl, rfl, fun H2 => ⟨pp, by show 2 ≤ sizeLine; decide, [u, v], .cons ru (.cons rw2 .nil), ⟨_, pp, rfl, _, rfl⟩⟩⟩)
        have nd : (ps.map (·.1)).Nodup := by
          rw [eps]
          exact List.Pairwise.imp (fun {a b} (h : a < b) (e : a = b) => Nat.lt_irrefl b (by rw [e] at h; exact h)) hG.rise
        have hlo : ∀ p ∈ ps, h'.objs.size < p.1 := fun p hp => hG.above _ (by rw [← eps]; exact List.mem_map.mpr ⟨p, hp, rfl⟩)
        have hfr : ∀ p ∈ ps, H1 p.1 = none := fun p hp => I1.hok.fresh (Nat.le_trans hle (Nat.le_of_lt (hlo p hp)))
        have hLn : h'.objs.size ∉ ps.map (·.1) := fun hm => by
          obtain ⟨p, hp, e⟩ := List.mem_map.mp hm
          have := hlo p hp
          rw [e] at this
          exact Nat.lt_irrefl _ this
        have hLf : layP H1 ps h'.objs.size = none := by rw [layP_off hLn]; exact I1.hok.fresh hle
        have hlen : ps.length = min xs.length ys.length := by
          have h1 := congrArg List.length eps
          rw [List.length_map, hal, List.size_toArray, List.size_toArray] at h1
          rw [h1, Paired.length rv, Paired.length rv2]
        have vv : ∀ (as : List Addr), Vals (as.map V.ref) (as.map Value.ref) := fun as => by
          induction as with
          | nil => exact .nil
          | cons b as ih => exact .cons rfl ih
        have e2 : layP H1 (ps ++ [(h'.objs.size, .lst (ps.map fun p => V.ref p.1))]) = upd (layP H1 ps) h'.objs.size (.lst (ps.map fun p => V.ref p.1)) := by rw [layP_append]; rfl
        have I2 := laidMany (t' := tk) (h' := h3) (ps := ps ++ [(h'.objs.size, .lst (ps.map fun p => V.ref p.1))]) I1 kp (fun p hp => by
            rcases List.mem_append.mp hp with q | q
            · exact Nat.le_trans hle (Nat.le_of_lt (hlo p q))
            · rw [List.mem_singleton.mp q]; exact hle) (by
            rw [List.map_append]
            refine List.nodup_append.mpr ⟨nd, List.nodup_cons.mpr ⟨List.not_mem_nil, List.nodup_nil⟩, fun x hx y hy e => hLn ?_⟩
            rw [List.mem_singleton.mp hy] at e
            have e' : x = h'.objs.size := e
            rw [← e']
            exact hx) (fun p hp => by
            rcases List.mem_append.mp hp with q | q
            · obtain ⟨j, hj⟩ := List.mem_iff_getElem?.mp q
              obtain ⟨_, _, _, _, _, _, _, ok⟩ := hps j p hj
              exact ok _
            · rw [List.mem_singleton.mp q]
              refine ⟨by rw [List.length_map, hlen]; exact Nat.le_trans (Nat.min_le_left _ _) lx, as.map Value.ref, cc, ?_, ?_⟩
              · have e3 : (ps.map fun p => V.ref p.1) = as.map V.ref := by rw [← eps, List.map_map]; rfl
                rw [e3]
                exact vv as
              · show h3.get? h'.objs.size = _
                rw [hL, ← hacc])
        rw [e2] at I2
        exact ⟨.ref h'.objs.size, _, I2, rfl, q ps _ hfr nd hlen (fun j p hj => let ⟨x, y, ob, a1, a2, a3, a4, _⟩ := hps j p hj; ⟨x, y, ob, a1, a2, a3, a4⟩) hLf⟩
theorem daL_of {F : Hp} : ∀ {ds : List Pd} {vs : List V}, ds.length = vs.length → (∀ (j : Nat) (d : Pd) (v : V), ds[j]? = some d → vs[j]? = some v → Da F d v) → DaL F ds vs
  | [], [], _, _ => rfl
  | [], _ :: _, h, _ => by cases h
  | _ :: _, [], h, _ => by cases h
  | d :: ds, v :: vs, h, k => ⟨v, vs, rfl, k 0 d v rfl rfl, daL_of (by simpa using h) fun j d' v' a b => k (j + 1) d' v' (by simpa using a) (by simpa using b)⟩
section
variable {g : Gh} {X : Cx} {ρ ρ1 : List Sl} {pos pos2 p p2 : Pos} {e e2 : Expr} {k n : Nat} {r r2 : R} {ds es : List Pd}
/-- list(zip(xs, ys)) -/
theorem df_listZip (hX : XO k X) (ha : DA g X [e, e2] ρ [r, r2] ρ1) (hr : seqD r = some ds) (hr2 : seqD r2 = some es) (hg0 : Gl X "list" := by rfl) (hg : Gl X "zip" := by rfl)
    (hs : starEach [e, e2] X.env = (false, eval e X.env) :: starEach [e2] X.env := by rfl) (hpl : (backTo pos2 (starEach [e2] X.env)).any (·.1) = false := by rfl)
    (hs0 : starEach [.Call (.Name "zip" p2) [e, e2] [] pos2] X.env = (false, eval (.Call (.Name "zip" p2) [e, e2] [] pos2) X.env) :: starEach [] X.env := by rfl) :
    DF g X (.Call (.Name "list" p) [.Call (.Name "zip" p2) [e, e2] [] pos2] [] pos) ρ (.lst (zipD ds es)) ρ1 :=
  pe_mono (pe_listZip hX.calm hg0 hX.bi.list hg hX.bi.zip ha hs hpl hs0) fun σ H Q ⟨F, S, kn⟩ => ⟨F, S, fun vs F1 H1 S1 k1 a => by
    obtain ⟨v, w, rfl, a1, a2⟩ := rs2 a
    obtain ⟨b1, p, xs, rfl, dl, dz, sq⟩ := seqD_at hr a1
    obtain ⟨b2, q, ys, rfl, dl2, dz2, sq2⟩ := seqD_at hr2 a2
    refine ⟨b1, b2, p, q, xs, ys, rfl, sq _ _ S1.st.sub, sq2 _ _ S1.st.sub, fun ps L hn nd hl hp hL => ?_⟩
    obtain ⟨S2, k2⟩ := S1.growth (grow_lay (F := F1) hn nd)
    obtain ⟨S3, fn, no, gn⟩ := S2.newO hL (o := .lst (ps.map fun p => V.ref p.1))
    have lz : (zipD ds es).length = min ds.length es.length := by unfold zipD; rw [List.length_map, List.length_zip]
    refine kn L _ (layP F1 ps) _ S3 (k1.trans k2) fn no gn upd_same ⟨_, rfl, by rw [List.length_map, hl, ← dl.length]; exact Nat.le_trans (Nat.min_le_left _ _) dz, daL_of (by rw [lz, List.length_map, hl, dl.length, dl2.length]) fun j d v hd hv => ?_⟩
    rw [List.getElem?_map] at hv
    obtain ⟨pj, hpj, rfl⟩ := Option.map_eq_some_iff.mp hv
    obtain ⟨x, y, ob, hx, hy, hob, ep⟩ := hp j pj hpj
    obtain ⟨d1, h1, ad⟩ := dl.get hx
    obtain ⟨d2, h2, ae⟩ := dl2.get hy
    have hz1 : (zipD ds es)[j]? = some (.tuple [d1, d2]) := by
      unfold zipD
      rw [List.getElem?_map, show (ds.zip es)[j]? = some (d1, d2) from List.getElem?_zip_eq_some.mpr ⟨h1, h2⟩]
      rfl
    rw [hd] at hz1
    cases hz1
    have hat := layP_at (H := F1) nd (List.mem_of_getElem? hpj)
    rw [ep] at hat
    exact ⟨pj.1, [x, y], rfl, ⟨ob, hat, hob⟩, (by show 2 ≤ sizeLine; decide), x, [y], rfl, ad.mono k2, y, [], rfl, ae.mono k2, rfl⟩⟩
end
end DL

set_option Elab.async false
set_option linter.all false
set_option maxRecDepth 100000
set_option maxHeartbeats 1000000
set_option autoImplicit false
/-! DL33: sorted(xs), xs a list of data in their order. -/
namespace DL
open PySem PySem.Spec PyProof.Rows L2 LB
open PySem.W (AllAlike Sortable dataLe EachIs)
section
variable {X : Cx}
def rSortedA (K : PySem.W.Frag) : List V → Hp → VK → Prop := fun vs H Q => ∃ (a : Addr) (xs : List V) (ds : List Pd), vs = [V.ref a] ∧ SqL K H a xs ∧ DpAll K H xs ds ∧ AllAlike ds ∧ Sortable ds ∧ ds.Pairwise (fun d e => dataLe false (fun d : Pd => d) d e = true) ∧ (∀ d ∈ ds, d.depth ≤ 50) ∧ xs.length ≤ sizeLine ∧ ∀ p, H p = none → Q (.ref p) (upd H p (.lst xs))
theorem each_mk {pins : List (Addr × Obj)} {σ : L2.St} {H : Hp} {s : Shared} (I : Inv X pins σ H s) : ∀ {ds : List Pd} {xs : List V} {us : List Value}, DpAll X.K H xs ds → Vals xs us →
    (ds.zip xs).map (·.1) = ds ∧ EachIs (fun u (b : Pd × V) => RelV b.2 u) us (ds.zip xs) ∧ EachIs (fun u (b : Pd × V) => ∃ as, _root_.PySem.Reads s.heap u b.1 as) us (ds.zip xs)
  | [], _, _, h, r => by
    cases h
    cases r
    exact ⟨rfl, .nil, .nil⟩
  | d :: ds, _, _, h, r => by
    cases h with
    | cons h1 h2 =>
      cases r with
      | cons r1 r2 =>
        obtain ⟨a, b, c⟩ := each_mk I h2 r2
        exact ⟨by rw [List.zip_cons_cons, List.map_cons, a], .cons r1 b, .cons (Dp.reads I d _ _ h1 r1) c⟩
theorem vals_each : ∀ {ds : List Pd} {xs : List V} {us : List Value}, ds.length = xs.length → EachIs (fun u (b : Pd × V) => RelV b.2 u) us (ds.zip xs) → Vals xs us
  | [], [], _, _, h => by cases h; exact .nil
  | d :: ds, x :: xs, _, hl, h => by
    rw [List.zip_cons_cons] at h
    cases h with
    | cons h1 h2 => exact .cons h1 (vals_each (by simpa using hl) h2)
  | [], _ :: _, _, h, _ => by cases h
  | _ :: _, [], _, h, _ => by cases h
theorem dpAll_len {K : PySem.W.Frag} {H : Hp} : ∀ {xs : List V} {ds : List Pd}, DpAll K H xs ds → ds.length = xs.length
  | _, [], h => by cases h; rfl
  | _, d :: ds, h => by
    cases h with
    | cons _ h2 => rw [List.length_cons, List.length_cons, dpAll_len h2]
theorem cr_sortedA (hc : X.calm = true) (hu : X.A.units + 65 < cLine) : CallR X (.builtin "sorted") (rSortedA X.K) := by
  intro pins s σ H vs us Q I r h
  obtain ⟨a, xs, ds, rfl, hq, hd, hal, hso, hpw, hdp, hz, q⟩ := h
  rw [Vals.ref1 r]
  obtain ⟨its, rv, pl, hz2⟩ := I.list hq
  obtain ⟨e1, e2, e3⟩ := each_mk I hd rv
  have hlen := dpAll_len hd
  have hzl : (ds.zip xs).length = xs.length := by rw [List.length_zip, hlen, Nat.min_self]
  refine PySem.W.sorted_data (vs := its) (bs := ds.zip xs) (enc := fun b : Pd × V => b.1) (R := fun u (b : Pd × V) => RelV b.2 u) pl.isList e2 e3 (by rw [e1]; exact hal) (by rw [e1]; exact hso) (by rw [hzl]; exact hz) (fun b hb => ?_) fun out ho eo => ?_
  · have := hdp b.1 (List.of_mem_zip (a := b.1) (b := b.2) hb).1
    omega
  · have hsrt : (ds.zip xs).mergeSort (dataLe false fun b : Pd × V => b.1) = ds.zip xs := by
      refine List.mergeSort_of_pairwise ?_
      have h2 := hpw
      rw [← e1, List.pairwise_map] at h2
      exact h2
    rw [hsrt] at eo
    obtain ⟨c, hc2⟩ := sortedAll_at s.heap its out.toArray
    have hv := vals_each hlen eo
    have hn : H (s.heap.objs.size + 1) = none := I.hok.fresh (Nat.le_succ _)
    exact ⟨.ref (s.heap.objs.size + 1), _, I.laid (a := s.heap.objs.size + 1) (o := .lst xs) (t' := s.toks) (fun b o x => sortedAll_old x) (Nat.le_succ _) ⟨hz, out, c, hv, hc2⟩, rfl, q _ hn⟩
variable {g : Gh} {ρ ρ1 : List Sl} {pos p : Pos} {e : Expr} {k : Nat} {ra : R}
theorem df_sortedA {ds : List Pd} (hX : XO k X) (ha : DA g X [e] ρ [ra] ρ1) (h : lsto ρ1 ra = some ds) (hal : AllAlike ds) (hso : Sortable ds) (hpw : ds.Pairwise (fun d e => dataLe false (fun d : Pd => d) d e = true)) (hdp : ∀ d ∈ ds, d.depth ≤ 50) (hg : Gl X "sorted" := by rfl) (he : starEach [e] X.env = (false, eval e X.env) :: starEach [] X.env := by rfl) (hpl : (backTo pos (starEach [] X.env)).any (·.1) = false := by rfl) :
    DF g X (.Call (.Name "sorted" p) [e] [] pos) ρ (.lst ds) ρ1 :=
  df_callB (cr_sortedA hX.calm hX.hu65) hX.bi.sorted (by decide +kernel) ha (fun F H σ vs Q S r q => by
    obtain ⟨v, ev, a⟩ := rs1 r
    obtain ⟨a1, ws, e1, hq, z, dl⟩ := lsto_at S.st a h
    subst ev e1
    exact ⟨a1, ws, ds, rfl, SqL.of hq, dl.dp S.st.sub, hal, hso, hpw, hdp, z, fun l hl => new_lst S q z dl l hl⟩) hg (he := he) (hpl := hpl)
end
/-- lists of ints in their order -/
theorem ints_le {a b : List Int} (h : ¬ b < a) : dataLe false (fun d : Pd => d) (.list (a.map .int)) (.list (b.map .int)) = true := by
  show (!PySem.W.dataLt (.list (b.map .int)) (.list (a.map .int))) = true
  have e : PySem.W.dataLt (.list (b.map .int)) (.list (a.map .int)) = PySem.W.rowLt (b.map .int) (a.map .int) := by
    unfold PySem.W.dataLt PySem.W.rowLt
    rw [PySem.W.keyToks, PySem.W.keyToks]
  rw [e, PySem.W.dataLt_ints, decide_eq_false h]
  rfl
theorem alike_ints : ∀ a b : List Int, PySem.W.alikeAll (a.map .int) (b.map .int) = true
  | [], _ => by rw [List.map_nil, PySem.W.alikeAll]
  | _ :: _, [] => by rw [List.map_nil, List.map_cons, PySem.W.alikeAll]
  | x :: a, y :: b => by rw [List.map_cons, List.map_cons, PySem.W.alikeAll, alike_ints a b, PySem.W.alike]; rfl
end DL

set_option Elab.async false
set_option linter.all false
set_option maxRecDepth 100000
set_option maxHeartbeats 1000000
set_option autoImplicit false
/-! DL34: calls without arguments, tuple(range(..)), list * int, x is not True. -/
namespace DL
open PySem PySem.Spec PyProof.Rows L2 LB
section
variable {g : Gh} {X : Cx} {ρ ρ1 ρ2 ρ3 : List Sl} {pos p p2 pos2 : Pos} {e e2 e3 a b : Expr} {k j : Nat} {x : Str} {d : Pd} {f : List Pd → Rt → Prop}
theorem de_call0 (D : Dn X.prog X.w X.K X.mg X.base j x (rP f)) (hX : XO k X) (hj : j ≤ k) (hf : f [] (.d d)) (hg : Gl X x := by rfl) (hdb : (x == ("__debug__" : Str)) = false := by decide) : DE g X (.Call (.Name x p) [] [] pos) ρ (.d d) ρ := by
  obtain ⟨fa, fd, ps, F, hm, hk, hb⟩ := D.ex
  refine pe_mono (pe_call0 F (hX.room.mono hj) hg hm hk hb .nil pass0 hdb) fun σ H Q ⟨F0, S, q⟩ => ?_
  refine ⟨F0, ([] : List Pd).map .dat, .d d, ([] : List Pd).map .dat, ⟨[], rfl, rfl, hf⟩, Sat.dats (σ := σ) (ds := []) (vs := []) S.st.sub rfl, fun v F' H' S' xt r => q v F' H' (S.called (fun p z => absurd z no_dats) (fun p => no_dats) xt S'.sub fun p => no_dats) xt.same r⟩
/-! ### tuple(range(a, b, c)) -/
def tTupR (ta : TA) : TE := fun σ H Q => ta σ H fun vs H1 => ∃ (i j c : Int) (n : Nat), vs = [.int i, .int j, .int c] ∧ RgC i j c n ∧ n ≤ 16777216 ∧ ∀ q ob, H1 q = none → ob.dict = none → Q (.ref q) (upd H1 q (.frz ob (.tup ((List.range n).map fun k => V.int (i + (k : Nat) * c)))))
theorem pe_tupR3 {ta : TA} (hc : X.calm = true) (hg0 : Gl X "tuple") (hm0 : X.mg "tuple" = none) (hg : Gl X "range") (hm : X.mg "range" = none) (ha : PA X [e, e2, e3] ta)
    (hs : starEach [e, e2, e3] X.env = (false, eval e X.env) :: starEach [e2, e3] X.env := by rfl) (hpl : (backTo pos2 (starEach [e2, e3] X.env)).any (·.1) = false := by rfl)
    (hs0 : starEach [.Call (.Name "range" p2) [e, e2, e3] [] pos2] X.env = (false, eval (.Call (.Name "range" p2) [e, e2, e3] [] pos2) X.env) :: starEach [] X.env := by rfl) :
    PE X (.Call (.Name "tuple" p) [.Call (.Name "range" p2) [e, e2, e3] [] pos2] [] pos) (tTupR ta) := by
  refine ⟨fun pins s σ H Q I h => ?_⟩
  refine Call_ (ld_blt I hg0 hm0 PyProof.Rows.boot_tuple (PyProof.Rows.callWith_type1 (PyProof.Rows.args_cons ?_ hs0)))
  refine Call_ (ld_blt I hg hm PyProof.Rows.boot_range (PyProof.Rows.callWith_type1 (thn (ha.run pos2 pins s σ H _ I h) fun us s1 ⟨vs, H1, I1, r1, q1⟩ => ?_) hs hpl))
  obtain ⟨i, j, k, n, e, ⟨c0, c1, c2, c3⟩, hn, q⟩ := q1
  subst e
  cases r1 with
  | cons r rr =>
    cases rr with
    | cons r' rr =>
      cases rr with
      | cons r'' rr =>
        cases rr
        obtain ⟨t, rfl⟩ := r
        obtain ⟨t', rfl⟩ := r'
        obtain ⟨t'', rfl⟩ := r''
        refine call_range_3 c0 ?_ (.inl (PyProof.noPylong_small c1))
        refine PyProof.Rows.args_nil ?_
        have I2 : Inv X pins σ H1 { s1 with heap := s1.heap.push { cls := .type "range", data := .fields #[.int i t, .int j t', .int k t''] } } := I1.kept (t' := s1.toks) fun b o e => Heap.get?_push_of_some _ e
        refine L2.call_tuple_range (n := n) (I2.ok.hd hc) (IsRange.new ..) c2 c3 hn fun h' tk acc hk hi => ?_
        have I3 := I2.kept (t' := tk) hk
        have hv : Vals ((List.range n).map fun m => V.int (i + (m : Nat) * k)) acc.toList := by
          have el : acc.toList.length = n := by rw [Array.length_toList]; exact hi.1
          have := vals_of_get acc.toList (fun m => V.int (i + (m : Nat) * k)) fun m u hm => by
            obtain ⟨t, rfl⟩ := hi.2 m u (by rw [← hm, Array.getElem?_toList])
            exact ⟨t, rfl⟩
          rwa [el] at this
        have := laidF (xs := (List.range n).map fun m => V.int (i + (m : Nat) * k)) I3 hv (by rw [List.length_map, List.length_range, sizeLine_eq]; exact hn) q
        rwa [Array.toArray_toList] at this
theorem rngC_da {F : Hp} (i c : Int) (n : Nat) : DaL F (rngC i c n) ((List.range n).map fun m => V.int (i + (m : Nat) * c)) := by
  have := DaL.of_ints (F := F) (ns := (List.range n).map fun m => i + ((m : Nat) : Int) * c)
  rw [List.map_map, List.map_map] at this
  exact this
theorem de_tupR3 {i l c : Int} {n : Nat} (hX : XO k X) (ha : DA g X [e, e2, e3] ρ [.d (.int i), .d (.int l), .d (.int c)] ρ1) (hr : RgC i l c n) (hn : n ≤ 16777216) (hg0 : Gl X "tuple" := by rfl) (hg : Gl X "range" := by rfl)
    (hs : starEach [e, e2, e3] X.env = (false, eval e X.env) :: starEach [e2, e3] X.env := by rfl) (hpl : (backTo pos2 (starEach [e2, e3] X.env)).any (·.1) = false := by rfl)
    (hs0 : starEach [.Call (.Name "range" p2) [e, e2, e3] [] pos2] X.env = (false, eval (.Call (.Name "range" p2) [e, e2, e3] [] pos2) X.env) :: starEach [] X.env := by rfl) :
    DE g X (.Call (.Name "tuple" p) [.Call (.Name "range" p2) [e, e2, e3] [] pos2] [] pos) ρ (.d (.tuple (rngC i c n))) ρ1 :=
  pe_mono (pe_tupR3 hX.calm hg0 hX.bi.tuple hg hX.bi.range ha hs hpl hs0) fun σ H Q ⟨F, S, q⟩ => ⟨F, S, fun vs F1 H1 S1 k1 a => by
    obtain ⟨v, ws, e1, a1, w, us, e2, a2, y, ts, e3, a3, a4⟩ := a
    subst e1 e2 e3
    cases (show v = _ from a1)
    cases (show w = _ from a2)
    cases (show y = _ from a3)
    cases (show ts = _ from a4)
    exact ⟨i, l, c, n, rfl, hr, hn, new_tup S1 (fun v F' H' S' k' r => q v F' H' S' (k1.trans k') r) (by rw [List.length_map, List.length_range, sizeLine_eq]; exact hn) (rngC_da i c n)⟩⟩
def tTupRgF (te : L2.St → Hp → (Int → Int → Hp → Prop) → Prop) : TE := fun σ H Q => te σ H fun a b H1 => RgOk a b ∧ ∀ q ob, H1 q = none → ob.dict = none → Q (.ref q) (upd H1 q (.frz ob (.tup (rgV a b))))
theorem pe_tupRgF {te : L2.St → Hp → (Int → Int → Hp → Prop) → Prop} (hc : X.calm = true) (hg : Gl X "tuple") (hm : X.mg "tuple" = none) (he : PRg X e te) (na : starEach [e] X.env = (false, eval e X.env) :: starEach [] X.env := by rfl) : PE X (.Call (.Name "tuple" p) [e] [] pos) (tTupRgF te) := by
  refine ⟨fun pins s σ H Q I h => ?_⟩
  refine Call_ (ld_blt I hg hm PyProof.Rows.boot_tuple (PyProof.Rows.callWith_type1 (PyProof.Rows.args_cons (thn (he pins s σ H _ I h) fun x s1 ⟨r, a, b, t, u, v, H1, ex, hr, I1, ok, q⟩ => PyProof.Rows.args_nil ?_) na) na))
  subst ex
  obtain ⟨b1, b2, b3, b4, b5⟩ := ok
  refine L2.call_tuple_range (n := (b - a).toNat) (I1.ok.hd hc) hr (small_one b1 b2 b3 b4) (rangeSize_nat a b) b5 fun h' tk acc hk hi => ?_
  have I2 : Inv X pins σ H1 { s1 with heap := h', toks := tk } := I1.kept hk
  have := laidF (xs := rgV a b) I2 (vals_rg hi) (by rw [rgV_length, sizeLine_eq]; omega) q
  rwa [Array.toArray_toList] at this
theorem de_tupR2 {i l : Int} (hX : XO k X) (ha : DE g X e ρ (.d (.int i)) ρ1) (hb : DE g X e2 ρ1 (.d (.int l)) ρ2) (h : RgOk i l) (hg : Gl X "tuple" := by rfl) (hg2 : Gl X "range" := by rfl) (na : starEach [e, e2] X.env = (false, eval e X.env) :: starEach [e2] X.env := by rfl) (nb : starEach [e2] X.env = (false, eval e2 X.env) :: starEach [] X.env := by rfl) (hp : (backTo pos2 (starEach [e2] X.env)).any (·.1) = false := by rfl)
    (nc : starEach [.Call (.Name "range" p2) [e, e2] [] pos2] X.env = (false, eval (.Call (.Name "range" p2) [e, e2] [] pos2) X.env) :: starEach [] X.env := by rfl) :
    DE g X (.Call (.Name "tuple" p) [.Call (.Name "range" p2) [e, e2] [] pos2] [] pos) ρ (.d (.tuple (rngD i (l - i).toNat))) ρ2 :=
  pe_mono (pe_tupRgF hX.calm hg hX.bi.tuple (prg_2 hg2 hX.bi.range ha hb na nb hp) nc) fun σ H Q ⟨F, S, kn⟩ => ⟨F, S, fun x F1 H1 S1 k1 a1 => ⟨F1, S1, fun y F2 H2 S2 k2 a2 => ⟨i, l, a1, a2, h, new_tup S2 (fun v F' H' S' k' r => kn v F' H' S' (k1.trans (k2.trans k')) r) (rg_len h) (rg_da i l)⟩⟩⟩
theorem de_tupR1 {l : Int} (hX : XO k X) (hb : DE g X e ρ (.d (.int l)) ρ1) (h : RgOk 0 l) (hg : Gl X "tuple" := by rfl) (hg2 : Gl X "range" := by rfl) (na : starEach [e] X.env = (false, eval e X.env) :: starEach [] X.env := by rfl)
    (nc : starEach [.Call (.Name "range" p2) [e] [] pos2] X.env = (false, eval (.Call (.Name "range" p2) [e] [] pos2) X.env) :: starEach [] X.env := by rfl) :
    DE g X (.Call (.Name "tuple" p) [.Call (.Name "range" p2) [e] [] pos2] [] pos) ρ (.d (.tuple (rngD 0 l.toNat))) ρ1 :=
  pe_mono (pe_tupRgF hX.calm hg hX.bi.tuple (prg_1 hg2 hX.bi.range hb na) nc) fun σ H Q ⟨F, S, kn⟩ => ⟨F, S, fun x F1 H1 S1 k1 a1 => ⟨l, a1, h, new_tup S1 (fun v F' H' S' k' r => kn v F' H' S' (k1.trans k') r) (rg_len h) (by have := rg_da (F := F1) 0 l; rwa [Int.sub_zero] at this)⟩⟩
/-! ### list * int -/
theorem df_repL {n : Int} {ds : List Pd} {ra : R} (ha : DE g X a ρ ra ρ1) (hb : DE g X b ρ1 (.d (.int n)) ρ2) (h : lsto ρ2 ra = some ds) (h1 : -1000 ≤ n ∧ n ≤ 1000) (hz : ds.length ≤ 1000) : DF g X (.BinOp a .Mult b pos) ρ (.lst (repD ds n)) ρ2 :=
  pe_mono (pe_op op_rep ha hb) fun σ H Q ⟨F, S, q⟩ => ⟨F, S, fun v F1 H1 S1 k1 av => ⟨F1, S1, fun w F2 H2 S2 k2 aw => by
    obtain ⟨a1, ws, e1, hq, z, dl⟩ := lsto_at S2.st (av.mono k2) h
    cases (show w = _ from aw)
    subst e1
    have hl : ws.length * n.toNat ≤ 1000000 := by
      rw [← dl.length]
      have := Nat.mul_le_mul hz (show n.toNat ≤ 1000 by omega)
      omega
    refine ⟨a1, n, ws, rfl, rfl, hq, by omega, by omega, by rw [sizeLine_eq]; omega, new_lst S2 (fun p h F' H' S' k' => q p h F' H' S' (k1.trans (k2.trans k'))) ?_ (rep_da dl n.toNat)⟩
    rw [PyProof.Rows.lm_len_rep_flat, sizeLine_eq, Nat.mul_comm]
    omega⟩⟩
/-! ### x is not True -/
theorem op_notB : OpR X (compareOp .IsNot) (fun x y H Q => ∃ b c : Bool, x = .bl b ∧ y = .bl c ∧ Q (.bl (!decide (b = c))) H) := by
  intro pins s σ H x y v u Q I rx ry h
  obtain ⟨b, c, rfl, rfl, q⟩ := h
  cases rx
  cases ry
  refine wpAny_isNot_plain (by cases b <;> cases c <;> rfl) (fin_bl I q ?_)
  cases b <;> cases c <;> rfl
theorem dt_notB {b1 b2 : Bool} (ha : DE g X a ρ (.d (.bool b1)) ρ1) (hb : DE g X b ρ1 (.d (.bool b2)) ρ2) : DT g X (.Compare a [.IsNot] [b] pos) ρ (!decide (b1 = b2)) ρ2 :=
  dt_cmp2 op_notB (fun F H σ v w Q S av aw q => by
    cases (show v = _ from av)
    cases (show w = _ from aw)
    exact ⟨b1, b2, rfl, rfl, q _ F H S (Same.refl _) rfl⟩) ha hb (nomark _)
end
end DL

set_option autoImplicit false
/-! LB1: streams, lateness, buffers, in plain words. -/
namespace LB
/-- a valid stream -/
structure VS (xs : List Int) : Prop where
  len : xs.length ≤ 40
  rng : ∀ x ∈ xs, 0 ≤ x ∧ x ≤ 1000000
  nd : xs.Nodup
/-- how many greater ones -/
def gt (x : Int) (ys : List Int) : Nat := (ys.filter fun y => decide (x < y)).length
/-- the lateness of each item, place by place -/
def ltn (xs : List Int) : List Int := xs.zipIdx.map fun p => (gt p.1 (xs.take p.2) : Nat)
theorem ltn_length (xs : List Int) : (ltn xs).length = xs.length := by unfold ltn; rw [List.length_map, List.length_zipIdx]
theorem gt_le (x : Int) (ys : List Int) : gt x ys ≤ ys.length := List.length_filter_le _ _
/-- a buffer of s: held, steps -/
def passS (s : Nat) (xs : List Int) : List Int × List (List Int) :=
  xs.foldl (fun st x => let h := srt (st.1 ++ [x]); (h.drop (h.length - s), st.2 ++ [h.take (h.length - s)])) ([], [])
def passR (xs : List Int) (s : Nat) : List (List Int) := (passS s xs).2 ++ [(passS s xs).1]
def outR (xs : List Int) (s : Nat) : List Int := (passR xs s).flatten
theorem passS_snoc (s : Nat) (xs : List Int) (x : Int) : passS s (xs ++ [x]) = ((srt ((passS s xs).1 ++ [x])).drop ((passS s xs).1.length + 1 - s), (passS s xs).2 ++ [(srt ((passS s xs).1 ++ [x])).take ((passS s xs).1.length + 1 - s)]) := by
  unfold passS
  rw [List.foldl_append]
  simp only [List.foldl_cons, List.foldl_nil, srt_length, List.length_append, List.length_singleton]
theorem passS_len (s : Nat) (xs : List Int) : (passS s xs).1.length ≤ xs.length ∧ (passS s xs).2.length = xs.length := by
  induction xs using snocRec with
  | h0 => exact ⟨Nat.le_refl _, rfl⟩
  | h1 xs x ih =>
    rw [passS_snoc]
    simp only [List.length_drop, srt_length, List.length_append, List.length_singleton]
    omega
theorem passS_perm (s : Nat) (xs : List Int) : ((passS s xs).2.flatten ++ (passS s xs).1).Perm xs := by
  induction xs using snocRec with
  | h0 => exact List.Perm.refl _
  | h1 xs x ih =>
    rw [passS_snoc]
    simp only [List.flatten_append, List.flatten_cons, List.flatten_nil, List.append_nil, List.append_assoc]
    rw [List.take_append_drop]
    refine ((List.Perm.append_left _ (srt_perm _))).trans ?_
    rw [← List.append_assoc]
    exact ih.append_right _
theorem outR_perm (xs : List Int) (s : Nat) : (outR xs s).Perm xs := by
  unfold outR passR
  rw [List.flatten_append, List.flatten_cons, List.flatten_nil, List.append_nil]
  exact passS_perm s xs
/-! ### draws -/
abbrev Bag := Int × Int × Int
def drawR (b : Bag) : Int := ((((b.2.1 + 1000003 * (b.2.2 + 1)) % 2305843009213693951) * ((b.2.1 + 1000003 * (b.2.2 + 1)) % 2305843009213693951) + 7919 * (b.2.2 + 1) ^ 2 + 5) % 2305843009213693951)
def takeR (b : Bag) (m : Int) : Int := if 0 < b.1 then b.1 % m else (drawR b) ^ 3 % 2305843009213693951 / 13 % m
def takeB (b : Bag) (m : Int) : Bag := if 0 < b.1 then (b.1 / m, b.2.1, b.2.2) else (b.1, b.2.1, b.2.2 + 1)
/-- n more draws are within reach -/
def okB (n : Nat) (b : Bag) : Prop := 0 ≤ b.2.2 ∧ b.2.2 + n < 2 ^ 60
theorem okB.take {n : Nat} {b : Bag} {m : Int} (h : okB (n + 1) b) : okB n (takeB b m) := by
  obtain ⟨h1, h2⟩ := h
  unfold takeB
  split
  · exact ⟨h1, by show b.2.2 + (n : Int) < _; omega⟩
  · exact ⟨by show 0 ≤ b.2.2 + 1; omega, by show b.2.2 + 1 + (n : Int) < _; omega⟩
theorem okB.mono {n m : Nat} {b : Bag} (h : okB n b) (k : m ≤ n) : okB m b := ⟨h.1, by have := h.2; omega⟩
theorem takeR_rng (b : Bag) {m : Int} (h : 0 < m) : 0 ≤ takeR b m ∧ takeR b m < m := by
  unfold takeR
  split
  · exact ⟨Int.emod_nonneg _ (by omega), Int.emod_lt_of_pos _ h⟩
  · exact ⟨Int.emod_nonneg _ (by omega), Int.emod_lt_of_pos _ h⟩
end LB

set_option autoImplicit false
/-! LB2: lateness of items; what a buffer does to it. -/
namespace LB
def lateI (xs : List Int) (x : Int) : Nat := gt x (xs.take (xs.idxOf x))
def ages (xs : List Int) : List Int := (srt xs).map fun x => (lateI xs x : Nat)
theorem gt_append (x : Int) (a b : List Int) : gt x (a ++ b) = gt x a + gt x b := by unfold gt; rw [List.filter_append, List.length_append]
theorem gt_nil (x : Int) : gt x [] = 0 := rfl
theorem gt_perm {x : Int} {a b : List Int} (p : a.Perm b) : gt x a = gt x b := (p.filter _).length_eq
theorem gt_zero {x : Int} {a : List Int} (h : ∀ y ∈ a, y ≤ x) : gt x a = 0 := by
  unfold gt
  rw [List.filter_eq_nil_iff.mpr (fun y hy => by have := h y hy; simp; omega)]
  rfl
theorem gt_all {x : Int} {a : List Int} (h : ∀ y ∈ a, x < y) : gt x a = a.length := by
  unfold gt
  rw [List.filter_eq_self.mpr (fun y hy => by simpa using h y hy)]
theorem gt_pos {x : Int} {a : List Int} (h : 0 < gt x a) : ∃ y ∈ a, x < y := by
  unfold gt at h
  obtain ⟨y, hy⟩ := List.exists_mem_of_length_pos h
  exact ⟨y, (List.mem_filter.mp hy).1, by simpa using (List.mem_filter.mp hy).2⟩
theorem lateI_left {a b : List Int} {x : Int} (h : x ∈ a) : lateI (a ++ b) x = lateI a x := by
  unfold lateI
  rw [List.idxOf_append, if_pos h]
  have : a.idxOf x < a.length := List.idxOf_lt_length_iff.mpr h
  rw [List.take_append_of_le_length (Nat.le_of_lt this)]
theorem lateI_right {a b : List Int} {x : Int} (h : x ∉ a) : lateI (a ++ b) x = gt x a + lateI b x := by
  unfold lateI
  rw [List.idxOf_append, if_neg h, Nat.add_comm, List.take_length_add_append, gt_append]
theorem lateI_sorted {a : List Int} (h : a.Pairwise (· ≤ ·)) (x : Int) (hx : x ∈ a) : lateI a x = 0 := by
  induction a with
  | nil => cases hx
  | cons y a ih =>
    rw [List.pairwise_cons] at h
    by_cases e : x = y
    · subst e
      unfold lateI
      rw [List.idxOf_cons_self]
      rfl
    · have hx' : x ∈ a := (List.mem_cons.mp hx).resolve_left e
      rw [show y :: a = [y] ++ a from rfl, lateI_right (by simpa using e), ih h.2 hx', gt_zero (by simpa using h.1 x hx')]
theorem lateI_srt (xs : List Int) (x : Int) (hx : x ∈ xs) : lateI (srt xs) x = 0 := lateI_sorted (srt_pw xs) x (mem_srt.mpr hx)
/-! ### the buffer -/
theorem outR_eq (xs : List Int) (s : Nat) : outR xs s = (passS s xs).2.flatten ++ (passS s xs).1 := by
  unfold outR passR
  rw [List.flatten_append, List.flatten_cons, List.flatten_nil, List.append_nil]
theorem outR_snoc (xs : List Int) (x : Int) (s : Nat) : outR (xs ++ [x]) s = (passS s xs).2.flatten ++ srt ((passS s xs).1 ++ [x]) := by
  rw [outR_eq, passS_snoc]
  simp only [List.flatten_append, List.flatten_cons, List.flatten_nil, List.append_nil, List.append_assoc]
  rw [List.take_append_drop]
/-- what stays true of a buffer -/
structure PassOk (s : Nat) (n : Nat) (E h : List Int) : Prop where
  pw : h.Pairwise (· ≤ ·)
  le : ∀ e ∈ E, ∀ y ∈ h, e ≤ y
  len : h.length = min s n
  full : E ≠ [] → h.length = s
theorem passS_ok (s : Nat) (xs : List Int) : PassOk s xs.length (passS s xs).2.flatten (passS s xs).1 := by
  induction xs using snocRec with
  | h0 => exact ⟨.nil, (fun e he => nomatch he), (by show 0 = min s 0; omega), fun h => absurd rfl h⟩
  | h1 xs x ih =>
    rw [passS_snoc, List.length_append, List.length_singleton]
    simp only [List.flatten_append, List.flatten_cons, List.flatten_nil, List.append_nil]
    have hl : (srt ((passS s xs).1 ++ [x])).length = (passS s xs).1.length + 1 := by rw [srt_length, List.length_append, List.length_singleton]
    have pw := srt_pw ((passS s xs).1 ++ [x])
    have hlen := ih.len
    refine ⟨pw.sublist (List.drop_sublist _ _), fun e he y hy => ?_, by rw [List.length_drop, hl]; omega, fun hne => ?_⟩
    · rcases List.mem_append.mp he with h | h
      · -- emitted before
        have hy' : y ∈ (passS s xs).1 ++ [x] := mem_srt.mp (List.mem_of_mem_drop hy)
        rcases List.mem_append.mp hy' with z | z
        · exact ih.le e h y z
        · -- x itself is held: then something smaller went
          have hs := ih.full (fun z => by rw [z] at h; cases h)
          rw [List.mem_singleton] at z
          subst z
          have e1 : (passS s xs).1.length + 1 - s = 1 := by omega
          rw [e1] at hy
          cases hsr : srt ((passS s xs).1 ++ [y]) with
          | nil => rw [hsr] at hl; simp at hl
          | cons m t =>
            rw [hsr] at hy pw
            have hy2 : y ∈ t := by simpa using hy
            have hmy : m ≤ y := (List.pairwise_cons.mp pw).1 y hy2
            have hm : m ∈ (passS s xs).1 ++ [y] := mem_srt.mp (by rw [hsr]; exact List.mem_cons_self)
            rcases List.mem_append.mp hm with w | w
            · exact Int.le_trans (ih.le e h m w) hmy
            · rw [List.mem_singleton] at w
              subst w
              -- the least is y itself, and y stands again behind: all held are y's equals
              have : (passS s xs).1 ≠ [] := fun q => by
                rw [q] at hsr
                have : (m :: t).length = 1 := by rw [← hsr, srt_length]; rfl
                have : t = [] := by simpa using this
                rw [this] at hy2; cases hy2
              obtain ⟨u, hu⟩ := List.exists_mem_of_ne_nil _ this
              obtain ⟨v, hv, hvu⟩ : ∃ v ∈ (passS s xs).1, v ≤ m := by
                refine Classical.byContradiction fun hno => ?_
                have hall : ∀ v ∈ (passS s xs).1, m < v := fun v hv => Int.not_le.mp fun q => hno ⟨v, hv, q⟩
                have c1 : ((passS s xs).1 ++ [m]).count m = 1 := by
                  rw [List.count_append, List.count_eq_zero.mpr (fun q => by have := hall m q; omega)]
                  simp
                have c2 : (m :: t).count m = 1 := by rw [← hsr]; exact ((srt_perm _).count_eq m).trans c1
                rw [List.count_cons_self] at c2
                have : t.count m = 0 := by omega
                exact List.count_eq_zero.mp this hy2
              exact Int.le_trans (ih.le e h v hv) hvu
      · have pw2 : ((srt ((passS s xs).1 ++ [x])).take ((passS s xs).1.length + 1 - s) ++ (srt ((passS s xs).1 ++ [x])).drop ((passS s xs).1.length + 1 - s)).Pairwise (· ≤ ·) := by rw [List.take_append_drop]; exact pw
        exact (List.pairwise_append.mp pw2).2.2 e h y hy
    · rw [List.length_drop, hl]
      by_cases hE : (passS s xs).2.flatten = []
      · have : (srt ((passS s xs).1 ++ [x])).take ((passS s xs).1.length + 1 - s) ≠ [] := fun q => hne (by rw [hE, q]; rfl)
        have h3 : 0 < ((srt ((passS s xs).1 ++ [x])).take ((passS s xs).1.length + 1 - s)).length := List.length_pos_iff.mpr this
        rw [List.length_take, hl] at h3
        omega
      · have := ih.full hE
        omega
theorem outR_nodup {xs : List Int} (s : Nat) (h : xs.Nodup) : (outR xs s).Nodup := (outR_perm xs s).nodup_iff.mpr h
theorem mem_outR {xs : List Int} {s : Nat} {x : Int} : x ∈ outR xs s ↔ x ∈ xs := (outR_perm xs s).mem_iff
/-- a buffer of s lowers every lateness by s -/
theorem late_out (xs : List Int) (s : Nat) (hn : xs.Nodup) : ∀ x ∈ xs, lateI (outR xs s) x = lateI xs x - s := by
  induction xs using snocRec with
  | h0 => intro x hx; cases hx
  | h1 xs x ih =>
    have hn' : xs.Nodup := (List.nodup_append.mp hn).1
    have hx : x ∉ xs := fun h => (List.nodup_append.mp hn).2.2 x h x (List.mem_singleton.mpr rfl) rfl
    have ok := passS_ok s xs
    have pp := passS_perm s xs
    have ih' := ih hn'
    rw [outR_eq] at ih'
    have nd : ((passS s xs).2.flatten ++ (passS s xs).1).Nodup := pp.nodup_iff.mpr hn'
    intro y hy
    rw [outR_snoc]
    rcases List.mem_append.mp hy with h | h
    · rw [lateI_left h, ← ih' y h]
      rcases List.mem_append.mp (pp.mem_iff.mpr h) with z | z
      · rw [lateI_left z, lateI_left z]
      · have hno : y ∉ (passS s xs).2.flatten := fun q => (List.nodup_append.mp nd).2.2 y q y z rfl
        rw [lateI_right hno, lateI_right hno, lateI_srt _ _ (List.mem_append_left _ z), lateI_sorted ok.pw _ z]
    · rw [List.mem_singleton] at h
      subst h
      have hno : y ∉ (passS s xs).2.flatten := fun q => hx (pp.mem_iff.mp (List.mem_append_left _ q))
      rw [lateI_right hno, lateI_srt _ _ (List.mem_append_right _ (List.mem_singleton.mpr rfl)), lateI_right hx]
      have e0 : lateI [y] y = 0 := lateI_sorted (by simp) y (by simp)
      rw [e0, Nat.add_zero, Nat.add_zero, ← gt_perm pp, gt_append]
      by_cases hg : gt y (passS s xs).2.flatten = 0
      · have := gt_le y (passS s xs).1
        have := ok.len
        omega
      · obtain ⟨e, he, hye⟩ := gt_pos (Nat.pos_of_ne_zero hg)
        rw [gt_all (a := (passS s xs).1) fun z hz => Int.lt_of_lt_of_le hye (ok.le e he z hz), ok.full (fun q => by rw [q] at he; cases he)]
        omega
theorem ages_out (xs : List Int) (s : Nat) (hn : xs.Nodup) : ages (outR xs s) = (ages xs).map fun l => max 0 (l - (s : Int)) := by
  unfold ages
  rw [srt_congr (outR_perm xs s), List.map_map]
  refine List.map_congr_left fun x hx => ?_
  rw [late_out xs s hn x (mem_srt.mp hx)]
  show ((lateI xs x - s : Nat) : Int) = max 0 ((lateI xs x : Nat) - (s : Int))
  omega
/-! ### lateness determines the order -/
theorem split_at {a : List Int} {m : Int} (h : m ∈ a) (hn : a.Nodup) : ∃ l r, a = l ++ m :: r ∧ m ∉ l ∧ m ∉ r := by
  obtain ⟨l, r, rfl⟩ := List.append_of_mem h
  obtain ⟨h1, h2, h3⟩ := List.nodup_append.mp hn
  exact ⟨l, r, rfl, fun q => h3 m q m List.mem_cons_self rfl, (List.nodup_cons.mp h2).1⟩
theorem late_min {l r : List Int} {m : Int} (h : m ∉ l) (hm : ∀ y ∈ l, m ≤ y) : lateI (l ++ m :: r) m = l.length := by
  rw [lateI_right h, gt_all (fun y hy => by have := hm y hy; have : m ≠ y := fun e => h (e ▸ hy); omega)]
  have : lateI (m :: r) m = 0 := by unfold lateI; rw [List.idxOf_cons_self]; rfl
  omega
theorem late_cut {l r : List Int} {m x : Int} (hx : x ≠ m) (hm : m ≤ x) : lateI (l ++ m :: r) x = lateI (l ++ r) x := by
  by_cases hl : x ∈ l
  · rw [lateI_left hl, lateI_left hl]
  · have h0 : gt x [m] = 0 := gt_zero (by simpa using hm)
    rw [lateI_right hl, lateI_right hl, show m :: r = [m] ++ r from rfl, lateI_right (a := [m]) (by simpa using hx), h0, Nat.zero_add]
theorem late_inj : ∀ (n : Nat) {a b : List Int}, a.length = n → a.Perm b → a.Nodup → (∀ x ∈ a, lateI a x = lateI b x) → a = b
  | 0, a, b, hl, p, _, _ => by
    have ha : a = [] := List.eq_nil_of_length_eq_zero hl
    subst ha
    exact p.nil_eq
  | n + 1, a, b, hl, p, hn, h => by
    have hne : a ≠ [] := fun q => by rw [q] at hl; cases hl
    have hm := mnL_mem hne
    have hle : ∀ y ∈ a, mnL a ≤ y := fun y hy => mnL_le hy
    generalize hM : mnL a = m at hm hle
    have hnb : b.Nodup := p.nodup_iff.mp hn
    obtain ⟨l, r, ea, h1, h2⟩ := split_at hm hn
    obtain ⟨l', r', eb, h1', h2'⟩ := split_at (p.mem_iff.mp hm) hnb
    have e1 := h m hm
    subst ea eb
    rw [late_min h1 fun y hy => hle y (List.mem_append_left _ hy), late_min h1' fun y hy => hle y (p.mem_iff.mpr (List.mem_append_left _ hy))] at e1
    have p2 : (l ++ r).Perm (l' ++ r') := by
      have q := (List.perm_middle.symm.trans p).trans List.perm_middle
      exact List.Perm.cons_inv q
    have nd : (l ++ r).Nodup := by
      have := List.perm_middle.nodup_iff.mp hn
      exact (List.nodup_cons.mp this).2
    have ih := late_inj n (a := l ++ r) (b := l' ++ r') (by simp at hl ⊢; omega) p2 nd fun x hx => by
      have hxa : x ∈ l ++ m :: r := by
        rcases List.mem_append.mp hx with z | z
        · exact List.mem_append_left _ z
        · exact List.mem_append_right _ (List.mem_cons_of_mem _ z)
      have hxm : x ≠ m := fun e => by
        subst e
        rcases List.mem_append.mp hx with z | z
        · exact h1 z
        · exact h2 z
      have := h x hxa
      rwa [late_cut hxm (hle x hxa), late_cut hxm (hle x hxa)] at this
    obtain ⟨q1, q2⟩ := List.append_inj ih e1
    rw [q1, q2]
theorem late_eq {a b : List Int} (p : a.Perm b) (hn : a.Nodup) (h : ∀ x ∈ a, lateI a x = lateI b x) : a = b := late_inj _ rfl p hn h
/-! ### sums -/
theorem sum_perm {a b : List Int} (p : a.Perm b) : a.sum = b.sum := by
  induction p with
  | nil => rfl
  | cons x _ ih => rw [List.sum_cons, List.sum_cons, ih]
  | swap x y l => rw [List.sum_cons, List.sum_cons, List.sum_cons, List.sum_cons]; omega
  | trans _ _ h1 h2 => exact h1.trans h2
theorem idx_nodup {xs : List Int} (hn : xs.Nodup) {x : Int} {i : Nat} (h : xs[i]? = some x) : xs.idxOf x = i := by
  obtain ⟨hi, e⟩ := List.getElem?_eq_some_iff.mp h
  subst e
  exact hn.idxOf_getElem i hi
theorem ltn_eq {xs : List Int} (hn : xs.Nodup) : ltn xs = xs.map fun x => ((lateI xs x : Nat) : Int) := by
  unfold ltn
  apply List.ext_getElem?
  intro i
  rw [List.getElem?_map, List.getElem?_map, List.getElem?_zipIdx]
  cases e : xs[i]? with
  | none => rfl
  | some x =>
    simp only [Option.map_some, Nat.zero_add]
    unfold lateI
    rw [idx_nodup hn e]
theorem ltn_perm {xs : List Int} (hn : xs.Nodup) : (ltn xs).Perm (ages xs) := by
  rw [ltn_eq hn]
  exact ((srt_perm xs).map _).symm
theorem ages_nonneg {xs : List Int} {l : Int} (h : l ∈ ages xs) : 0 ≤ l := by
  obtain ⟨x, _, rfl⟩ := List.mem_map.mp h
  exact Int.natCast_nonneg _
theorem saved_eq {xs : List Int} (hn : xs.Nodup) (s : Nat) : ((ltn xs).map fun l => min l (s : Int)).sum = (ages xs).sum - ((ages xs).map fun l => max 0 (l - (s : Int))).sum := by
  rw [sum_perm ((ltn_perm hn).map _)]
  generalize hA : ages xs = A
  have hp : ∀ l ∈ A, 0 ≤ l := fun l h => ages_nonneg (hA ▸ h)
  clear hA
  induction A with
  | nil => rfl
  | cons a A ih =>
    simp only [List.map_cons, List.sum_cons]
    rw [ih fun l h => hp l (List.mem_cons_of_mem _ h)]
    have := hp a List.mem_cons_self
    omega
theorem out_sorted {xs : List Int} (hn : xs.Nodup) (s : Nat) : outR xs s = srt xs ↔ ∀ l ∈ ages xs, l ≤ s := by
  constructor
  · intro h l hl
    obtain ⟨x, hx, rfl⟩ := List.mem_map.mp hl
    have hx' := mem_srt.mp hx
    have := late_out xs s hn x hx'
    rw [h, lateI_srt xs x hx'] at this
    omega
  · intro h
    refine late_eq ((outR_perm xs s).trans (srt_perm xs).symm) (outR_nodup s hn) fun x hx => ?_
    have hx' := mem_outR.mp hx
    rw [late_out xs s hn x hx', lateI_srt xs x hx']
    have := h _ (List.mem_map_of_mem (f := fun x => ((lateI xs x : Nat) : Int)) (mem_srt.mpr hx'))
    omega
theorem mx_le {as : List Int} {s : Int} (h0 : 0 ≤ s) : mxL (0 :: as) ≤ s ↔ ∀ l ∈ as, l ≤ s := by
  constructor
  · intro h l hl
    exact Int.le_trans (mxL_ge (List.mem_cons_of_mem _ hl)) h
  · intro h
    rcases List.mem_cons.mp (mxL_mem (ns := 0 :: as) (by simp)) with z | z
    · rw [z]; exact h0
    · exact h _ z
end LB

set_option autoImplicit false
/-! LB3: items and streams that are drawn from a bag. -/
namespace LB
def pickT (most i : Int) : Int := if i = 0 then most else if i = 1 then 200 else 1000001
def drawN (m : Int) : Nat → Bag → List Int × Bag
  | 0, b => ([], b)
  | n + 1, b => ((drawN m n b).1 ++ [takeR (drawN m n b).2 m], takeB (drawN m n b).2 m)
theorem drawN_succ (m : Int) (n : Nat) (b : Bag) : drawN m (n + 1) b = ((drawN m n b).1 ++ [takeR (drawN m n b).2 m], takeB (drawN m n b).2 m) := rfl
def ins (ks : List Int) (x : Int) : List Int := if x ∈ ks then ks else ks ++ [x]
def once (xs : List Int) : List Int := xs.foldl ins []
theorem once_snoc (xs : List Int) (x : Int) : once (xs ++ [x]) = ins (once xs) x := by unfold once; rw [List.foldl_append]; rfl
theorem drawN_ok {m : Int} : ∀ {n k : Nat} {b : Bag}, okB (k + n) b → okB k (drawN m n b).2
  | 0, _, _, h => h
  | n + 1, k, b, h => (drawN_ok (n := n) (k := k + 1) (h.mono (by omega))).take
theorem drawN_len {m : Int} {b : Bag} : ∀ n : Nat, (drawN m n b).1.length = n
  | 0 => rfl
  | n + 1 => by unfold drawN; rw [List.length_append, drawN_len n]; rfl
theorem drawN_rng {m : Int} (hm : 0 < m) {b : Bag} : ∀ {n : Nat} {x : Int}, x ∈ (drawN m n b).1 → 0 ≤ x ∧ x < m
  | 0, _, h => by cases h
  | n + 1, x, h => by
    unfold drawN at h
    rcases List.mem_append.mp h with z | z
    · exact drawN_rng hm z
    · rw [List.mem_singleton.mp z]; exact takeR_rng _ hm
theorem once_ok (xs : List Int) : (once xs).Nodup ∧ (∀ x ∈ once xs, x ∈ xs) ∧ (once xs).length ≤ xs.length := by
  induction xs using snocRec with
  | h0 => exact ⟨.nil, fun x h => h, Nat.le_refl _⟩
  | h1 xs x ih =>
    obtain ⟨h1, h2, h3⟩ := ih
    rw [once_snoc]
    unfold ins
    split
    · exact ⟨h1, fun y hy => List.mem_append_left _ (h2 y hy), by rw [List.length_append]; omega⟩
    · rename_i hx
      refine ⟨?_, fun y hy => ?_, by rw [List.length_append, List.length_append]; simp; exact h3⟩
      · rw [List.nodup_append]
        exact ⟨h1, by simp, fun a ha b hb => by rw [List.mem_singleton.mp hb]; exact fun e => hx (e ▸ ha)⟩
      · rcases List.mem_append.mp hy with z | z
        · exact List.mem_append_left _ (h2 y z)
        · exact List.mem_append_right _ z
def itemsP (most : Nat) (b : Bag) : List Int × Bag :=
  (srt (once (drawN (pickT most (takeR b 3)) (takeR (takeB b 3) (most + 1)).toNat (takeB (takeB b 3) (most + 1))).1), (drawN (pickT most (takeR b 3)) (takeR (takeB b 3) (most + 1)).toNat (takeB (takeB b 3) (most + 1))).2)
theorem pickT_pos {most : Nat} {i : Int} (h : 1 ≤ most) : 0 < pickT most i := by unfold pickT; split; omega; split <;> decide
theorem pickT_le {most : Nat} {i : Int} (h : most ≤ 1000000) : pickT most i ≤ 1000001 := by unfold pickT; split; omega; split <;> decide
theorem itemsP_n {most : Nat} {b : Bag} : (takeR b (most + 1)).toNat ≤ most := by
  have := takeR_rng b (m := (most : Int) + 1) (by omega)
  omega
theorem itemsP_ok {most n : Nat} {b : Bag} (hm : most ≤ 40) (h : okB (n + 50) b) : okB n (itemsP most b).2 := by
  unfold itemsP
  refine drawN_ok ?_
  have h1 : okB (n + 48) (takeB (takeB b 3) (most + 1)) := ((h.mono (by omega : (n + 48) + 1 + 1 ≤ n + 50)).take).take
  have := itemsP_n (most := most) (b := takeB b 3)
  exact h1.mono (by omega)
structure ItOk (most : Nat) (xs : List Int) : Prop where
  pw : xs.Pairwise (· ≤ ·)
  nd : xs.Nodup
  len : xs.length ≤ most
  rng : ∀ x ∈ xs, 0 ≤ x ∧ x ≤ 1000000
theorem itemsP_it {most : Nat} {b : Bag} (h1 : 1 ≤ most) (hm : most ≤ 40) : ItOk most (itemsP most b).1 := by
  unfold itemsP
  obtain ⟨a1, a2, a3⟩ := once_ok (drawN (pickT most (takeR b 3)) (takeR (takeB b 3) (most + 1)).toNat (takeB (takeB b 3) (most + 1))).1
  refine ⟨srt_pw _, srt_nodup.mpr a1, ?_, fun x hx => ?_⟩
  · rw [srt_length]
    rw [drawN_len] at a3
    have := itemsP_n (most := most) (b := takeB b 3)
    omega
  · have := drawN_rng (pickT_pos h1) (a2 x (mem_srt.mp hx))
    have := pickT_le (most := most) (i := takeR b 3) (by omega)
    omega
/-! ### streams -/
def mWay (way : Int) (i : Nat) : Int := if way = 0 then (i : Int) + 1 else if way = 1 then 3 else if way = 2 then 9 else 20
def lateW (way : Int) (i : Nat) (b : Bag) : Int := if way = 0 then takeR b (mWay way i) else min (i : Int) (takeR b (mWay way i))
def setIn (xs : List Int) (k : Nat) (x : Int) : List Int := xs.take k ++ [x] ++ xs.drop k
def stepS (way : Int) (st : List Int × Bag) (p : Int × Nat) : List Int × Bag := (setIn st.1 (lateW way p.2 st.2).toNat p.1, takeB st.2 (mWay way p.2))
def strS (way : Int) (b : Bag) (ps : List (Int × Nat)) : List Int × Bag := ps.foldl (stepS way) ([], b)
theorem strS_snoc (way : Int) (b : Bag) (ps : List (Int × Nat)) (p : Int × Nat) : strS way b (ps ++ [p]) = stepS way (strS way b ps) p := by unfold strS; rw [List.foldl_append]; rfl
theorem mWay_pos (way : Int) (i : Nat) : 0 < mWay way i := by unfold mWay; split; omega; split; decide; split <;> decide
theorem setIn_perm (xs : List Int) (k : Nat) (x : Int) : (setIn xs k x).Perm (xs ++ [x]) := by
  unfold setIn
  rw [List.append_assoc]
  have h2 : (xs.take k ++ ([x] ++ xs.drop k)).Perm (xs.take k ++ (xs.drop k ++ [x])) := List.Perm.append_left _ List.perm_append_comm
  rw [← List.append_assoc (xs.take k) (xs.drop k), List.take_append_drop] at h2
  exact h2
theorem strS_ok (way : Int) (b : Bag) (ps : List (Int × Nat)) : (strS way b ps).1.Perm (ps.map (·.1)) ∧ ∀ n, okB (n + ps.length) b → okB n (strS way b ps).2 := by
  induction ps using snocRec with
  | h0 => exact ⟨List.Perm.refl _, fun n h => h⟩
  | h1 ps p ih =>
    rw [strS_snoc, List.map_append]
    refine ⟨(setIn_perm _ _ _).trans (ih.1.append_right _), fun n h => ?_⟩
    rw [List.length_append] at h
    exact (ih.2 (n + 1) (h.mono (by simp; omega))).take
def streamP (most : Nat) (b : Bag) : List Int × Bag := strS (takeR (itemsP most b).2 4) (takeB (itemsP most b).2 4) (itemsP most b).1.reverse.zipIdx
theorem zipIdx_fst (xs : List Int) (k : Nat) : (xs.zipIdx k).map (·.1) = xs := by
  induction xs generalizing k with
  | nil => rfl
  | cons x xs ih => rw [List.zipIdx_cons, List.map_cons, ih]
theorem streamP_perm (most : Nat) (b : Bag) : (streamP most b).1.Perm (itemsP most b).1 := by
  unfold streamP
  have := (strS_ok (takeR (itemsP most b).2 4) (takeB (itemsP most b).2 4) (itemsP most b).1.reverse.zipIdx).1
  rw [zipIdx_fst] at this
  exact this.trans (List.reverse_perm _)
theorem streamP_vs {most : Nat} {b : Bag} (h1 : 1 ≤ most) (hm : most ≤ 40) : VS (streamP most b).1 := by
  have it := itemsP_it (b := b) h1 hm
  have p := streamP_perm most b
  exact ⟨by rw [p.length_eq]; have := it.len; omega, fun x hx => it.rng x (p.mem_iff.mp hx), p.nodup_iff.mpr it.nd⟩
theorem streamP_ok {most n : Nat} {b : Bag} (h1 : 1 ≤ most) (hm : most ≤ 40) (h : okB (n + 100) b) : okB n (streamP most b).2 := by
  unfold streamP
  refine (strS_ok _ _ _).2 n ?_
  have it := itemsP_it (b := b) h1 hm
  have := it.len
  rw [List.length_zipIdx, List.length_reverse]
  have h2 := itemsP_ok (n := n + 50) hm (b := b) (h.mono (by omega))
  exact (h2.mono (by omega : n + (itemsP most b).1.length + 1 ≤ n + 50)).take
end LB

set_option autoImplicit false
/-! LB4: a buffer with the moments at which it emits. -/
namespace LB
def runE (s : Nat) (xs : List Int) : List (Int × Nat) := (passS s xs).2.zipIdx.flatMap fun p => p.1.map fun x => (x, p.2 + 1)
def runR (s : Nat) (xs : List Int) : List (Int × Nat) := runE s xs ++ (passS s xs).1.map fun x => (x, xs.length)
theorem runE_snoc (s : Nat) (xs : List Int) (x : Int) : runE s (xs ++ [x]) = runE s xs ++ ((srt ((passS s xs).1 ++ [x])).take ((passS s xs).1.length + 1 - s)).map fun y => (y, xs.length + 1) := by
  unfold runE
  rw [passS_snoc]
  simp only [List.zipIdx_append, List.flatMap_append]
  have := (passS_len s xs).2
  simp [this]
theorem map_zip_fst (F : List (List Int × Nat)) : (F.flatMap fun p => p.1.map fun x => (x, p.2 + 1)).map (·.1) = (F.map (·.1)).flatten := by
  induction F with
  | nil => rfl
  | cons p F ih =>
    rw [List.flatMap_cons, List.map_append, ih, List.map_cons, List.flatten_cons, List.map_map]
    congr 1
    exact List.map_id' _
theorem zipIdx_fst' {α : Type} (xs : List α) (k : Nat) : (xs.zipIdx k).map (·.1) = xs := by
  induction xs generalizing k with
  | nil => rfl
  | cons x xs ih => rw [List.zipIdx_cons, List.map_cons, ih]
theorem runE_fst (s : Nat) (xs : List Int) : (runE s xs).map (·.1) = (passS s xs).2.flatten := by
  unfold runE
  rw [map_zip_fst, zipIdx_fst']
theorem runR_fst (s : Nat) (xs : List Int) : (runR s xs).map (·.1) = outR xs s := by
  unfold runR
  rw [List.map_append, runE_fst, outR_eq, List.map_map]
  congr 1
  exact List.map_id' _
theorem runR_len (s : Nat) (xs : List Int) : (runR s xs).length = xs.length := by
  rw [← (outR_perm xs s).length_eq, ← runR_fst, List.length_map]
theorem runE_len (s : Nat) (xs : List Int) : (runE s xs).length ≤ xs.length := by
  rw [← runR_len s xs]
  unfold runR
  rw [List.length_append]
  omega
/-- the least of what a sorted list leaves -/
theorem min_drop {H h : List Int} {j : Nat} (p : h.Perm ((srt H).drop j)) (hne : h ≠ []) : (srt H).drop j = mnL h :: (srt H).drop (j + 1) ∧ (h.erase (mnL h)).Perm ((srt H).drop (j + 1)) := by
  have hj : j < (srt H).length := by
    refine Classical.byContradiction fun q => hne ?_
    have e : (srt H).drop j = [] := List.drop_eq_nil_of_le (by omega)
    rw [e] at p
    exact p.eq_nil
  have e := List.drop_eq_getElem_cons hj
  have pw : ((srt H)[j] :: (srt H).drop (j + 1)).Pairwise (· ≤ ·) := by rw [← e]; exact (srt_pw H).sublist (List.drop_sublist _ _)
  have hm : (srt H)[j] = mnL h := by
    refine mnL_unique (p.mem_iff.mpr (by rw [e]; exact List.mem_cons_self)) fun y hy => ?_
    have hy' := p.mem_iff.mp hy
    rw [e] at hy'
    rcases List.mem_cons.mp hy' with z | z
    · rw [z]; exact Int.le_refl _
    · exact (List.pairwise_cons.mp pw).1 y z
  rw [hm] at e
  refine ⟨e, ?_⟩
  have q := p.erase (mnL h)
  rw [e, List.erase_cons_head] at q
  exact q
end LB

set_option autoImplicit false
/-! LB5: buffers in series. -/
namespace LB
theorem out_out {xs : List Int} (hn : xs.Nodup) (a b : Nat) : outR (outR xs a) b = outR xs (a + b) := by
  have p1 := outR_perm xs a
  have p2 := outR_perm (outR xs a) b
  refine late_eq (p2.trans (p1.trans (outR_perm xs (a + b)).symm)) ((p2.trans p1).nodup_iff.mpr hn) fun x hx => ?_
  have h1 : x ∈ outR xs a := p2.mem_iff.mp hx
  have h2 : x ∈ xs := p1.mem_iff.mp h1
  rw [late_out _ b (outR_nodup a hn) x h1, late_out xs a hn x h2, late_out xs (a + b) hn x h2]
  omega
theorem out_zero {xs : List Int} (hn : xs.Nodup) : outR xs 0 = xs :=
  late_eq (outR_perm xs 0) (outR_nodup 0 hn) fun x hx => by rw [late_out xs 0 hn x (mem_outR.mp hx)]; rfl
def chainI (xs : List Int) (ss : List Int) : List Int := ss.foldl (fun a s => outR a s.toNat) xs
theorem chainI_snoc (xs ss : List Int) (s : Int) : chainI xs (ss ++ [s]) = outR (chainI xs ss) s.toNat := by unfold chainI; rw [List.foldl_append]; rfl
theorem chainI_eq {xs : List Int} (hn : xs.Nodup) (ss : List Int) (h : ∀ s ∈ ss, 0 ≤ s) : chainI xs ss = outR xs ss.sum.toNat ∧ 0 ≤ ss.sum := by
  induction ss using snocRec with
  | h0 => exact ⟨(out_zero hn).symm, Int.le_refl _⟩
  | h1 ss s ih =>
    obtain ⟨i1, i2⟩ := ih fun x hx => h x (List.mem_append_left _ hx)
    have hs := h s (List.mem_append_right _ (List.mem_singleton.mpr rfl))
    rw [chainI_snoc, i1, out_out hn, List.sum_append, List.sum_cons, List.sum_nil]
    refine ⟨?_, by omega⟩
    congr 1
    omega
theorem chainI_perm (xs ss : List Int) : (chainI xs ss).Perm xs := by
  induction ss using snocRec with
  | h0 => exact List.Perm.refl _
  | h1 ss s ih => rw [chainI_snoc]; exact (outR_perm _ _).trans ih
theorem VS.out {xs : List Int} (h : VS xs) (s : Nat) : VS (outR xs s) := ⟨by rw [(outR_perm xs s).length_eq]; exact h.len, fun x hx => h.rng x (mem_outR.mp hx), outR_nodup s h.nd⟩
theorem VS.perm {xs ys : List Int} (h : VS xs) (p : ys.Perm xs) : VS ys := ⟨by rw [p.length_eq]; exact h.len, fun x hx => h.rng x (p.mem_iff.mp hx), p.nodup_iff.mpr h.nd⟩
/-! sizes that are drawn -/
def pick5 (i : Int) : Int := if i = 0 then 2 else if i = 1 then 5 else 41
def szN (b : Bag) : Nat → List Int × Bag
  | 0 => ([], b)
  | n + 1 => ((szN b n).1 ++ [takeR (takeB (szN b n).2 3) (pick5 (takeR (szN b n).2 3))], takeB (takeB (szN b n).2 3) (pick5 (takeR (szN b n).2 3)))
theorem szN_succ (b : Bag) (n : Nat) : szN b (n + 1) = ((szN b n).1 ++ [takeR (takeB (szN b n).2 3) (pick5 (takeR (szN b n).2 3))], takeB (takeB (szN b n).2 3) (pick5 (takeR (szN b n).2 3))) := rfl
theorem pick5_pos (i : Int) : 0 < pick5 i ∧ pick5 i ≤ 41 := by unfold pick5; split; decide; split <;> decide
theorem szN_ok {b : Bag} {k : Nat} : ∀ {n : Nat}, okB (k + 2 * n) b → okB k (szN b n).2
  | 0, h => h
  | n + 1, h => ((szN_ok (k := k + 2) (n := n) (h.mono (by omega))).take).take
theorem szN_rng {b : Bag} : ∀ {n : Nat} {x : Int}, x ∈ (szN b n).1 → 0 ≤ x ∧ x ≤ 40
  | 0, _, h => by cases h
  | n + 1, x, h => by
    rw [szN_succ] at h
    rcases List.mem_append.mp h with z | z
    · exact szN_rng z
    · rw [List.mem_singleton.mp z]
      have h1 := pick5_pos (takeR (szN b n).2 3)
      have := takeR_rng (takeB (szN b n).2 3) h1.1
      omega
theorem szN_len {b : Bag} : ∀ n : Nat, (szN b n).1.length = n
  | 0 => rfl
  | n + 1 => by rw [szN_succ, List.length_append, szN_len n]; rfl
end LB

set_option autoImplicit false
/-! LB6: when a buffer emits each item. -/
namespace LB
theorem taken {α : Type} {xs : List α} {x : α} {t : Nat} (h : x ∈ xs.take t) : x ∈ xs := List.mem_of_mem_take h
/-- emitted by now: as many greater ones have come as the buffer holds -/
theorem emitted_iff {s : Nat} {xs : List Int} (hn : xs.Nodup) {x : Int} (hx : x ∈ xs) : x ∈ (passS s xs).2.flatten ↔ s ≤ gt x xs := by
  have ok := passS_ok s xs
  have pp := passS_perm s xs
  have nd : ((passS s xs).2.flatten ++ (passS s xs).1).Nodup := pp.nodup_iff.mpr hn
  have hg : gt x xs = gt x (passS s xs).2.flatten + gt x (passS s xs).1 := by rw [← gt_perm pp, gt_append]
  constructor
  · intro he
    have hf := ok.full (fun q => by rw [q] at he; cases he)
    have : gt x (passS s xs).1 = (passS s xs).1.length := gt_all fun y hy => by
      have h1 := ok.le x he y hy
      have h2 : x ≠ y := fun e => (List.nodup_append.mp nd).2.2 x he y hy e
      omega
    omega
  · intro hs
    rcases List.mem_append.mp (pp.mem_iff.mpr hx) with z | z
    · exact z
    · exfalso
      have h0 : gt x (passS s xs).2.flatten = 0 := gt_zero fun y hy => ok.le y hy x z
      have h1 : gt x (passS s xs).1 < (passS s xs).1.length := by
        unfold gt
        refine List.length_filter_lt_length_iff_exists.mpr ⟨x, z, by simp⟩
      have := ok.len
      omega
theorem runE_time {s : Nat} {xs : List Int} (hn : xs.Nodup) : ∀ {x : Int} {t : Nat}, (x, t) ∈ runE s xs → x ∈ xs.take t ∧ t ≤ xs.length ∧ s ≤ gt x (xs.take t) ∧ ∀ u, u < t → x ∈ xs.take u → gt x (xs.take u) < s := by
  induction xs using snocRec with
  | h0 => intro x t h; cases h
  | h1 xs y ih =>
    intro x t h
    have hn' : xs.Nodup := (List.nodup_append.mp hn).1
    rw [runE_snoc] at h
    rcases List.mem_append.mp h with z | z
    · obtain ⟨a, b, c, d⟩ := ih hn' z
      have e : ∀ u, u ≤ xs.length → (xs ++ [y]).take u = xs.take u := fun u hu => List.take_append_of_le_length hu
      refine ⟨by rw [e t b]; exact a, by rw [List.length_append]; omega, by rw [e t b]; exact c, fun u hu => by rw [e u (by omega)]; exact d u hu⟩
    · obtain ⟨w, hw, e⟩ := List.mem_map.mp z
      cases e
      have hE : x ∈ (passS s (xs ++ [y])).2.flatten := by
        rw [passS_snoc]
        simp only [List.flatten_append, List.flatten_cons, List.flatten_nil, List.append_nil]
        exact List.mem_append_right _ hw
      have pp := passS_perm s (xs ++ [y])
      have hx : x ∈ xs ++ [y] := pp.mem_iff.mp (List.mem_append_left _ hE)
      have hfull : (xs ++ [y]).take (xs.length + 1) = xs ++ [y] := List.take_of_length_le (by simp)
      refine ⟨by rw [hfull]; exact hx, by simp, by rw [hfull]; exact (emitted_iff hn hx).mp hE, fun u hu hxu => ?_⟩
      have hu' : u ≤ xs.length := by omega
      rw [List.take_append_of_le_length hu'] at hxu ⊢
      refine Nat.not_le.mp fun q => ?_
      have hxx : x ∈ xs := taken hxu
      have hg : s ≤ gt x xs := by
        have : gt x xs = gt x (xs.take u) + gt x (xs.drop u) := by rw [← gt_append, List.take_append_drop]
        omega
      have h1 := (emitted_iff hn' hxx).mpr hg
      -- it was emitted before and stands among the emitted now again
      have nd : ((passS s (xs ++ [y])).2.flatten ++ (passS s (xs ++ [y])).1).Nodup := pp.nodup_iff.mpr hn
      rw [passS_snoc] at nd
      simp only [List.flatten_append, List.flatten_cons, List.flatten_nil, List.append_nil] at nd
      have nd1 := (List.nodup_append.mp nd).1
      exact (List.nodup_append.mp nd1).2.2 x h1 x hw rfl
theorem runR_nodup {s : Nat} {xs : List Int} (hn : xs.Nodup) : ((runR s xs).map (·.1)).Nodup := by rw [runR_fst]; exact outR_nodup s hn
theorem runR_mem {s : Nat} {xs : List Int} {x : Int} : x ∈ (runR s xs).map (·.1) ↔ x ∈ xs := by rw [runR_fst]; exact mem_outR
/-- the moment of x, by the newer greater ones -/
def newerL (xs : List Int) (x : Int) : List Int := (xs.zipIdx.filter fun p => decide (x < p.1)).map fun p => ((p.2 : Nat) : Int) + 1
theorem newerL_snoc (xs : List Int) (x y : Int) : newerL (xs ++ [y]) x = newerL xs x ++ (if x < y then [((xs.length : Nat) : Int) + 1] else []) := by
  unfold newerL
  rw [List.zipIdx_append, List.filter_append, List.map_append]
  congr 1
  by_cases h : x < y <;> simp [h]
theorem newerL_len (xs : List Int) (x : Int) : (newerL xs x).length = gt x xs := by
  induction xs using snocRec with
  | h0 => rfl
  | h1 xs y ih =>
    rw [newerL_snoc, List.length_append, ih, gt_append]
    congr 1
    unfold gt
    by_cases h : x < y <;> simp [h]
/-- the k-th greater one's moment: by then k + 1 greater ones have come, not before -/
theorem newerL_get {xs : List Int} {x : Int} : ∀ {k : Nat} {t : Int}, (newerL xs x)[k]? = some t → ∃ u : Nat, t = (u : Int) + 1 ∧ u < xs.length ∧ gt x (xs.take (u + 1)) = k + 1 ∧ gt x (xs.take u) = k := by
  induction xs using snocRec with
  | h0 => intro k t h; cases h
  | h1 xs y ih =>
    intro k t h
    rw [newerL_snoc] at h
    by_cases hk : k < (newerL xs x).length
    · rw [List.getElem?_append_left hk] at h
      obtain ⟨u, a, b, c, d⟩ := ih h
      refine ⟨u, a, by rw [List.length_append]; omega, ?_, ?_⟩
      · rw [List.take_append_of_le_length (by omega)]; exact c
      · rw [List.take_append_of_le_length (by omega)]; exact d
    · rw [List.getElem?_append_right (by omega)] at h
      by_cases hy : x < y
      · rw [if_pos hy] at h
        have hkl : k - (newerL xs x).length = 0 := by
          have := (List.getElem?_eq_some_iff.mp h).1
          simp at this
          omega
        rw [hkl] at h
        cases h
        have hl := newerL_len xs x
        refine ⟨xs.length, rfl, by simp, ?_, ?_⟩
        · rw [List.take_of_length_le (by simp), gt_append]
          have : gt x [y] = 1 := by unfold gt; simp [hy]
          omega
        · rw [List.take_append_of_le_length (Nat.le_refl _), List.take_length]
          omega
      · rw [if_neg hy] at h
        cases h
theorem gt_mono {x : Int} {xs : List Int} {t u : Nat} (h : t ≤ u) : gt x (xs.take t) ≤ gt x (xs.take u) := by
  have e : xs.take t = (xs.take u).take t := by rw [List.take_take, Nat.min_eq_left h]
  have : gt x (xs.take u) = gt x ((xs.take u).take t) + gt x ((xs.take u).drop t) := by rw [← gt_append, List.take_append_drop]
  rw [e]; omega
/-- .. as the law computes it -/
def timeL (xs : List Int) (s : Nat) (i : Nat) (x : Int) : Int :=
  if s ≤ ((newerL xs x).filter fun p => decide (p ≤ (i : Int))).length then (i : Int) + 1 else if s ≤ (newerL xs x).length then ((newerL xs x)[s - 1]?).getD 0 else (xs.length : Nat)
theorem newer_before {xs : List Int} {x : Int} (i : Nat) : ((newerL xs x).filter fun p => decide (p ≤ (i : Int))).length = gt x (xs.take i) := by
  induction xs using snocRec with
  | h0 => simp [newerL, gt]
  | h1 xs y ih =>
    rw [newerL_snoc, List.filter_append, List.length_append, ih]
    by_cases hi : i ≤ xs.length
    · rw [List.take_append_of_le_length hi]
      have : ((if x < y then [((xs.length : Nat) : Int) + 1] else []).filter fun p => decide (p ≤ (i : Int))) = [] := by
        split
        · rw [List.filter_cons_of_neg (by simp; omega)]; rfl
        · rfl
      rw [this]; rfl
    · rw [List.take_of_length_le (by omega), List.take_of_length_le (by simp; omega), gt_append]
      congr 1
      unfold gt
      by_cases h : x < y
      · rw [if_pos h, List.filter_cons_of_pos (by simp; omega)]; simp [h]
      · simp [h]
theorem runR_time {s : Nat} {xs : List Int} (hn : xs.Nodup) {x : Int} {t i : Nat} (h : (x, t) ∈ runR s xs) (hi : xs[i]? = some x) : (t : Int) = timeL xs s i x := by
  have hil := (List.getElem?_eq_some_iff.mp hi).1
  have at_ : ∀ u, x ∈ xs.take u ↔ i < u := fun u => by
    constructor
    · intro hx
      obtain ⟨j, hj, e⟩ := List.getElem_of_mem hx
      rw [List.length_take] at hj
      rw [List.getElem_take] at e
      have : j = i := by
        have h1 : xs[j]? = some x := by rw [List.getElem?_eq_getElem (by omega), e]
        exact (List.getElem?_inj (i := j) (j := i) (by omega) hn).mp (h1.trans hi.symm)
      omega
    · intro hu
      have : (xs.take u)[i]? = some x := by rw [List.getElem?_take_of_lt hu]; exact hi
      exact List.mem_of_getElem? this
  have hgi : gt x (xs.take (i + 1)) = gt x (xs.take i) := by
    rw [List.take_add_one, hi, gt_append]
    have : gt x (some x).toList = 0 := by simp [gt]
    omega
  unfold timeL
  rw [newer_before]
  unfold runR at h
  rcases List.mem_append.mp h with z | z
  · obtain ⟨a, b, c, d⟩ := runE_time hn z
    have hit := (at_ t).mp a
    by_cases hs : s ≤ gt x (xs.take i)
    · rw [if_pos hs]
      refine Classical.byContradiction fun hne => ?_
      have : i + 1 < t := by omega
      have := d (i + 1) this ((at_ _).mpr (by omega))
      omega
    · rw [if_neg hs]
      have hg : s ≤ gt x xs := by
        have := gt_mono (x := x) (xs := xs) b
        rw [List.take_length] at this
        omega
      rw [newerL_len, if_pos hg]
      have hs0 : 0 < s := by omega
      have hk : s - 1 < (newerL xs x).length := by rw [newerL_len]; omega
      obtain ⟨u, e1, e2, e3, e4⟩ := newerL_get (List.getElem?_eq_getElem hk)
      rw [List.getElem?_eq_getElem hk, Option.getD_some, e1]
      -- t = u + 1
      have h1 : t ≤ u + 1 := Nat.not_lt.mp fun q => by
        have hiu : i < u + 1 := Nat.not_le.mp fun w => by
          have := gt_mono (x := x) (xs := xs) w
          omega
        have := d (u + 1) q ((at_ _).mpr hiu)
        omega
      have h2 : u + 1 ≤ t := Nat.not_lt.mp fun q => by
        have := gt_mono (x := x) (xs := xs) (show t ≤ u by omega)
        omega
      omega
  · obtain ⟨w, hw, e⟩ := List.mem_map.mp z
    cases e
    have ok := passS_ok s xs
    have pp := passS_perm s xs
    have nd : ((passS s xs).2.flatten ++ (passS s xs).1).Nodup := pp.nodup_iff.mpr hn
    have hx : x ∈ xs := List.mem_of_getElem? hi
    have hno : x ∉ (passS s xs).2.flatten := fun q => (List.nodup_append.mp nd).2.2 x q x hw rfl
    have hlt : gt x xs < s := Nat.not_le.mp fun q => hno ((emitted_iff hn hx).mpr q)
    have := gt_mono (x := x) (xs := xs) (show i ≤ xs.length by omega)
    rw [List.take_length] at this
    rw [if_neg (by omega), newerL_len, if_neg (by omega)]
/-! ### the sum of the delays -/
def delayN (s : Nat) : Nat → Int
  | 0 => 0
  | n + 1 => delayN s n + (min s n : Nat)
theorem sum_const (l : List Int) (n m : Nat) : ((l.map fun x => (x, n)).map fun p : Int × Nat => ((p.2 : Nat) : Int)).sum + (l.length : Nat) * ((m : Int) - n) = ((l.map fun x => (x, m)).map fun p : Int × Nat => ((p.2 : Nat) : Int)).sum := by
  induction l with
  | nil => simp
  | cons x l ih =>
    simp only [List.map_cons, List.sum_cons, List.length_cons]
    rw [← ih]
    have : ((l.length + 1 : Nat) : Int) = (l.length : Nat) + 1 := by omega
    rw [this, Int.add_mul]
    omega
def tSum (s : Nat) (xs : List Int) : Int := ((runR s xs).map fun p => ((p.2 : Nat) : Int)).sum
def iSum : Nat → Int
  | 0 => 0
  | n + 1 => iSum n + ((n : Int) + 1)
theorem map_snd_append (a b : List Int) (n : Nat) : ((a ++ b).map fun x => (x, n)) = (a.map fun x => (x, n)) ++ b.map fun x => (x, n) := List.map_append
theorem tSum_perm {a b : List (Int × Nat)} (p : a.Perm b) : (a.map fun p => ((p.2 : Nat) : Int)).sum = (b.map fun p => ((p.2 : Nat) : Int)).sum := sum_perm (p.map _)
theorem tSum_eq (s : Nat) (xs : List Int) : tSum s xs = iSum xs.length + delayN s xs.length := by
  induction xs using snocRec with
  | h0 => rfl
  | h1 xs y ih =>
    have ok := passS_ok s xs
    unfold tSum at ih ⊢
    unfold runR at ih ⊢
    rw [runE_snoc, passS_snoc, List.append_assoc]
    simp only [List.length_append, List.length_singleton]
    rw [← map_snd_append, List.take_append_drop, List.map_append, List.sum_append]
    rw [tSum_perm ((srt_perm ((passS s xs).1 ++ [y])).map fun x => (x, xs.length + 1)), map_snd_append, List.map_append, List.sum_append]
    rw [List.map_append, List.sum_append] at ih
    have h1 := sum_const (passS s xs).1 xs.length (xs.length + 1)
    have h2 : (((xs.length + 1 : Nat) : Int) - xs.length) = 1 := by omega
    rw [h2, Int.mul_one] at h1
    rw [← h1]
    have h3 : (([y].map fun x => (x, xs.length + 1)).map fun p : Int × Nat => ((p.2 : Nat) : Int)).sum = (xs.length : Int) + 1 := by simp
    rw [h3]
    unfold iSum delayN
    have := ok.len
    rw [this] 
    omega
end LB
namespace LB
def emT (s : Nat) (xs : List Int) : List Int := xs.map fun x => timeL xs s (xs.idxOf x) x
theorem runR_at {s : Nat} {xs : List Int} (hn : xs.Nodup) {x : Int} (hx : x ∈ xs) : ∃ t : Nat, (x, t) ∈ runR s xs ∧ (t : Int) = timeL xs s (xs.idxOf x) x := by
  obtain ⟨⟨y, t⟩, hp, rfl⟩ := List.mem_map.mp (runR_mem (s := s).mpr hx)
  exact ⟨t, hp, runR_time hn hp (by rw [List.getElem?_eq_getElem (List.idxOf_lt_length_iff.mpr hx), List.getElem_idxOf])⟩
theorem emT_get {s : Nat} {xs : List Int} (hn : xs.Nodup) {i : Nat} {x : Int} (h : xs[i]? = some x) : (emT s xs)[i]? = some (timeL xs s i x) := by
  unfold emT
  rw [List.getElem?_map, h, Option.map_some, idx_nodup hn h]
theorem allT_eq (xs : List Int) (s : Nat) : ((passR xs s).zipIdx.flatMap fun p => p.1.map fun x => (x, min (p.2 + 1) xs.length)) = runR s xs := by
  unfold passR runR runE
  have hl := (passS_len s xs).2
  rw [List.zipIdx_append, List.flatMap_append]
  congr 1
  · have : ∀ p ∈ (passS s xs).2.zipIdx, (p.1.map fun x => (x, min (p.2 + 1) xs.length)) = p.1.map fun x => (x, p.2 + 1) := fun p hp => by
      have := List.snd_lt_of_mem_zipIdx hp
      rw [Nat.min_eq_left (by omega)]
    rw [List.flatMap_def, List.flatMap_def, List.map_congr_left this]
  · simp [hl]
theorem iSum_eq : ∀ n : Nat, ((List.range n).map fun i => ((i : Nat) : Int) + 1).sum = iSum n
  | 0 => rfl
  | n + 1 => by
    rw [List.range_succ, List.map_append, List.sum_append, iSum_eq n]
    simp [iSum]
theorem emT_sum {s : Nat} {xs : List Int} (hn : xs.Nodup) : (emT s xs).sum = tSum s xs := by
  unfold emT tSum
  have p : (xs.map fun x => timeL xs s (xs.idxOf x) x).Perm ((runR s xs).map fun p => ((p.2 : Nat) : Int)) := by
    have e : (runR s xs).map (fun p => ((p.2 : Nat) : Int)) = ((runR s xs).map (·.1)).map fun x => timeL xs s (xs.idxOf x) x := by
      rw [List.map_map]
      refine List.map_congr_left fun p hp => ?_
      obtain ⟨x, t⟩ := p
      have hx : x ∈ xs := runR_mem.mp (List.mem_map_of_mem hp)
      exact runR_time hn hp (by rw [List.getElem?_eq_getElem (List.idxOf_lt_length_iff.mpr hx), List.getElem_idxOf])
    rw [e, runR_fst]
    exact (outR_perm xs s).symm.map _
  exact sum_perm p
theorem delay_law {s : Nat} {xs : List Int} (hn : xs.Nodup) : ((emT s xs).zipIdx.map fun p => p.1 - ((p.2 : Nat) : Int) - 1).sum = delayN s xs.length := by
  have key : ∀ (ts : List Int) (k : Nat), ((ts.zipIdx k).map fun p => p.1 - ((p.2 : Nat) : Int) - 1).sum = ts.sum - ((List.range ts.length).map fun i => ((i : Nat) : Int) + 1).sum - (ts.length : Nat) * (k : Int) := by
    intro ts
    induction ts with
    | nil => intro k; simp
    | cons t ts ih =>
      intro k
      rw [List.zipIdx_cons, List.map_cons, List.sum_cons, ih (k + 1), List.sum_cons, List.length_cons, iSum_eq, iSum_eq]
      have h1 : ((ts.length + 1 : Nat) : Int) = (ts.length : Nat) + 1 := by omega
      have h2 : ((k + 1 : Nat) : Int) = (k : Int) + 1 := by omega
      have h3 : iSum (ts.length + 1) = iSum ts.length + ((ts.length : Int) + 1) := rfl
      rw [h1, h2, h3, Int.add_mul, Int.mul_add]
      omega
  have h0 := key (emT s xs) 0
  have hl : (emT s xs).length = xs.length := by unfold emT; rw [List.length_map]
  rw [h0, iSum_eq, emT_sum hn, tSum_eq, hl]
  simp
  omega
theorem delayN_sum (s : Nat) : ∀ n : Nat, delayN s n = ((List.range (n - 1)).map fun i => min (1 + ((i : Nat) : Int)) (s : Int)).sum
  | 0 => rfl
  | 1 => by simp [delayN]
  | n + 2 => by
    have h := delayN_sum s (n + 1)
    rw [show n + 2 - 1 = (n + 1 - 1) + 1 from by omega, List.range_succ, List.map_append, List.sum_append, ← h]
    simp [delayN]
    omega
end LB

set_option autoImplicit false
/-! LB7: the order of pairs, missed items, the least size. -/
namespace LB
/-! ### pairs in their order -/
theorem pair_sorted {l : List Int} {x y : Int} (h : l.Pairwise (· ≤ ·)) (hx : x ∈ l) (hy : y ∈ l) (hlt : x < y) : List.Sublist [x, y] l := by
  induction l with
  | nil => cases hx
  | cons a l ih =>
    rw [List.pairwise_cons] at h
    rcases List.mem_cons.mp hx with e | hx'
    · subst e
      have hy' : y ∈ l := (List.mem_cons.mp hy).resolve_left (by omega)
      exact (List.singleton_sublist.mpr hy').cons_cons x
    · have hy' : y ∈ l := by
        rcases List.mem_cons.mp hy with e | q
        · subst e
          have := h.1 x hx'
          omega
        · exact q
      exact (ih h.2 hx' hy').cons a
theorem pair_app {a b : List Int} {x y : Int} (hx : x ∈ a) (hy : y ∈ b) : List.Sublist [x, y] (a ++ b) :=
  (List.singleton_sublist.mpr hx).append (List.singleton_sublist.mpr hy)
theorem pair_of_app {a b : List Int} {x y : Int} (h : List.Sublist [x, y] (a ++ b)) : List.Sublist [x, y] a ∨ (x ∈ a ∧ y ∈ b) ∨ List.Sublist [x, y] b := by
  obtain ⟨l1, l2, e, h1, h2⟩ := List.sublist_append_iff.mp h
  cases l1 with
  | nil =>
    rw [List.nil_append] at e
    rw [← e] at h2
    exact .inr (.inr h2)
  | cons u l1 =>
    rw [List.cons_append, List.cons.injEq] at e
    obtain ⟨e1, e2⟩ := e
    subst e1
    cases l1 with
    | nil =>
      rw [List.nil_append] at e2
      rw [← e2] at h2
      exact .inr (.inl ⟨List.singleton_sublist.mp h1, List.singleton_sublist.mp h2⟩)
    | cons v l1 =>
      rw [List.cons_append, List.cons.injEq] at e2
      obtain ⟨e3, e4⟩ := e2
      subst e3
      have : l1 = [] := (List.append_eq_nil_iff.mp e4.symm).1
      subst this
      exact .inl h1
theorem pair_mem {l : List Int} {x y : Int} (h : List.Sublist [x, y] l) : x ∈ l ∧ y ∈ l := ⟨h.subset (by simp), h.subset (by simp)⟩
theorem pair_total {l : List Int} {x y : Int} (hx : x ∈ l) (hy : y ∈ l) (hne : x ≠ y) : List.Sublist [x, y] l ∨ List.Sublist [y, x] l := by
  obtain ⟨a, b, rfl⟩ := List.append_of_mem hx
  rcases List.mem_append.mp hy with z | z
  · exact .inr (pair_app z List.mem_cons_self)
  · have : y ∈ b := (List.mem_cons.mp z).resolve_left (fun e => hne e.symm)
    exact .inl (((List.singleton_sublist.mpr this).cons_cons x).trans (List.sublist_append_right _ _))
theorem pair_asym {l : List Int} {x y : Int} (hn : l.Nodup) (h : List.Sublist [x, y] l) (k : List.Sublist [y, x] l) : False := by
  induction l with
  | nil => cases h
  | cons a l ih =>
    rw [List.nodup_cons] at hn
    cases h with
    | cons _ h =>
      cases k with
      | cons _ k => exact ih hn.2 h k
      | cons_cons _ k => exact hn.1 (pair_mem h).2
    | cons_cons _ h =>
      cases k with
      | cons _ k => exact hn.1 (pair_mem k).2
      | cons_cons _ k => exact hn.1 (List.singleton_sublist.mp h)
/-- a buffer keeps what is in order -/
theorem keep_order {xs : List Int} (s : Nat) {x y : Int} (hlt : x < y) (h : List.Sublist [x, y] xs) : List.Sublist [x, y] (outR xs s) := by
  induction xs using snocRec with
  | h0 => cases h
  | h1 xs w ih =>
    have ok := passS_ok s xs
    have pp := passS_perm s xs
    rw [outR_snoc]
    have inH : ∀ {u : Int}, u ∈ (passS s xs).1 → u ∈ srt ((passS s xs).1 ++ [w]) := fun hu => mem_srt.mpr (List.mem_append_left _ hu)
    rcases pair_of_app h with z | ⟨z1, z2⟩ | z
    · have := ih z
      rw [outR_eq] at this
      rcases pair_of_app this with q | ⟨q1, q2⟩ | q
      · exact q.trans (List.sublist_append_left _ _)
      · exact pair_app q1 (inH q2)
      · exact (pair_sorted (srt_pw _) (inH (pair_mem q).1) (inH (pair_mem q).2) hlt).trans (List.sublist_append_right _ _)
    · have hy : y = w := List.mem_singleton.mp z2
      subst hy
      have hyI : y ∈ srt ((passS s xs).1 ++ [y]) := mem_srt.mpr (List.mem_append_right _ (List.mem_singleton.mpr rfl))
      rcases List.mem_append.mp (pp.mem_iff.mpr z1) with q | q
      · exact pair_app q hyI
      · exact (pair_sorted (srt_pw _) (inH q) hyI hlt).trans (List.sublist_append_right _ _)
    · have := z.length_le
      simp at this
/-- .. and makes no new disorder -/
theorem no_new {xs : List Int} (s : Nat) (hn : xs.Nodup) {x y : Int} (hlt : x < y) (h : List.Sublist [y, x] (outR xs s)) : List.Sublist [y, x] xs := by
  obtain ⟨m1, m2⟩ := pair_mem h
  rcases pair_total (mem_outR.mp m2) (mem_outR.mp m1) (by omega) with z | z
  · exact (pair_asym (outR_nodup s hn) h (keep_order s hlt z)).elim
  · exact z
/-! ### missed items -/
def missL (L : Int) (xs : List Int) : List Int := (xs.zipIdx.filter fun p => (xs.take p.2).any fun y => decide (p.1 / L < y / L)).map (·.1)
theorem missL_snoc (L : Int) (xs : List Int) (x : Int) : missL L (xs ++ [x]) = missL L xs ++ (if (xs.any fun y => decide (x / L < y / L)) = true then [x] else []) := by
  unfold missL
  rw [List.zipIdx_append, List.filter_append, List.map_append]
  congr 1
  · congr 1
    refine List.filter_congr fun p hp => ?_
    have := List.snd_lt_of_mem_zipIdx hp
    rw [List.take_append_of_le_length (by omega)]
  · rw [List.zipIdx_cons, List.zipIdx_nil]
    have e : (xs ++ [x]).take (0 + xs.length) = xs := by rw [Nat.zero_add, List.take_left']; rfl
    by_cases h : (xs.any fun y => decide (x / L < y / L)) = true
    · rw [if_pos h, List.filter_cons_of_pos (by simp only; rw [e]; exact h)]; rfl
    · rw [if_neg h, List.filter_cons_of_neg (by simp only; rw [e]; exact h)]; rfl
theorem mem_missL {L : Int} {xs : List Int} {x : Int} : x ∈ missL L xs ↔ ∃ y, x / L < y / L ∧ List.Sublist [y, x] xs := by
  induction xs using snocRec with
  | h0 => simp [missL]
  | h1 xs w ih =>
    rw [missL_snoc, List.mem_append, ih]
    constructor
    · rintro (⟨y, h1, h2⟩ | h)
      · exact ⟨y, h1, h2.trans (List.sublist_append_left _ _)⟩
      · split at h
        · rename_i hw
          rw [List.mem_singleton] at h
          subst h
          obtain ⟨y, hy, hd⟩ := List.any_eq_true.mp hw
          exact ⟨y, of_decide_eq_true hd, pair_app hy (List.mem_singleton.mpr rfl)⟩
        · cases h
    · rintro ⟨y, h1, h2⟩
      rcases pair_of_app h2 with z | ⟨z1, z2⟩ | z
      · exact .inl ⟨y, h1, z⟩
      · refine .inr ?_
        have : x = w := List.mem_singleton.mp z2
        subst this
        rw [if_pos (List.any_eq_true.mpr ⟨y, z1, decide_eq_true h1⟩)]
        exact List.mem_singleton.mpr rfl
      · have := z.length_le
        simp at this
theorem missL_sub {L : Int} {xs : List Int} : (missL L xs).Sublist xs := by
  unfold missL
  have := (List.filter_sublist (p := fun p : Int × Nat => (xs.take p.2).any fun y => decide (p.1 / L < y / L)) (l := xs.zipIdx)).map (·.1)
  rw [zipIdx_fst'] at this
  exact this
theorem div_lt {L x y : Int} (hL : 0 < L) (h : x / L < y / L) : x < y := by
  refine Int.not_le.mp fun q => ?_
  have := Int.ediv_le_ediv hL q
  omega
theorem missL_mono {L : Int} (hL : 0 < L) {xs : List Int} (hn : xs.Nodup) (s d : Nat) {x : Int} (h : x ∈ missL L (outR xs (s + d))) : x ∈ missL L (outR xs s) := by
  rw [← out_out hn] at h
  obtain ⟨y, h1, h2⟩ := mem_missL.mp h
  exact mem_missL.mpr ⟨y, h1, no_new d (outR_nodup s hn) (div_lt hL h1) h2⟩
theorem missL_srt {L : Int} (hL : 0 < L) {xs : List Int} (hn : xs.Nodup) : missL L (srt xs) = [] := by
  refine List.eq_nil_iff_forall_not_mem.mpr fun x hx => ?_
  obtain ⟨y, h1, h2⟩ := mem_missL.mp hx
  obtain ⟨m1, m2⟩ := pair_mem h2
  exact pair_asym (srt_nodup.mpr hn) h2 (pair_sorted (srt_pw _) m2 m1 (div_lt hL h1))
theorem late_pos {xs : List Int} (hn : xs.Nodup) {x : Int} (hx : x ∈ xs) : 0 < lateI xs x ↔ ∃ y, x < y ∧ List.Sublist [y, x] xs := by
  obtain ⟨l, r, rfl, h1, h2⟩ := split_at hx hn
  have e : lateI (l ++ x :: r) x = gt x l := by
    rw [lateI_right h1]
    have : lateI (x :: r) x = 0 := by unfold lateI; rw [List.idxOf_cons_self]; rfl
    omega
  rw [e]
  constructor
  · intro h
    obtain ⟨y, hy, hlt⟩ := gt_pos h
    exact ⟨y, hlt, pair_app hy List.mem_cons_self⟩
  · rintro ⟨y, hlt, h⟩
    have hyl : y ∈ l := by
      rcases pair_of_app h with z | ⟨z1, z2⟩ | z
      · exact absurd (pair_mem z).2 h1
      · exact z1
      · cases z with
        | cons _ z => exact absurd (pair_mem z).2 h2
        | cons_cons _ z => omega
    unfold gt
    exact List.length_pos_of_mem (List.mem_filter.mpr ⟨hyl, by simpa using hlt⟩)
theorem miss_one {xs : List Int} (hn : xs.Nodup) (s : Nat) : srt (missL 1 (outR xs s)) = (srt xs).filter fun x => decide ((s : Int) < ((lateI xs x : Nat) : Int)) := by
  refine (srt_unique ?_ ((srt_pw xs).sublist (List.filter_sublist))).symm
  rw [List.perm_ext_iff_of_nodup (List.Nodup.sublist List.filter_sublist (srt_nodup.mpr hn)) (missL_sub.nodup (outR_nodup s hn))]
  intro x
  rw [List.mem_filter, mem_srt, mem_missL]
  simp only [Int.ediv_one, decide_eq_true_eq]
  constructor
  · rintro ⟨hx, h⟩
    refine (late_pos (outR_nodup s hn) (mem_outR.mpr hx)).mp ?_
    rw [late_out xs s hn x hx]
    omega
  · rintro ⟨y, h1, h2⟩
    have hx : x ∈ xs := mem_outR.mp (pair_mem h2).2
    have := (late_pos (outR_nodup s hn) (mem_outR.mpr hx)).mpr ⟨y, h1, h2⟩
    rw [late_out xs s hn x hx] at this
    exact ⟨hx, by omega⟩
/-! ### the least size -/
def leastR (xs : List Int) (m : Nat) : Int := ((srt (ltn xs)).reverse[m]?).getD 0
theorem ltn_rng {xs : List Int} {l : Int} (h : l ∈ ltn xs) : 0 ≤ l ∧ l < xs.length := by
  obtain ⟨⟨x, i⟩, hp, rfl⟩ := List.mem_map.mp h
  have h1 := List.snd_lt_of_mem_zipIdx hp
  have h2 := gt_le x (xs.take i)
  rw [List.length_take] at h2
  simp only at h1 ⊢
  omega
theorem leastR_rng (xs : List Int) (m : Nat) : 0 ≤ leastR xs m ∧ leastR xs m ≤ xs.length := by
  unfold leastR
  cases e : (srt (ltn xs)).reverse[m]? with
  | none => simp
  | some l =>
    have := ltn_rng (mem_srt.mp (List.mem_reverse.mp (List.mem_of_getElem? e)))
    rw [Option.getD_some]
    omega
/-- how many are later than z -/
def cntL (xs : List Int) (z : Int) : Nat := ((ltn xs).filter fun l => decide (z < l)).length
theorem cntL_rev (xs : List Int) (z : Int) : cntL xs z = (((srt (ltn xs)).reverse).filter fun l => decide (z < l)).length :=
  (((srt_perm (ltn xs)).symm.trans (List.reverse_perm _).symm).filter _).length_eq
theorem leastR_ok (xs : List Int) (m : Nat) : cntL xs (leastR xs m) ≤ m ∧ ∀ z : Int, z < leastR xs m → 0 ≤ z → m < cntL xs z := by
  have hpw : ((srt (ltn xs)).reverse).Pairwise (fun a b => b ≤ a) := List.pairwise_reverse.mpr (srt_pw _)
  rw [cntL_rev]
  have hlen : ((srt (ltn xs)).reverse).length = xs.length := by rw [List.length_reverse, srt_length, ltn_length]
  have hc : ∀ z, cntL xs z = (((srt (ltn xs)).reverse).filter fun l => decide (z < l)).length := cntL_rev xs
  have hnn : ∀ l ∈ (srt (ltn xs)).reverse, 0 ≤ l := fun l hl => (ltn_rng (mem_srt.mp (List.mem_reverse.mp hl))).1
  unfold leastR
  generalize (srt (ltn xs)).reverse = R at hpw hlen hc hnn
  cases e : R[m]? with
  | none =>
    rw [Option.getD_none]
    have := List.getElem?_eq_none_iff.mp e
    exact ⟨Nat.le_trans (List.length_filter_le _ _) this, fun z h1 h2 => by omega⟩
  | some l =>
    rw [Option.getD_some]
    obtain ⟨hm, el⟩ := List.getElem?_eq_some_iff.mp e
    have split : R = R.take m ++ l :: R.drop (m + 1) := by
      conv => lhs; rw [← List.take_append_drop m R]
      rw [List.drop_eq_getElem_cons hm, el]
    rw [split] at hpw
    obtain ⟨p1, p2, p3⟩ := List.pairwise_append.mp hpw
    rw [List.pairwise_cons] at p2
    constructor
    · rw [split, List.filter_append, List.length_append]
      have : ((l :: R.drop (m + 1)).filter fun x => decide (l < x)) = [] := by
        rw [List.filter_eq_nil_iff]
        intro x hx
        rcases List.mem_cons.mp hx with q | q
        · simp [q]
        · have := p2.1 x q
          simp
          omega
      rw [this]
      have h1 := List.length_filter_le (fun x => decide (l < x)) (R.take m)
      rw [List.length_take] at h1
      simp
      omega
    · intro z hz _
      rw [hc, split, List.filter_append, List.length_append, List.filter_cons_of_pos (by simpa using hz)]
      have : (R.take m).filter (fun x => decide (z < x)) = R.take m := List.filter_eq_self.mpr fun x hx => by
        have := p3 x hx l List.mem_cons_self
        simp
        omega
      rw [this, List.length_take, List.length_cons]
      omega
theorem least_zero {xs : List Int} (hn : xs.Nodup) : outR xs (leastR xs 0).toNat = srt xs := by
  refine (out_sorted hn _).mpr fun l hl => ?_
  have h := (leastR_ok xs 0).1
  have hr := (leastR_rng xs 0).1
  have hl' : l ∈ ltn xs := (ltn_perm hn).mem_iff.mpr hl
  have h0 : (ltn xs).filter (fun l => decide (leastR xs 0 < l)) = [] := List.eq_nil_of_length_eq_zero (by unfold cntL at h; omega)
  have := List.filter_eq_nil_iff.mp h0 l hl'
  simp at this
  omega
end LB
namespace LB
def nwR (L : Int) (xs : List Int) : Int := xs.foldl (fun m y => max m (y / L)) 0
theorem nwR_snoc (L : Int) (xs : List Int) (x : Int) : nwR L (xs ++ [x]) = max (nwR L xs) (x / L) := by unfold nwR; rw [List.foldl_append]; rfl
theorem nwR_lt {L : Int} (hL : 0 < L) (xs : List Int) {x : Int} (hx : 0 ≤ x) : decide (x / L < nwR L xs) = xs.any fun y => decide (x / L < y / L) := by
  induction xs using snocRec with
  | h0 =>
    have : ¬ x / L < nwR L [] := by
      have := Int.ediv_nonneg hx (Int.le_of_lt hL)
      show ¬ x / L < 0
      omega
    rw [decide_eq_false this]
    rfl
  | h1 xs y ih =>
    rw [nwR_snoc, List.any_append, ← ih, Bool.eq_iff_iff]
    simp only [List.any_cons, List.any_nil, Bool.or_false, Bool.or_eq_true, decide_eq_true_eq]
    omega
end LB

set_option autoImplicit false
/-! LB8: strict buffers. -/
namespace LB
def dropR (s : Nat) (xs : List Int) : List Int := xs.filter fun x => decide ((s : Int) < ((lateI xs x : Nat) : Int))
def keptR (s : Nat) (xs : List Int) : List Int := srt (xs.filter fun x => !decide ((s : Int) < ((lateI xs x : Nat) : Int)))
def stS (s : Nat) (st : List Int × List Int × List Int) (x : Int) : List Int × List Int × List Int :=
  if st.1 ≠ [] ∧ x < mxL st.1 then (st.1, st.2.1, st.2.2 ++ [x])
  else if s < (st.2.1 ++ [x]).length then (st.1 ++ [mnL (st.2.1 ++ [x])], (st.2.1 ++ [x]).erase (mnL (st.2.1 ++ [x])), st.2.2)
  else (st.1, st.2.1 ++ [x], st.2.2)
def strictF (s : Nat) (xs : List Int) : List Int × List Int × List Int := xs.foldl (stS s) ([], [], [])
theorem strictF_snoc (s : Nat) (xs : List Int) (x : Int) : strictF s (xs ++ [x]) = stS s (strictF s xs) x := by unfold strictF; rw [List.foldl_append]; rfl
structure StOk (s : Nat) (xs E h D : List Int) : Prop where
  pw : E.Pairwise (· ≤ ·)
  le : ∀ e ∈ E, ∀ y ∈ h, e ≤ y
  len : h.length ≤ s
  full : E ≠ [] → h.length = s
  dr : ∀ d ∈ D, ∃ e ∈ E, d < e
  pm : (E ++ h ++ D).Perm xs
  dE : D = xs.filter fun x => decide ((s : Int) < ((lateI xs x : Nat) : Int))
theorem filter_pre {xs : List Int} {x : Int} (s : Nat) (hx : x ∉ xs) : (xs ++ [x]).filter (fun y => decide ((s : Int) < ((lateI (xs ++ [x]) y : Nat) : Int))) =
    xs.filter (fun y => decide ((s : Int) < ((lateI xs y : Nat) : Int))) ++ (if s < gt x xs then [x] else []) := by
  rw [List.filter_append]
  congr 1
  · exact List.filter_congr fun y hy => by rw [lateI_left hy]
  · have e : lateI (xs ++ [x]) x = gt x xs := by
      rw [lateI_right hx]
      have : lateI [x] x = 0 := lateI_sorted (by simp) x (by simp)
      omega
    by_cases h : s < gt x xs
    · rw [if_pos h, List.filter_cons_of_pos (by rw [e]; simpa using h)]; rfl
    · rw [if_neg h, List.filter_cons_of_neg (by rw [e]; simpa using h)]; rfl
theorem strict_ok (s : Nat) (xs : List Int) (hn : xs.Nodup) : StOk s xs (strictF s xs).1 (strictF s xs).2.1 (strictF s xs).2.2 := by
  induction xs using snocRec with
  | h0 => exact ⟨.nil, (fun e he => nomatch he), Nat.zero_le _, fun h => absurd rfl h, (fun d hd => nomatch hd), List.Perm.refl _, rfl⟩
  | h1 xs x ih =>
    have hn' : xs.Nodup := (List.nodup_append.mp hn).1
    have hx : x ∉ xs := fun h => (List.nodup_append.mp hn).2.2 x h x (List.mem_singleton.mpr rfl) rfl
    have ok := ih hn'
    rw [strictF_snoc]
    generalize strictF s xs = st at ok
    obtain ⟨E, h, D⟩ := st
    dsimp only at ok
    have hmem : ∀ y, y ∈ E ++ h ++ D → y ∈ xs := fun y hy => ok.pm.mem_iff.mp hy
    have hg : gt x xs = gt x E + gt x h + gt x D := by rw [← gt_perm ok.pm, gt_append, gt_append]
    unfold stS
    dsimp only
    by_cases hc : E ≠ [] ∧ x < mxL E
    · rw [if_pos hc]
      have hM := mxL_mem hc.1
      have hgh : gt x h = s := by
        rw [← ok.full hc.1]
        exact gt_all fun y hy => Int.lt_of_lt_of_le hc.2 (ok.le _ hM y hy)
      have hgE : 0 < gt x E := by
        unfold gt
        exact List.length_pos_of_mem (List.mem_filter.mpr ⟨hM, by simpa using hc.2⟩)
      refine ⟨ok.pw, ok.le, ok.len, ok.full, fun d hd => ?_, ?_, ?_⟩
      · rcases List.mem_append.mp hd with z | z
        · exact ok.dr d z
        · rw [List.mem_singleton.mp z]; exact ⟨_, hM, hc.2⟩
      · rw [← List.append_assoc]
        exact ok.pm.append_right _
      · rw [filter_pre s hx, if_pos (by omega), ← ok.dE]
    · rw [if_neg hc]
      -- nothing emitted is greater than x
      have hEx : ∀ e ∈ E, e ≤ x := fun e he => by
        have hne : E ≠ [] := fun q => by rw [q] at he; cases he
        have h1 := mxL_ge he
        have h2 : ¬ x < mxL E := fun q => hc ⟨hne, q⟩
        omega
      have hgE : gt x E = 0 := gt_zero hEx
      have hgD : gt x D = 0 := gt_zero fun d hd => by
        obtain ⟨e, he, hl⟩ := ok.dr d hd
        have := hEx e he
        omega
      have hgh := gt_le x h
      have hlen := ok.len
      have hd : D = (xs ++ [x]).filter fun y => decide ((s : Int) < ((lateI (xs ++ [x]) y : Nat) : Int)) := by
        rw [filter_pre s hx, if_neg (by omega), List.append_nil]
        exact ok.dE
      have hlx : ∀ e ∈ E, ∀ y ∈ h ++ [x], e ≤ y := fun e he y hy => by
        rcases List.mem_append.mp hy with z | z
        · exact ok.le e he y z
        · rw [List.mem_singleton.mp z]; exact hEx e he
      by_cases hk : s < (h ++ [x]).length
      · rw [if_pos hk]
        have hne : h ++ [x] ≠ [] := by simp
        have hm := mnL_mem hne
        have hl1 : (h ++ [x]).length = h.length + 1 := by simp
        have hle2 : ((h ++ [x]).erase (mnL (h ++ [x]))).length = h.length := by rw [List.length_erase_of_mem hm, hl1]; rfl
        refine ⟨?_, fun e he y hy => ?_, by dsimp only; omega, fun _ => by dsimp only; omega, fun d hd => ?_, ?_, hd⟩
        · rw [List.pairwise_append]
          exact ⟨ok.pw, by simp, fun e he y hy => by rw [List.mem_singleton.mp hy]; exact hlx e he _ hm⟩
        · have hy' := List.mem_of_mem_erase hy
          rcases List.mem_append.mp he with z | z
          · exact hlx e z y hy'
          · rw [List.mem_singleton.mp z]; exact mnL_le hy'
        · obtain ⟨e, he, hl⟩ := ok.dr d hd
          exact ⟨e, List.mem_append_left _ he, hl⟩
        · have p1 : ([mnL (h ++ [x])] ++ (h ++ [x]).erase (mnL (h ++ [x]))).Perm (h ++ [x]) := (List.perm_cons_erase hm).symm
          have p2 : (E ++ [mnL (h ++ [x])] ++ (h ++ [x]).erase (mnL (h ++ [x])) ++ D).Perm (E ++ (h ++ [x]) ++ D) := by
            rw [List.append_assoc E]
            exact (p1.append_left E).append_right D
          refine p2.trans ?_
          have p3 : (E ++ (h ++ [x]) ++ D).Perm (E ++ h ++ D ++ [x]) := by
            rw [← List.append_assoc E, List.append_assoc (E ++ h), List.append_assoc (E ++ h)]
            exact List.Perm.append_left _ List.perm_append_comm
          exact p3.trans (ok.pm.append_right _)
      · rw [if_neg hk]
        have hl1 : (h ++ [x]).length = h.length + 1 := by simp
        refine ⟨ok.pw, hlx, by dsimp only; omega, fun hne => ?_, ok.dr, ?_, hd⟩
        · have := ok.full hne
          omega
        · have p3 : (E ++ (h ++ [x]) ++ D).Perm (E ++ h ++ D ++ [x]) := by
            rw [← List.append_assoc E, List.append_assoc (E ++ h), List.append_assoc (E ++ h)]
            exact List.Perm.append_left _ List.perm_append_comm
          exact p3.trans (ok.pm.append_right _)
theorem filter_perm (p : Int → Bool) (xs : List Int) : (xs.filter p ++ xs.filter fun x => !p x).Perm xs := by
  induction xs with
  | nil => exact List.Perm.refl _
  | cons x xs ih =>
    by_cases h : p x = true
    · rw [List.filter_cons_of_pos h, List.filter_cons_of_neg (by simp [h])]
      exact ih.cons x
    · rw [List.filter_cons_of_neg h, List.filter_cons_of_pos (by simp [h])]
      exact List.perm_middle.trans (ih.cons x)
/-- what a strict buffer gives -/
theorem strict_all {s : Nat} {xs : List Int} (hn : xs.Nodup) : (strictF s xs).1 ++ srt (strictF s xs).2.1 = keptR s xs ∧ (strictF s xs).2.2 = dropR s xs := by
  have ok := strict_ok s xs hn
  refine ⟨?_, ok.dE⟩
  unfold keptR
  refine srt_unique ?_ ?_
  · have p1 : ((strictF s xs).1 ++ srt (strictF s xs).2.1).Perm ((strictF s xs).1 ++ (strictF s xs).2.1) := List.Perm.append_left _ (srt_perm _)
    refine p1.trans ?_
    have p2 : ((strictF s xs).1 ++ (strictF s xs).2.1 ++ (strictF s xs).2.2).Perm ((xs.filter fun x => !decide ((s : Int) < ((lateI xs x : Nat) : Int))) ++ (strictF s xs).2.2) := by
      refine ok.pm.trans ?_
      rw [ok.dE]
      exact ((filter_perm _ xs).symm).trans List.perm_append_comm
    exact (List.perm_append_right_iff _).mp p2
  · rw [List.pairwise_append]
    exact ⟨ok.pw, srt_pw _, fun e he y hy => ok.le e he y (mem_srt.mp hy)⟩
theorem strict_len {s : Nat} {xs : List Int} (hn : xs.Nodup) : (strictF s xs).2.1.length ≤ s ∧ (strictF s xs).1.length + (strictF s xs).2.1.length + (strictF s xs).2.2.length = xs.length := by
  have ok := strict_ok s xs hn
  have := ok.pm.length_eq
  simp only [List.length_append] at this
  exact ⟨ok.len, this⟩
/-! counting drops -/
theorem drop_cnt {s : Nat} {xs : List Int} (hn : xs.Nodup) : (dropR s xs).length = cntL xs (s : Int) := by
  unfold dropR cntL
  rw [ltn_eq hn, List.filter_map, List.length_map]
  rfl
/-- the least of the sizes that drop no more than m -/
theorem least_min {xs : List Int} (hl : xs.length ≤ 40) (m : Nat) : mnL (((List.range 41).filter fun z => decide (cntL xs ((z : Nat) : Int) ≤ m)).map fun z => ((z : Nat) : Int)) = leastR xs m := by
  have h1 := leastR_ok xs m
  have h2 := leastR_rng xs m
  refine (mnL_unique ?_ ?_).symm
  · refine List.mem_map.mpr ⟨(leastR xs m).toNat, List.mem_filter.mpr ⟨List.mem_range.mpr (by omega), ?_⟩, Int.toNat_of_nonneg h2.1⟩
    rw [Int.toNat_of_nonneg h2.1]
    exact decide_eq_true h1.1
  · intro y hy
    obtain ⟨z, hz, rfl⟩ := List.mem_map.mp hy
    have hz2 := of_decide_eq_true (List.mem_filter.mp hz).2
    refine Int.not_lt.mp fun q => ?_
    have := h1.2 (z : Int) q (Int.natCast_nonneg _)
    omega
end LB
namespace LB
theorem drop_zip {s : Nat} {xs : List Int} (hn : xs.Nodup) : ((xs.zip (ltn xs)).filter fun p => decide ((s : Int) < p.2)).map (·.1) = dropR s xs := by
  rw [ltn_eq hn]
  unfold dropR
  have : xs.zip (xs.map fun x => ((lateI xs x : Nat) : Int)) = xs.map fun x => (x, ((lateI xs x : Nat) : Int)) := by
    have key : ∀ (l : List Int) (f : Int → Int), l.zip (l.map f) = l.map fun x => (x, f x) := fun l f => by
      induction l with
      | nil => rfl
      | cons a l ih => rw [List.map_cons, List.zip_cons_cons, ih, List.map_cons]
    exact key xs _
  rw [this, List.filter_map, List.map_map]
  exact List.map_id' _
theorem drop_not {s : Nat} {xs : List Int} : (xs.filter fun y => !decide (y ∈ dropR s xs)) = xs.filter fun x => !decide ((s : Int) < ((lateI xs x : Nat) : Int)) := by
  refine List.filter_congr fun y hy => ?_
  congr 1
  unfold dropR
  rw [Bool.eq_iff_iff]
  simp [hy]
end LB

set_option autoImplicit false
/-! LB9: watermark buffers. -/
namespace LB
def wmS (w : Int) (xs : List Int) : List Int × List Int × Int :=
  xs.foldl (fun st x => (st.1 ++ (srt (st.2.1 ++ [x])).filter (fun y => decide (y ≤ max st.2.2 x - w)), (srt (st.2.1 ++ [x])).filter (fun y => decide (max st.2.2 x - w < y)), max st.2.2 x)) ([], [], -1)
def wmR (xs : List Int) (w : Int) : List Int := (wmS w xs).1 ++ (wmS w xs).2.1
theorem wmS_snoc (w : Int) (xs : List Int) (x : Int) : wmS w (xs ++ [x]) = ((wmS w xs).1 ++ (srt ((wmS w xs).2.1 ++ [x])).filter (fun y => decide (y ≤ max (wmS w xs).2.2 x - w)), (srt ((wmS w xs).2.1 ++ [x])).filter (fun y => decide (max (wmS w xs).2.2 x - w < y)), max (wmS w xs).2.2 x) := by unfold wmS; rw [List.foldl_append]; rfl
theorem sorted_split {l : List Int} (c : Int) (h : l.Pairwise (· ≤ ·)) : l.filter (fun y => decide (y ≤ c)) ++ l.filter (fun y => decide (c < y)) = l := by
  induction l with
  | nil => rfl
  | cons a l ih =>
    rw [List.pairwise_cons] at h
    by_cases ha : a ≤ c
    · rw [List.filter_cons_of_pos (by simpa using ha), List.filter_cons_of_neg (by simp; omega), List.cons_append, ih h.2]
    · have h0 : l.filter (fun y => decide (y ≤ c)) = [] := List.filter_eq_nil_iff.mpr fun y hy => by
        have := h.1 y hy
        simp
        omega
      have h1 : l.filter (fun y => decide (c < y)) = l := List.filter_eq_self.mpr fun y hy => by
        have := h.1 y hy
        simp
        omega
      rw [List.filter_cons_of_neg (by simpa using ha), List.filter_cons_of_pos (by simp; omega), h0, h1]
      rfl
theorem wmR_snoc (xs : List Int) (x w : Int) : wmR (xs ++ [x]) w = (wmS w xs).1 ++ srt ((wmS w xs).2.1 ++ [x]) := by
  unfold wmR
  rw [wmS_snoc, List.append_assoc, sorted_split _ (srt_pw _)]
structure WmOk (w : Int) (xs E h : List Int) (M : Int) : Prop where
  pw : h.Pairwise (· ≤ ·)
  pm : (E ++ h).Perm xs
  lo : ∀ e ∈ E, e ≤ M - w
  hi : ∀ y ∈ h, M - w < y
  mx : M = mxL (-1 :: xs)
theorem mx_snoc (xs : List Int) (x : Int) : mxL (-1 :: (xs ++ [x])) = max (mxL (-1 :: xs)) x := by
  refine (mxL_unique ?_ ?_).symm
  · have h1 := mxL_mem (ns := -1 :: xs) (by simp)
    by_cases h : x ≤ mxL (-1 :: xs)
    · rw [Int.max_eq_left h]
      rcases List.mem_cons.mp h1 with z | z
      · rw [z]; exact List.mem_cons_self
      · exact List.mem_cons_of_mem _ (List.mem_append_left _ z)
    · rw [Int.max_eq_right (by omega)]
      exact List.mem_cons_of_mem _ (List.mem_append_right _ (List.mem_singleton.mpr rfl))
  · intro y hy
    rcases List.mem_cons.mp hy with z | z
    · have := mxL_ge (ns := -1 :: xs) (x := -1) List.mem_cons_self
      omega
    · rcases List.mem_append.mp z with q | q
      · have := mxL_ge (List.mem_cons_of_mem (-1) q)
        omega
      · rw [List.mem_singleton.mp q]; omega
theorem wm_ok (w : Int) (hw : 0 ≤ w) (xs : List Int) : WmOk w xs (wmS w xs).1 (wmS w xs).2.1 (wmS w xs).2.2 := by
  induction xs using snocRec with
  | h0 => exact ⟨.nil, List.Perm.refl _, (fun e he => nomatch he), (fun y hy => nomatch hy), rfl⟩
  | h1 xs x ih =>
    rw [wmS_snoc]
    generalize wmS w xs = st at ih
    obtain ⟨E, h, M⟩ := st
    dsimp only at ih ⊢
    refine ⟨(srt_pw _).sublist List.filter_sublist, ?_, fun e he => ?_, fun y hy => ?_, ?_⟩
    · rw [List.append_assoc, sorted_split _ (srt_pw _)]
      refine (List.Perm.append_left _ (srt_perm _)).trans ?_
      rw [← List.append_assoc]
      exact ih.pm.append_right _
    · rcases List.mem_append.mp he with z | z
      · have := ih.lo e z
        omega
      · exact of_decide_eq_true (List.mem_filter.mp z).2
    · exact of_decide_eq_true (List.mem_filter.mp hy).2
    · rw [mx_snoc, ← ih.mx]
theorem wmR_perm (xs : List Int) {w : Int} (hw : 0 ≤ w) : (wmR xs w).Perm xs := (wm_ok w hw xs).pm
theorem wmR_nodup {xs : List Int} {w : Int} (hw : 0 ≤ w) (hn : xs.Nodup) : (wmR xs w).Nodup := (wmR_perm xs hw).nodup_iff.mpr hn
/-- the lateness that is left -/
def lateW2 (xs : List Int) (w x : Int) : Nat := ((xs.take (xs.idxOf x)).filter fun y => decide (x < y) && decide (y ≤ mxL (-1 :: xs.take (xs.idxOf x)) - w)).length
theorem take_idx {xs : List Int} {y : Int} (b : List Int) (h : y ∈ xs) : (xs ++ b).take ((xs ++ b).idxOf y) = xs.take (xs.idxOf y) := by
  rw [List.idxOf_append, if_pos h]
  exact List.take_append_of_le_length (Nat.le_of_lt (List.idxOf_lt_length_iff.mpr h))
theorem take_new {xs : List Int} {x : Int} (h : x ∉ xs) : (xs ++ [x]).take ((xs ++ [x]).idxOf x) = xs := by
  rw [List.idxOf_append, if_neg h, List.idxOf_cons_self, Nat.zero_add, List.take_left']
  rfl
theorem late_wm (xs : List Int) {w : Int} (hw : 0 ≤ w) (hn : xs.Nodup) : ∀ x ∈ xs, lateI (wmR xs w) x = lateW2 xs w x := by
  induction xs using snocRec with
  | h0 => intro x hx; cases hx
  | h1 xs x ih =>
    have hn' : xs.Nodup := (List.nodup_append.mp hn).1
    have hx : x ∉ xs := fun h => (List.nodup_append.mp hn).2.2 x h x (List.mem_singleton.mpr rfl) rfl
    have ok := wm_ok w hw xs
    have ih' := ih hn'
    unfold wmR at ih'
    rw [wmR_snoc]
    generalize wmS w xs = st at ok ih'
    obtain ⟨E, h, M⟩ := st
    dsimp only at ok ih' ⊢
    have nd : (E ++ h).Nodup := ok.pm.nodup_iff.mpr hn'
    intro y hy
    rcases List.mem_append.mp hy with z | z
    · have e1 : lateW2 (xs ++ [x]) w y = lateW2 xs w y := by
        unfold lateW2
        rw [take_idx _ z]
      rw [e1, ← ih' y z]
      rcases List.mem_append.mp (ok.pm.mem_iff.mpr z) with q | q
      · rw [lateI_left q, lateI_left q]
      · have hno : y ∉ E := fun u => (List.nodup_append.mp nd).2.2 y u y q rfl
        rw [lateI_right hno, lateI_right hno, lateI_srt _ _ (List.mem_append_left _ q), lateI_sorted ok.pw _ q]
    · rw [List.mem_singleton] at z
      subst z
      have hno : y ∉ E := fun q => hx (ok.pm.mem_iff.mp (List.mem_append_left _ q))
      rw [lateI_right hno, lateI_srt _ _ (List.mem_append_right _ (List.mem_singleton.mpr rfl)), Nat.add_zero]
      unfold lateW2
      rw [take_new hx, ← ok.mx]
      unfold gt
      have p := (ok.pm.filter fun u => decide (y < u) && decide (u ≤ M - w)).length_eq
      rw [← p, List.filter_append, List.length_append]
      have h0 : (h.filter fun u => decide (y < u) && decide (u ≤ M - w)) = [] := List.filter_eq_nil_iff.mpr fun u hu => by
        have := ok.hi u hu
        simp
        omega
      rw [h0]
      have h1 : (E.filter fun u => decide (y < u) && decide (u ≤ M - w)) = E.filter fun u => decide (y < u) := List.filter_congr fun u hu => by
        have := ok.lo u hu
        simp [this]
      rw [h1]
      rfl
theorem filter_len_mono {p q : Int → Bool} (l : List Int) (h : ∀ x ∈ l, p x = true → q x = true) : (l.filter p).length ≤ (l.filter q).length := by
  induction l with
  | nil => exact Nat.le_refl _
  | cons a l ih =>
    have ih' := ih fun x hx => h x (List.mem_cons_of_mem _ hx)
    by_cases hp : p a = true
    · rw [List.filter_cons_of_pos hp, List.filter_cons_of_pos (h a List.mem_cons_self hp), List.length_cons, List.length_cons]
      omega
    · rw [List.filter_cons_of_neg hp]
      by_cases hq : q a = true
      · rw [List.filter_cons_of_pos hq, List.length_cons]; omega
      · rw [List.filter_cons_of_neg hq]; exact ih'
theorem lateW2_mono (xs : List Int) {w v : Int} (h : w ≤ v) (x : Int) : lateW2 xs v x ≤ lateW2 xs w x := by
  unfold lateW2
  refine filter_len_mono _ fun y _ hy => ?_
  simp only [Bool.and_eq_true, decide_eq_true_eq] at hy ⊢
  omega
theorem sum_mono {α : Type} (l : List α) {f g : α → Int} (h : ∀ x ∈ l, f x ≤ g x) : (l.map f).sum ≤ (l.map g).sum := by
  induction l with
  | nil => exact Int.le_refl _
  | cons a l ih =>
    simp only [List.map_cons, List.sum_cons]
    have := h a List.mem_cons_self
    have := ih fun x hx => h x (List.mem_cons_of_mem _ hx)
    omega
theorem ages_wm {xs : List Int} {w : Int} (hw : 0 ≤ w) (hn : xs.Nodup) : ages (wmR xs w) = (srt xs).map fun x => ((lateW2 xs w x : Nat) : Int) := by
  unfold ages
  rw [srt_congr (wmR_perm xs hw)]
  exact List.map_congr_left fun x hx => by rw [late_wm xs hw hn x (mem_srt.mp hx)]
theorem wm_sum_mono {xs : List Int} {w v : Int} (hw : 0 ≤ w) (h : w ≤ v) (hn : xs.Nodup) : (ages (wmR xs v)).sum ≤ (ages (wmR xs w)).sum := by
  rw [ages_wm (by omega) hn, ages_wm hw hn]
  refine sum_mono _ fun x _ => ?_
  have := lateW2_mono xs h x
  omega
theorem wm_sorted {xs : List Int} {w : Int} (hw : 0 ≤ w) (hn : xs.Nodup) : wmR xs w = srt xs ↔ ∀ x ∈ xs, lateW2 xs w x = 0 := by
  constructor
  · intro h x hx
    rw [← late_wm xs hw hn x hx, h, lateI_srt xs x hx]
  · intro h
    refine late_eq ((wmR_perm xs hw).trans (srt_perm xs).symm) (wmR_nodup hw hn) fun x hx => ?_
    have hx' := (wmR_perm xs hw).mem_iff.mp hx
    rw [late_wm xs hw hn x hx', lateI_srt xs x hx', h x hx']
/-! the least width -/
def newW (pre : List Int) (x : Int) : List Int := pre.filter fun y => decide (x < y)
def lwR (xs : List Int) : Int := xs.zipIdx.foldl (fun w p => if newW (xs.take p.2) p.1 = [] then w else max w (mxL (newW (xs.take p.2) p.1) - mnL (newW (xs.take p.2) p.1) + 1)) 0
end LB
namespace LB
def lwF (xs : List Int) (ps : List (Int × Nat)) : Int := ps.foldl (fun w p => if newW (xs.take p.2) p.1 = [] then w else max w (mxL (newW (xs.take p.2) p.1) - mnL (newW (xs.take p.2) p.1) + 1)) 0
theorem lwF_snoc (xs : List Int) (ps : List (Int × Nat)) (p : Int × Nat) : lwF xs (ps ++ [p]) = if newW (xs.take p.2) p.1 = [] then lwF xs ps else max (lwF xs ps) (mxL (newW (xs.take p.2) p.1) - mnL (newW (xs.take p.2) p.1) + 1) := by unfold lwF; rw [List.foldl_append]; rfl
theorem lwF_le (xs : List Int) (ps : List (Int × Nat)) (w : Int) (hw : 0 ≤ w) : lwF xs ps ≤ w ↔ ∀ p ∈ ps, newW (xs.take p.2) p.1 = [] ∨ mxL (newW (xs.take p.2) p.1) - mnL (newW (xs.take p.2) p.1) + 1 ≤ w := by
  induction ps using snocRec with
  | h0 => exact ⟨fun _ p hp => (nomatch hp), fun _ => hw⟩
  | h1 ps p ih =>
    rw [lwF_snoc]
    constructor
    · intro h q hq
      rcases List.mem_append.mp hq with z | z
      · refine ih.mp ?_ q z
        split at h
        · exact h
        · omega
      · rw [List.mem_singleton.mp z]
        split at h
        · rename_i e; exact .inl e
        · exact .inr (by omega)
    · intro h
      have h1 := ih.mpr fun q hq => h q (List.mem_append_left _ hq)
      split
      · exact h1
      · rename_i e
        have := (h p (List.mem_append_right _ (List.mem_singleton.mpr rfl))).resolve_left e
        omega
theorem lwF_nonneg (xs : List Int) (ps : List (Int × Nat)) : 0 ≤ lwF xs ps := by
  induction ps using snocRec with
  | h0 => exact Int.le_refl _
  | h1 ps p ih => rw [lwF_snoc]; split <;> omega
theorem mem_newW {P : List Int} {x y : Int} : y ∈ newW P x ↔ y ∈ P ∧ x < y := by unfold newW; rw [List.mem_filter, decide_eq_true_eq]
theorem newW_facts {P : List Int} {x : Int} (hN : newW P x ≠ []) : ∃ mx mn : Int, mxL (newW P x) = mx ∧ mnL (newW P x) = mn ∧ mx ∈ P ∧ x < mx ∧ mn ∈ P ∧ x < mn ∧ ∀ y ∈ P, x < y → mn ≤ y ∧ y ≤ mx := by
  obtain ⟨h1, h2⟩ := mem_newW.mp (mxL_mem hN)
  obtain ⟨h3, h4⟩ := mem_newW.mp (mnL_mem hN)
  exact ⟨_, _, rfl, rfl, h1, h2, h3, h4, fun y hy hxy => ⟨mnL_le (mem_newW.mpr ⟨hy, hxy⟩), mxL_ge (mem_newW.mpr ⟨hy, hxy⟩)⟩⟩
theorem lateW2_zero {xs : List Int} (hn : xs.Nodup) {x : Int} {i : Nat} {w : Int} (hx0 : 0 ≤ x) (h : xs[i]? = some x) : lateW2 xs w x = 0 ↔ newW (xs.take i) x = [] ∨ mxL (newW (xs.take i) x) - mnL (newW (xs.take i) x) + 1 ≤ w := by
  unfold lateW2
  rw [idx_nodup hn h]
  generalize xs.take i = P
  by_cases hN : newW P x = []
  · refine ⟨fun _ => .inl hN, fun _ => ?_⟩
    have : (P.filter fun y => decide (x < y) && decide (y ≤ mxL (-1 :: P) - w)) = [] := List.filter_eq_nil_iff.mpr fun y hy => by
      have : ¬ x < y := fun q => by
        have := mem_newW.mpr ⟨hy, q⟩
        rw [hN] at this
        cases this
      simp
      omega
    rw [this]
    rfl
  · obtain ⟨mx, mn, e1, e2, f1, f2, f3, f4, f5⟩ := newW_facts hN
    rw [e1, e2]
    have hge := mxL_ge (List.mem_cons_of_mem (-1) f1)
    have hM : mxL (-1 :: P) = mx ∨ mxL (-1 :: P) = -1 := by
      rcases List.mem_cons.mp (mxL_mem (ns := -1 :: P) (by simp)) with z | z
      · exact .inr z
      · left
        have := (f5 _ z (by omega)).2
        omega
    have hle := (f5 mn f3 f4).2
    constructor
    · intro h
      refine .inr ?_
      have he := List.eq_nil_of_length_eq_zero h
      have := List.filter_eq_nil_iff.mp he mn f3
      simp [f4] at this
      omega
    · rintro (q | q)
      · exact absurd q hN
      · have : (P.filter fun y => decide (x < y) && decide (y ≤ mxL (-1 :: P) - w)) = [] := List.filter_eq_nil_iff.mpr fun y hy => by
          simp
          intro hxy
          have h1 := f5 y hy hxy
          have h2 := mxL_ge (List.mem_cons_of_mem (-1) hy)
          have hq : mx - mn + 1 ≤ w := q
          have h6 := f2
          rcases hM with z | z <;> omega
        rw [this]
        rfl
theorem lw_ok {xs : List Int} (V : VS xs) {w : Int} (hw : 0 ≤ w) : wmR xs w = srt xs ↔ lwF xs xs.zipIdx ≤ w := by
  have hn := V.nd
  rw [wm_sorted hw hn, lwF_le xs _ w hw]
  constructor
  · rintro h ⟨x, i⟩ hp
    have hx : xs[i]? = some x := List.mem_zipIdx_iff_getElem?.mp hp
    exact (lateW2_zero hn (V.rng _ (List.mem_of_getElem? hx)).1 hx).mp (h x (List.mem_of_getElem? hx))
  · intro h x hx
    obtain ⟨i, hi, rfl⟩ := List.getElem_of_mem hx
    have hx' := List.getElem?_eq_getElem hi
    exact (lateW2_zero hn (V.rng _ (List.mem_of_getElem? hx')).1 hx').mpr (h (xs[i], i) (List.mem_zipIdx_iff_getElem?.mpr hx'))
theorem lw_le {xs : List Int} (V : VS xs) : lwF xs xs.zipIdx ≤ 1000000 := by
  refine (lwF_le xs _ _ (by decide)).mpr fun p hp => ?_
  by_cases hN : newW (xs.take p.2) p.1 = []
  · exact .inl hN
  · refine .inr ?_
    have hx : xs[p.2]? = some p.1 := List.mem_zipIdx_iff_getElem?.mp hp
    have h0 := V.rng p.1 (List.mem_of_getElem? hx)
    obtain ⟨mx, mn, e1, e2, f1, f2, f3, f4, f5⟩ := newW_facts hN
    have h3 := V.rng _ (List.mem_of_mem_take f1)
    omega
theorem lwF_take (xs : List Int) : lwR xs = lwF xs xs.zipIdx := rfl
end LB

set_option Elab.async false
set_option linter.all false
set_option maxRecDepth 100000
set_option autoImplicit false
/-! PR: what each def promises. -/
namespace DL
open PySem PySem.Spec PyProof.Rows L2 LB
abbrev iT (xs : List Int) : Pd := .tuple (xs.map .int)
abbrev iL (xs : List Int) : Pd := .list (xs.map .int)
abbrev p_is_integer : RR := rP fun ds r => ∃ d, ds = [d] ∧ r = .d (.bool (isInt d))
abbrev p_in_range : RR := rP fun ds r => ∃ v l h : Int, ds = [.int v, .int l, .int h] ∧ r = .d (.bool (decide (l ≤ v) && decide (v ≤ h)))
abbrev p_is_item : RR := rP fun ds r => ∃ v : Int, ds = [.int v] ∧ r = .d (.bool (decide (0 ≤ v) && decide (v ≤ 1000000)))
abbrev p_is_stream : RR := rP fun ds r => ∃ xs, VS xs ∧ ds = [iT xs] ∧ r = .d (.bool true)
abbrev p_check_stream : RR := rP fun ds r => ∃ xs, VS xs ∧ ds = [iT xs] ∧ r = .d .none
abbrev p_check_size : RR := rP fun ds r => ∃ s : Nat, s ≤ 40 ∧ ds = [.int s] ∧ r = .d .none
abbrev p_check_both : RR := rP fun ds r => ∃ xs, ∃ s : Nat, VS xs ∧ s ≤ 40 ∧ ds = [iT xs, .int s] ∧ r = .d .none
abbrev p_lateness_of : RR := rP fun ds r => ∃ xs : List Int, xs.length ≤ 1000 ∧ ds = [iT xs] ∧ r = .d (iL (ltn xs))
abbrev p_pass_through : RR := rP fun ds r => ∃ xs : List Int, ∃ s : Nat, xs.length ≤ 1000 ∧ ds = [iT xs, .int s] ∧ r = .d (.list ((passR xs s).map iL))
abbrev p_output_of : RR := rP fun ds r => ∃ xs : List Int, ∃ s : Nat, xs.length ≤ 1000 ∧ ds = [iT xs, .int s] ∧ r = .d (iT (outR xs s))
abbrev p_output : RR := rP fun ds r => ∃ xs : List Int, ∃ s : Nat, VS xs ∧ s ≤ 40 ∧ ds = [iT xs, .int s] ∧ r = .d (iT (outR xs s))
abbrev p_saved : RR := rP fun ds r => ∃ xs : List Int, ∃ s : Nat, VS xs ∧ s ≤ 40 ∧ ds = [iT xs, .int s] ∧ r = .d (.int ((ltn xs).map fun l => min l (s : Int)).sum)
/-! ### the laws' helpers -/
def bgO (b : Bag) : Ow := .lst [.int b.1, .int b.2.1, .int b.2.2]
/-- a def that draws from the bag: cost draws at most -/
abbrev rBag (cost : Nat) (f : List Pd → Bag → Pd → Bag → Prop) : RR := rB fun o ds r o' => ∃ (n : Nat) (b : Bag) (d : Pd) (b' : Bag), okB (n + cost) b ∧ f ds b d b' ∧ o = bgO b ∧ r = .d d ∧ o' = bgO b'
abbrev p__law_well : RR := rP rWell
abbrev p__law_take : RR := rBag 1 fun ds b d b' => ∃ m : Int, 0 < m ∧ m < 2 ^ 300 ∧ ds = [.int m] ∧ d = .int (takeR b m) ∧ b' = takeB b m
open Classical in
/-- the same, types and all -/
noncomputable def sm (a b : Pd) : Bool := decide (a = b)
abbrev p_same (n : Nat) : RR := rP fun ds r => ∃ a b, ds = [a, b] ∧ Sh n a ∧ Sh n b ∧ r = .d (.bool (sm a b))
theorem sh_list_inv {n : Nat} {ds : List Pd} (h : Sh n (.list ds)) : ∃ m, n = m + 1 ∧ ∀ d ∈ ds, Sh m d := by
  obtain ⟨h1, h2⟩ := h
  simp only [PyData.canLay0] at h1
  simp only [PyData.depth] at h2
  obtain ⟨m, rfl⟩ : ∃ m, n = m + 1 := ⟨n - 1, by omega⟩
  refine ⟨m, rfl, ?_⟩
  have h3 : PyData.depthAll ds ≤ m := by omega
  clear h2
  induction ds with
  | nil => intro d hd; cases hd
  | cons e ds ih =>
    simp only [PyData.canLayAll0, Bool.and_eq_true] at h1
    simp only [PyData.depthAll] at h3
    intro d hd
    rcases List.mem_cons.mp hd with rfl | hd
    · exact ⟨h1.1, by omega⟩
    · exact ih h1.2 (by omega) d hd
theorem sh_tuple_inv {n : Nat} {ds : List Pd} (h : Sh n (.tuple ds)) : ∃ m, n = m + 1 ∧ ∀ d ∈ ds, Sh m d := by
  refine sh_list_inv (ds := ds) ⟨?_, ?_⟩
  · have := h.1
    simp only [PyData.canLay0] at this ⊢
    exact this
  · have := h.2
    simp only [PyData.depth] at this ⊢
    exact this
theorem sm_list (xs ys : List Pd) : sm (.list xs) (.list ys) = (decide ((xs.length : Int) = ys.length) && (xs.zip ys).all fun p => sm p.1 p.2) := by
  have key : ∀ xs ys : List Pd, (xs = ys) ↔ ((xs.length : Int) = ys.length ∧ ∀ p ∈ xs.zip ys, p.1 = p.2) := fun xs => by
    induction xs with
    | nil =>
      intro ys
      cases ys with
      | nil => simp
      | cons y ys => simp; omega
    | cons x xs ih =>
      intro ys
      cases ys with
      | nil => simp; omega
      | cons y ys =>
        rw [List.cons.injEq, ih ys]
        simp only [List.length_cons, List.zip_cons_cons, List.mem_cons, forall_eq_or_imp]
        constructor
        · rintro ⟨rfl, h1, h2⟩
          exact ⟨by omega, rfl, h2⟩
        · rintro ⟨h1, h2, h3⟩
          exact ⟨h2, by omega, h3⟩
  unfold sm
  rw [Bool.eq_iff_iff]
  simp only [decide_eq_true_eq, Bool.and_eq_true, List.all_eq_true, PyData.list.injEq]
  exact key xs ys
theorem sm_tuple (xs ys : List Pd) : sm (.tuple xs) (.tuple ys) = (decide ((xs.length : Int) = ys.length) && (xs.zip ys).all fun p => sm p.1 p.2) := by
  rw [← sm_list]
  unfold sm
  rw [Bool.eq_iff_iff]
  simp only [decide_eq_true_eq, PyData.list.injEq, PyData.tuple.injEq]
theorem same_fin {a b : Pd} (h1 : ((isI "list" a && isI "list" b) || (isI "tuple" a && isI "tuple" b)) = false) (ha : tyN a ≠ "dict") (hb : tyN b ≠ "dict") :
    (isAny ["bool", "list", "tuple"] a || isAny ["bool", "list", "tuple"] b) = true → (isI "bool" a && (isI "bool" b && sm a b)) = sm a b := by
  intro h2
  cases a <;> cases b <;> first | (exact absurd rfl ha) | (exact absurd rfl hb) | (simp [isI, isAny, tyN, sm] at h1 h2 ⊢)
theorem same_fin2 {a b : Pd} (h2 : (isAny ["bool", "list", "tuple"] a || isAny ["bool", "list", "tuple"] b) = false) (ha : tyN a ≠ "dict") (hb : tyN b ≠ "dict") :
    (isI "int" a || isI "int" b) = true → (isI "int" a && (isI "int" b && sm a b)) = sm a b := by
  intro h3
  cases a <;> cases b <;> first | (exact absurd rfl ha) | (exact absurd rfl hb) | (simp [isI, isAny, tyN, sm] at h2 h3 ⊢)
theorem same_fin3 {a b : Pd} (h2 : (isAny ["bool", "list", "tuple"] a || isAny ["bool", "list", "tuple"] b) = false) (h3 : (isI "int" a || isI "int" b) = false) (ha : tyN a ≠ "dict") (hb : tyN b ≠ "dict") :
    (isI "str" a || isI "str" b) = true → (isI "str" a && (isI "str" b && sm a b)) = sm a b := by
  intro h4
  cases a <;> cases b <;> first | (exact absurd rfl ha) | (exact absurd rfl hb) | (simp [isI, isAny, tyN, sm] at h2 h3 h4 ⊢)
theorem same_fin4 {a b : Pd} (h2 : (isAny ["bool", "list", "tuple"] a || isAny ["bool", "list", "tuple"] b) = false) (h3 : (isI "int" a || isI "int" b) = false) (h4 : (isI "str" a || isI "str" b) = false) (ha : tyN a ≠ "dict") (hb : tyN b ≠ "dict") :
    (isNn a && isNn b) = sm a b := by
  cases a <;> cases b <;> first | (exact absurd rfl ha) | (exact absurd rfl hb) | (simp [isI, isAny, tyN, sm, isNn] at h2 h3 h4 ⊢)
theorem same_eqv {T : String} {a b : Pd} (hT : T = "bool" ∨ T = "str") (h1 : isI T a = true) (h2 : isI T b = true) (ha : tyN a ≠ "dict") (hb : tyN b ≠ "dict") : PyData.eqv a b = sm a b := by
  rcases hT with rfl | rfl <;> cases a <;> cases b <;> first | (exact absurd rfl ha) | (exact absurd rfl hb) | (simp [isI, tyN] at h1 h2; done) | (simp only [PyData.eqv, sm]; rw [Bool.eq_iff_iff]; simp)
theorem same_eqvI {a b : Pd} (h : isAny ["bool", "list", "tuple"] a = false) (k : isAny ["bool", "list", "tuple"] b = false) (h1 : isI "int" a = true) (h2 : isI "int" b = true) (ha : tyN a ≠ "dict") (hb : tyN b ≠ "dict") : PyData.eqv a b = sm a b := by
  cases a <;> cases b <;> first | (exact absurd rfl ha) | (exact absurd rfl hb) | (simp [isI, isAny, tyN] at h k h1 h2; done) | (simp only [PyData.eqv, sm]; rw [Bool.eq_iff_iff]; simp)
theorem same_isL {a : Pd} (h : isI "list" a = true) (ha : tyN a ≠ "dict") : ∃ xs, a = .list xs := by
  cases a <;> first | (exact ⟨_, rfl⟩) | (exact absurd rfl ha) | (simp [isI, tyN] at h; done)
theorem same_isT {a : Pd} (h : isI "tuple" a = true) (ha : tyN a ≠ "dict") : ∃ xs, a = .tuple xs := by
  cases a <;> first | (exact ⟨_, rfl⟩) | (exact absurd rfl ha) | (simp [isI, tyN] at h; done)
theorem sh_nd {n : Nat} {a : Pd} (h : Sh n a) : tyN a ≠ "dict" := by
  obtain ⟨h1, _⟩ := h
  cases a <;> first | (simp [tyN]; done) | (simp only [PyData.canLay0] at h1; cases h1; done)
theorem isI_flat {T : String} {a : Pd} {n : Nat} (hT : T = "bool" ∨ T = "int" ∨ T = "str") (h : isI T a = true) (sh : Sh n a) : Sh 1 a := by
  refine ⟨sh.1, ?_⟩
  have ha := sh_nd sh
  rcases hT with rfl | rfl | rfl <;> cases a <;> first | (exact absurd rfl ha) | (simp [isI, tyN] at h; done) | (simp only [PyData.depth]; omega)
/-! ### items and streams -/
abbrev p__law_items : RR := rBag 50 fun ds b d b' => ∃ most : Nat, 1 ≤ most ∧ most ≤ 40 ∧ ds = [.int most] ∧ d = iT (itemsP most b).1 ∧ b' = (itemsP most b).2
abbrev p__law_stream : RR := rBag 100 fun ds b d b' => ∃ most : Nat, 1 ≤ most ∧ most ≤ 40 ∧ ds = [.int most] ∧ d = iT (streamP most b).1 ∧ b' = (streamP most b).2
abbrev p__law_late : RR := rP fun ds r => ∃ xs : List Int, ∃ x : Int, xs.length ≤ 1000 ∧ x ∈ xs ∧ ds = [iT xs, .int x] ∧ r = .d (.int (lateI xs x : Nat))
abbrev p__law_ages : RR := rP fun ds r => ∃ xs : List Int, xs.length ≤ 1000 ∧ ds = [iT xs] ∧ r = .d (iL (ages xs))
def kvI (ks : List Int) : List (Key × Pd) := ks.map fun k => (Sum.inl k, PyData.bool true)
theorem kvI_put (ks : List Int) (x : Int) : putP (kvI ks) (Sum.inl x) (.bool true) = kvI (ins ks x) := by
  unfold putP ins kvI
  by_cases h : x ∈ ks
  · have h1 : ((ks.map fun k => ((Sum.inl k : Key), PyData.bool true)).any fun kv => decide (kv.1 = Sum.inl x)) = true := by
      rw [List.any_map, List.any_eq_true]
      exact ⟨x, h, by simp⟩
    rw [if_pos h1, if_pos h, List.map_map]
    refine List.map_congr_left fun k _ => ?_
    show (if (Sum.inl k : Key) = Sum.inl x then ((Sum.inl k : Key), PyData.bool true) else (Sum.inl k, PyData.bool true)) = _
    split <;> rfl
  · have h1 : ¬ ((ks.map fun k => ((Sum.inl k : Key), PyData.bool true)).any fun kv => decide (kv.1 = Sum.inl x)) = true := by
      rw [List.any_map, List.any_eq_true]
      rintro ⟨k, hk, e⟩
      have e' : (Sum.inl k : Key) = Sum.inl x := by simpa using e
      cases e'
      exact h hk
    rw [if_neg h1, if_neg h, List.map_append]
    rfl
theorem kvI_keys (ks : List Int) : (kvI ks).map (·.1) = ks.map Sum.inl := by unfold kvI; rw [List.map_map]; rfl
theorem kvI_len (ks : List Int) : (kvI ks).length = ks.length := by unfold kvI; rw [List.length_map]
theorem rngD_map (n : Nat) : rngD 0 n = (List.range n).map fun i => PyData.int (i : Nat) := by
  unfold rngD
  refine List.map_congr_left fun i _ => ?_
  rw [Int.zero_add]
abbrev eP (p : Int × Nat) : Pd := .tuple [.int p.1, .int (p.2 : Nat)]
abbrev p__law_run : RR := rP fun ds r => ∃ xs : List Int, ∃ s : Nat, xs.length ≤ 1000 ∧ ds = [iT xs, .int s] ∧ r = .d (.list ((runR s xs).map eP))
abbrev p__law_emitted : RR := rP fun ds r => ∃ xs : List Int, ∃ s : Nat, xs.length ≤ 1000 ∧ ds = [iT xs, .int s] ∧ r = .d (iT (outR xs s))
def ownLen (i : Nat) (ρ : List Sl) : Nat := match ρ[i]? with
  | some (.own _ (.lst ds)) => ds.length
  | _ => 0
theorem bag_of {ns : List Int} {m : Nat} {b : List Int} (hm : m ≤ 1000) (h : b ∈ bagsR ns m) : ∃ B : Bag, Ow.lst (b.map .int) = bgO B ∧ okB 1000000 B := by
  obtain ⟨c, j, rfl, hj⟩ := bagsR_mem h
  unfold wellR
  split
  · exact ⟨(c - 10 ^ 18, c % 2305843009213693951, 977 * (j : Nat)), rfl, ⟨by show (0 : Int) ≤ 977 * (j : Nat); omega, by show (977 * (j : Nat) : Int) + _ < _; omega⟩⟩
  · exact ⟨(0, c % 2305843009213693951, 977 * (j : Nat)), rfl, ⟨by show (0 : Int) ≤ 977 * (j : Nat); omega, by show (977 * (j : Nat) : Int) + _ < _; omega⟩⟩
theorem sm_self (a : Pd) : sm a a = true := by unfold sm; simp
theorem sh_iT {xs : List Int} {n : Nat} (h : 1 ≤ n := by decide) : Sh n (iT xs) := (sh_tuple (n := 0) (sh_map (em := PyData.int) (fun x => sh_int) xs)).mono h
theorem sh_iL {xs : List Int} {n : Nat} (h : 1 ≤ n := by decide) : Sh n (iL xs) := (sh_list (n := 0) (sh_map (em := PyData.int) (fun x => sh_int) xs)).mono h
theorem shp_iL {xs : List Int} : SeqAt.shaped (iL xs) = true := (sh_iL (n := 1)).shaped (by decide)
theorem shp_iT {xs : List Int} : SeqAt.shaped (iT xs) = true := (sh_iT (n := 1)).shaped (by decide)
theorem shp_int {i : Int} : SeqAt.shaped (.int i) = true := (sh_int (n := 1)).shaped (by decide)
theorem shp_bool {b : Bool} : SeqAt.shaped (.bool b) = true := (sh_bool (n := 1)).shaped (by decide)
abbrev p_chain_output : RR := rP fun ds r => ∃ xs ss : List Int, VS xs ∧ ss.length ≤ 10 ∧ (∀ s ∈ ss, 0 ≤ s ∧ s ≤ 40) ∧ ds = [iT xs, iT ss] ∧ r = .d (iT (chainI xs ss))
abbrev p_check_count : RR := rP fun ds r => ∃ v l h : Int, l ≤ v ∧ v ≤ h ∧ ds = [.int v, .int l, .int h] ∧ r = .d .none
theorem eqv_iT {xs ys : List Int} : PyData.eqv (iT xs) (iT ys) = decide (xs = ys) := emb_tuple emb_int xs ys
theorem eqv_iL {xs ys : List Int} : PyData.eqv (iL xs) (iL ys) = decide (xs = ys) := emb_list emb_int xs ys
abbrev p_emission_times : RR := rP fun ds r => ∃ xs : List Int, ∃ s : Nat, VS xs ∧ s ≤ 40 ∧ ds = [iT xs, .int s] ∧ r = .o (.lst ((emT s xs).map .int))
abbrev p_held_after : RR := rP fun ds r => ∃ xs : List Int, ∃ s a : Nat, VS xs ∧ s ≤ 40 ∧ a ≤ xs.length ∧ ds = [iT xs, .int s, .int a] ∧ r = .d (iT ((srt (xs.take a)).drop (a - s)))
abbrev p_total_delay : RR := rP fun ds r => ∃ n s : Nat, n ≤ 40 ∧ s ≤ 40 ∧ ds = [.int n, .int s] ∧ r = .d (.int (delayN s n))
abbrev p__law_time : RR := rP fun ds r => ∃ xs : List Int, ∃ s i : Nat, ∃ x : Int, xs.length ≤ 1000 ∧ xs[i]? = some x ∧ ds = [iT xs, .int s, .int i] ∧ r = .d (.int (timeL xs s i x))
/-! dicts of ints -/
def kvT (ps : List (Int × Nat)) : List (Key × Pd) := ps.map fun p => (Sum.inl p.1, PyData.int (p.2 : Nat))
theorem kvT_put {ps : List (Int × Nat)} {x : Int} {t : Nat} (h : x ∉ ps.map (·.1)) : putP (kvT ps) (Sum.inl x) (.int (t : Nat)) = kvT (ps ++ [(x, t)]) := by
  unfold putP kvT
  have h1 : ¬ ((ps.map fun p => ((Sum.inl p.1 : Key), PyData.int (p.2 : Nat))).any fun kv => decide (kv.1 = Sum.inl x)) = true := by
    rw [List.any_map, List.any_eq_true]
    rintro ⟨p, hp, e⟩
    have e' : (Sum.inl p.1 : Key) = Sum.inl x := by simpa using e
    cases e'
    exact h (List.mem_map_of_mem hp)
  rw [if_neg h1, List.map_append]
  rfl
theorem kvT_get {ps : List (Int × Nat)} (hn : (ps.map (·.1)).Nodup) {x : Int} {t : Nat} (h : (x, t) ∈ ps) : getP (kvT ps) (Sum.inl x) = some (.int (t : Nat)) := by
  induction ps with
  | nil => cases h
  | cons p ps ih =>
    rw [List.map_cons, List.nodup_cons] at hn
    unfold getP kvT
    rw [List.map_cons]
    by_cases e : p.1 = x
    · rw [List.find?_cons_of_pos (by simp [e])]
      rcases List.mem_cons.mp h with z | z
      · rw [← z]; rfl
      · exact absurd (List.mem_map_of_mem (f := fun p : Int × Nat => p.1) z) (by rw [← e]; exact hn.1)
    · rw [List.find?_cons_of_neg (by simp [e])]
      rcases List.mem_cons.mp h with z | z
      · exact absurd (by rw [← z]) e
      · exact ih hn.2 z
theorem kvT_merge {ps : List (Int × Nat)} (hn : (ps.map (·.1)).Nodup) : mergeP [] (kvT ps) = kvT ps := by
  have key : ∀ (qs pre : List (Int × Nat)), ((pre ++ qs).map (·.1)).Nodup → mergeP (kvT pre) (kvT qs) = kvT (pre ++ qs) := fun qs => by
    induction qs with
    | nil => intro pre _; rw [List.append_nil]; rfl
    | cons q qs ih =>
      intro pre h
      show mergeP (putP (kvT pre) (Sum.inl q.1) (.int (q.2 : Nat))) (kvT qs) = _
      have hq : q.1 ∉ pre.map (·.1) := fun m => by
        rw [List.map_append] at h
        exact (List.nodup_append.mp h).2.2 q.1 m q.1 (by simp) rfl
      rw [kvT_put hq, ih (pre ++ [(q.1, q.2)]) (by rw [List.append_assoc]; exact h), List.append_assoc]
      rfl
  exact key ps [] hn
theorem kvT_len (ps : List (Int × Nat)) : (kvT ps).length = ps.length := by unfold kvT; rw [List.length_map]
abbrev p_least_size : RR := rP fun ds r => ∃ xs : List Int, ∃ m : Nat, VS xs ∧ m ≤ 40 ∧ ds = [iT xs, .int m] ∧ r = .d (.int (leastR xs m))
abbrev p_missed : RR := rP fun ds r => ∃ xs : List Int, ∃ s : Nat, ∃ L : Int, VS xs ∧ s ≤ 40 ∧ 1 ≤ L ∧ L ≤ 1000000 ∧ ds = [iT xs, .int s, .int L] ∧ r = .o (.lst ((missL L (outR xs s)).map .int))
abbrev p__law_missed : RR := rP fun ds r => ∃ xs : List Int, ∃ L : Int, xs.length ≤ 1000 ∧ 1 ≤ L ∧ L ≤ 1000000 ∧ ds = [iT xs, .int L] ∧ r = .d (iL (missL L xs))
theorem cdiv_ok {i L : Int} (h1 : 1 ≤ L) (h2 : L ≤ 1000000) : CDivW i L := by
  refine ⟨by omega, ?_⟩
  have h3 : L.natAbs < 2 ^ 20 := by omega
  have := (Nat.log2_lt (by omega : L.natAbs ≠ 0)).mpr h3
  omega
theorem missL_len (L : Int) (xs : List Int) : (missL L xs).length ≤ xs.length := missL_sub.length_le
abbrev sD (s : Nat) (xs : List Int) : Pd := .tuple [iT (keptR s xs), iT (dropR s xs)]
abbrev p_strict_output : RR := rP fun ds r => ∃ xs : List Int, ∃ s : Nat, VS xs ∧ s ≤ 40 ∧ ds = [iT xs, .int s] ∧ r = .d (sD s xs)
abbrev p__law_strict : RR := rP fun ds r => ∃ xs : List Int, ∃ s : Nat, VS xs ∧ s ≤ 40 ∧ ds = [iT xs, .int s] ∧ r = .d (sD s xs)
theorem sh_sD {s : Nat} {xs : List Int} {n : Nat} (h : 2 ≤ n := by decide) : Sh n (sD s xs) := (sh_tuple (n := 1) fun d hd => by
  rcases List.mem_cons.mp hd with e | e
  · subst e; exact sh_iT
  · rw [List.mem_singleton.mp e]; exact sh_iT).mono h
theorem dt_w {g : Gh} {X : Cx} {ρ ρ1 : List Sl} {e : Expr} {b : Bool} (h : DW g X e ρ b ρ1) : DT g X e ρ b ρ1 := PW.pt h
def psC (xs : List Int) (n : Nat) : List (Int × Nat) := (List.range n).map fun z => (((z : Nat) : Int), cntL xs ((z : Nat) : Int))
theorem psC_fst (xs : List Int) (n : Nat) : (psC xs n).map (·.1) = (List.range n).map fun z => ((z : Nat) : Int) := by unfold psC; rw [List.map_map]; rfl
theorem psC_nodup (xs : List Int) (n : Nat) : ((psC xs n).map (·.1)).Nodup := by
  rw [psC_fst]
  refine List.pairwise_map.mpr ((List.nodup_range (n := n)).imp fun {a b} h => ?_)
  omega
theorem psC_put (xs : List Int) (n : Nat) : putP (kvT (psC xs n)) (Sum.inl (n : Int)) (.int (cntL xs (n : Int) : Nat)) = kvT (psC xs (n + 1)) := by
  rw [kvT_put]
  · unfold psC
    rw [List.range_succ, List.map_append]
    rfl
  · rw [psC_fst]
    intro h
    obtain ⟨z, hz, e⟩ := List.mem_map.mp h
    have := List.mem_range.mp hz
    omega
theorem psC_get {xs : List Int} {n z : Nat} (h : z < n) : getP (kvT (psC xs n)) (Sum.inl (z : Int)) = some (.int (cntL xs (z : Int) : Nat)) :=
  kvT_get (psC_nodup xs n) (List.mem_map.mpr ⟨z, List.mem_range.mpr h, rfl⟩)
theorem psC_keys (xs : List Int) (n : Nat) : (kvT (psC xs n)).map (fun kv => keyD kv.1) = (List.range n).map fun z => PyData.int (z : Nat) := by
  unfold kvT psC
  rw [List.map_map, List.map_map]
  rfl
abbrev p_check_width : RR := rP fun ds r => ∃ w : Int, 0 ≤ w ∧ w ≤ 1000000 ∧ ds = [.int w] ∧ r = .d .none
abbrev p_watermark_of : RR := rP fun ds r => ∃ xs : List Int, ∃ w : Int, VS xs ∧ 0 ≤ w ∧ ds = [iT xs, .int w] ∧ r = .d (iT (wmR xs w))
abbrev p_watermark_output : RR := rP fun ds r => ∃ xs : List Int, ∃ w : Int, VS xs ∧ 0 ≤ w ∧ w ≤ 1000000 ∧ ds = [iT xs, .int w] ∧ r = .d (iT (wmR xs w))
abbrev p_least_width : RR := rP fun ds r => ∃ xs : List Int, VS xs ∧ ds = [iT xs] ∧ r = .d (.int (lwR xs))
abbrev p__law_by_time : RR := rP fun ds r => ∃ xs : List Int, ∃ w : Int, VS xs ∧ 0 ≤ w ∧ ds = [iT xs, .int w] ∧ r = .d (iT (wmR xs w))
abbrev p__law_in : RR := rP fun ds r => ∃ v lo hi : Int, ds = [.int v, .int lo, .int hi] ∧ r = .d (.bool (decide (lo ≤ v) && decide (v ≤ hi)))
theorem zip_split {xs : List Int} {pre post : List (Int × Nat)} {x : Int} {ix : Nat} (e : xs.zipIdx = pre ++ (x, ix) :: post) : ix = pre.length ∧ xs = pre.map (·.1) ++ x :: post.map (·.1) ∧ xs.take (pre.length + 1) = pre.map (·.1) ++ [x] ∧ xs.take pre.length = pre.map (·.1) ∧ xs[pre.length]? = some x := by
  have hix : ix = pre.length := by
    have h1 : (pre ++ (x, ix) :: post)[pre.length]? = some (x, ix) := by rw [List.getElem?_append_right (Nat.le_refl _), Nat.sub_self]; rfl
    rw [← e, List.getElem?_zipIdx] at h1
    obtain ⟨y, _, h2⟩ := Option.map_eq_some_iff.mp h1
    have := congrArg Prod.snd h2
    simp at this
    omega
  have h2 : xs = pre.map (·.1) ++ x :: post.map (·.1) := by
    have := congrArg (List.map (·.1)) e
    rw [zipIdx_fst', List.map_append] at this
    exact this
  have hl : (pre.map (·.1)).length = pre.length := List.length_map _
  refine ⟨hix, h2, ?_, ?_, ?_⟩
  · rw [h2, ← hl, List.take_length_add_append]; rfl
  · rw [h2, ← hl, List.take_left']; rfl
  · rw [h2, ← hl, List.getElem?_append_right (Nat.le_refl _), Nat.sub_self]; rfl
end DL

set_option autoImplicit false
set_option linter.all false
/-! LB10: sizes between; watermark buffers in series. -/
namespace LB
/-! sizes with the same output -/
theorem out_between {xs : List Int} (hn : xs.Nodup) {a b c : Nat} (h1 : a ≤ c) (h2 : c ≤ b) (h : outR xs a = outR xs b) : outR xs c = outR xs a := by
  have pa := outR_perm xs a
  have pc := outR_perm xs c
  refine late_eq (pc.trans pa.symm) (outR_nodup c hn) fun x hx => ?_
  have hx' : x ∈ xs := mem_outR.mp hx
  have ea := late_out xs a hn x hx'
  have eb := late_out xs b hn x hx'
  have ec := late_out xs c hn x hx'
  rw [h] at ea
  rw [ec, h, ea]
  omega
/-- the sizes below n with an output -/
def szs (xs o : List Int) (n : Nat) : List Nat := (List.range n).filter fun s => decide (outR xs s = o)
theorem szs_succ (xs o : List Int) (n : Nat) : szs xs o (n + 1) = szs xs o n ++ (if outR xs n = o then [n] else []) := by
  unfold szs
  rw [List.range_succ, List.filter_append]
  by_cases h : outR xs n = o
  · simp [h]
  · simp [h]
theorem mem_szs {xs o : List Int} {n s : Nat} : s ∈ szs xs o n ↔ s < n ∧ outR xs s = o := by
  unfold szs; simp
theorem szs_pw (xs o : List Int) (n : Nat) : (szs xs o n).Pairwise (· < ·) := (List.pairwise_lt_range (n := n)).sublist List.filter_sublist
/-- a list of rising numbers without gaps -/
theorem range_of : ∀ (l : List Nat) (a : Nat), (a :: l).Pairwise (· < ·) → (∀ c, a ≤ c → (∃ b ∈ a :: l, c ≤ b) → c ∈ a :: l) → a :: l = List.range' a (l.length + 1)
  | [], a, _, _ => rfl
  | b :: l, a, hp, hc => by
    have hp' := List.pairwise_cons.mp hp
    have hab : a < b := hp'.1 b List.mem_cons_self
    have hb : b = a + 1 := by
      have h1 := hc (a + 1) (by omega) ⟨b, by simp, by omega⟩
      rcases List.mem_cons.mp h1 with h | h
      · omega
      · rcases List.mem_cons.mp h with h | h
        · exact h.symm
        · have := (List.pairwise_cons.mp hp'.2).1 _ h
          omega
    subst hb
    have ih := range_of l (a + 1) hp'.2 fun c h1 ⟨d, hd, h2⟩ => by
      have := hc c (by omega) ⟨d, List.mem_cons_of_mem _ hd, h2⟩
      rcases List.mem_cons.mp this with h | h
      · omega
      · exact h
    show a :: (a + 1) :: l = a :: List.range' (a + 1) (l.length + 1)
    rw [← ih]
theorem szs_range {xs : List Int} (hn : xs.Nodup) (o : List Int) (n a : Nat) (l : List Nat) (h : szs xs o n = a :: l) : a :: l = List.range' a (l.length + 1) := by
  refine range_of l a (h ▸ szs_pw xs o n) fun c h1 ⟨b, hb, h2⟩ => ?_
  rw [← h] at hb ⊢
  obtain ⟨hb1, hb2⟩ := mem_szs.mp hb
  obtain ⟨ha1, ha2⟩ := mem_szs.mp (show a ∈ szs xs o n by rw [h]; exact List.mem_cons_self)
  exact mem_szs.mpr ⟨by omega, (out_between hn h1 h2 (ha2.trans hb2.symm)).trans ha2⟩
theorem last_range (a n : Nat) (l : List Nat) (h : a :: l = List.range' a (l.length + 1)) : (a :: l).getLastD 0 = a + l.length := by
  rw [h]
  have : ∀ n a, (List.range' a (n + 1)).getLastD 0 = a + n := fun n => by
    induction n with
    | zero => intro a; rfl
    | succ n ih =>
      intro a
      rw [List.range'_succ, List.range'_succ]
      show ((a + 1) :: List.range' (a + 1 + 1) n).getLastD a = _
      have h2 := ih (a + 1)
      rw [List.range'_succ] at h2
      have h3 : ∀ (x : Nat) (l : List Nat) (d e : Nat), (x :: l).getLastD d = (x :: l).getLastD e := fun x l d e => rfl
      rw [h3 _ _ a 0, h2]
      omega
  exact this l.length a
/-! ### watermark buffers in series -/
/-- what stands before x -/
def befL (xs : List Int) (x : Int) : List Int := xs.take (xs.idxOf x)
theorem mem_befL {xs : List Int} (hn : xs.Nodup) {x y : Int} (hx : x ∈ xs) : y ∈ befL xs x ↔ List.Sublist [y, x] xs := by
  obtain ⟨l, r, e, h1, h2⟩ := split_at hx hn
  have hb : befL xs x = l := by
    unfold befL
    rw [e, List.idxOf_append, if_neg h1, List.idxOf_cons_self]
    simp
  rw [hb]
  constructor
  · intro h
    rw [e]
    exact pair_app h List.mem_cons_self
  · intro h
    rw [e] at h
    rcases pair_of_app h with h | ⟨h, _⟩ | h
    · exact absurd (pair_mem h).2 h1
    · exact h
    · exfalso
      cases h with
      | cons _ h' => exact h2 (pair_mem h').2
      | cons_cons _ h' => exact h2 (by simpa using h')
theorem late_bef (xs : List Int) (x : Int) : lateI xs x = ((befL xs x).filter fun y => decide (x < y)).length := rfl
/-- behind a watermark buffer -/
theorem wm_pair {xs : List Int} {w : Int} (hw : 0 ≤ w) : ∀ (_ : xs.Nodup) {x y : Int}, x < y → List.Sublist [y, x] (wmR xs w) → List.Sublist [y, x] xs ∧ y ≤ mxL (-1 :: befL xs x) - w := by
  refine snocRec (P := fun xs => xs.Nodup → ∀ {x y : Int}, x < y → List.Sublist [y, x] (wmR xs w) → List.Sublist [y, x] xs ∧ y ≤ mxL (-1 :: befL xs x) - w) ?_ ?_ xs
  · intro _ x y _ h
    exact absurd (pair_mem h).1 (by unfold wmR wmS; simp)
  · intro xs z ih hn x y hlt h
    have hn1 : xs.Nodup := (List.nodup_append.mp hn).1
    have hz : z ∉ xs := fun q => (List.nodup_append.mp hn).2.2 z q z (by simp) rfl
    have ok := wm_ok w hw xs
    rw [wmR_snoc] at h
    have hsp := srt_pw ((wmS w xs).2.1 ++ [z])
    rcases pair_of_app h with h | ⟨h1, h2⟩ | h
    · -- both emitted
      have h' : List.Sublist [y, x] (wmR xs w) := h.trans (List.sublist_append_left _ _)
      obtain ⟨a, b⟩ := ih hn1 hlt h'
      refine ⟨a.trans (List.sublist_append_left _ _), ?_⟩
      have hx : x ∈ xs := (pair_mem a).2
      unfold befL at b ⊢
      rw [take_idx [z] hx]
      exact b
    · -- y emitted, x held or new
      have h3 := mem_srt.mp h2
      have hy : y ∈ xs := ok.pm.mem_iff.mp (List.mem_append_left _ h1)
      rcases List.mem_append.mp h3 with q | q
      · have h' : List.Sublist [y, x] (wmR xs w) := pair_app h1 q
        obtain ⟨a, b⟩ := ih hn1 hlt h'
        refine ⟨a.trans (List.sublist_append_left _ _), ?_⟩
        have hx : x ∈ xs := (pair_mem a).2
        unfold befL at b ⊢
        rw [take_idx [z] hx]
        exact b
      · rw [List.mem_singleton] at q
        subst q
        refine ⟨pair_app hy (by simp), ?_⟩
        unfold befL
        rw [take_new hz, ← ok.mx]
        exact ok.lo y h1
    · exfalso
      have := hsp.sublist h
      have := (List.pairwise_cons.mp this).1 x (by simp)
      omega
def wchain (xs : List Int) (ws : List Int) : List Int := ws.foldl (fun a w => wmR a w) xs
theorem wchain_snoc (xs ws : List Int) (w : Int) : wchain xs (ws ++ [w]) = wmR (wchain xs ws) w := by unfold wchain; rw [List.foldl_append]; rfl
theorem wchain_perm (xs : List Int) : ∀ (ws : List Int), (∀ w ∈ ws, 0 ≤ w) → (wchain xs ws).Perm xs := by
  intro ws
  refine snocRec (P := fun ws => (∀ w ∈ ws, 0 ≤ w) → (wchain xs ws).Perm xs) (fun _ => List.Perm.refl _) (fun ws w ih h => ?_) ws
  rw [wchain_snoc]
  exact (wmR_perm _ (h w (by simp))).trans (ih fun v hv => h v (by simp [hv]))
theorem mx_sub {a : List Int} {m : Int} (h : ∀ y ∈ a, y ≤ m) (h1 : -1 ≤ m) : mxL (-1 :: a) ≤ m := by
  have := mxL_mem (ns := -1 :: a) (by simp)
  rcases List.mem_cons.mp this with q | q
  · omega
  · exact h _ q
theorem wchain_pair {xs : List Int} (hn : xs.Nodup) (h0 : ∀ x ∈ xs, 0 ≤ x) : ∀ (ws : List Int), (∀ w ∈ ws, 0 ≤ w) → ∀ {x y : Int}, x < y → List.Sublist [y, x] (wchain xs ws) → List.Sublist [y, x] xs ∧ y ≤ mxL (-1 :: befL xs x) - ws.sum := by
  intro ws
  refine snocRec (P := fun ws => (∀ w ∈ ws, 0 ≤ w) → ∀ {x y : Int}, x < y → List.Sublist [y, x] (wchain xs ws) → List.Sublist [y, x] xs ∧ y ≤ mxL (-1 :: befL xs x) - ws.sum) ?_ ?_ ws
  · intro _ x y hlt h
    refine ⟨h, ?_⟩
    have hy : y ∈ befL xs x := (mem_befL hn (pair_mem h).2).mpr h
    have := mxL_ge (ns := -1 :: befL xs x) (List.mem_cons_of_mem _ hy)
    simp
    omega
  · intro ws w ih h x y hlt hs
    rw [wchain_snoc] at hs
    have hws : ∀ v ∈ ws, 0 ≤ v := fun v hv => h v (by simp [hv])
    have hw : 0 ≤ w := h w (by simp)
    have pc := wchain_perm xs ws hws
    have nc : (wchain xs ws).Nodup := pc.nodup_iff.mpr hn
    obtain ⟨a, b⟩ := wm_pair hw nc hlt hs
    obtain ⟨c, d⟩ := ih hws hlt a
    refine ⟨c, ?_⟩
    have hx : x ∈ wchain xs ws := (pair_mem a).2
    rw [List.sum_append]
    simp only [List.sum_cons, List.sum_nil]
    have hm : mxL (-1 :: befL (wchain xs ws) x) ≤ mxL (-1 :: befL xs x) - ws.sum := by
      -- the greatest before x is newer than x
      have hxy : y ∈ befL (wchain xs ws) x := (mem_befL nc hx).mpr a
      have hmem := mxL_mem (ns := -1 :: befL (wchain xs ws) x) (by simp)
      have hge := mxL_ge (ns := -1 :: befL (wchain xs ws) x) (List.mem_cons_of_mem _ hxy)
      have hx0 : 0 ≤ x := h0 x (pc.mem_iff.mp hx)
      rcases List.mem_cons.mp hmem with q | q
      · omega
      · exact (ih hws (show x < _ by omega) ((mem_befL nc hx).mp q)).2
    omega
theorem nodup_le {α : Type} [DecidableEq α] : ∀ {a b : List α}, a.Nodup → (∀ y ∈ a, y ∈ b) → a.length ≤ b.length
  | [], b, _, _ => Nat.zero_le _
  | x :: a, b, hn, h => by
    have hx : x ∈ b := h x List.mem_cons_self
    obtain ⟨h1, h2⟩ := List.nodup_cons.mp hn
    have := nodup_le (a := a) (b := b.erase x) h2 fun y hy => (List.mem_erase_of_ne (fun e : y = x => h1 (by rw [← e]; exact hy))).mpr (h y (List.mem_cons_of_mem _ hy))
    rw [List.length_erase_of_mem hx] at this
    have : 0 < b.length := List.length_pos_of_mem hx
    rw [List.length_cons]
    omega
theorem chain_late {xs : List Int} (hn : xs.Nodup) (h0 : ∀ x ∈ xs, 0 ≤ x) {ws : List Int} (hw : ∀ w ∈ ws, 0 ≤ w) {x : Int} (hx : x ∈ xs) : lateI (wchain xs ws) x ≤ lateW2 xs ws.sum x := by
  have pc := wchain_perm xs ws hw
  have nc : (wchain xs ws).Nodup := pc.nodup_iff.mpr hn
  have hxc : x ∈ wchain xs ws := pc.mem_iff.mpr hx
  rw [late_bef]
  unfold lateW2
  show _ ≤ ((befL xs x).filter _).length
  refine nodup_le ?_ ?_
  · exact (nc.sublist (List.take_sublist _ _)).filter _
  · intro y hy
    obtain ⟨h1, h2⟩ := List.mem_filter.mp hy
    have h2 := of_decide_eq_true h2
    obtain ⟨c, d⟩ := wchain_pair hn h0 ws hw h2 ((mem_befL nc hxc).mp h1)
    refine List.mem_filter.mpr ⟨(mem_befL hn hx).mpr c, ?_⟩
    rw [Bool.and_eq_true]
    exact ⟨decide_eq_true h2, decide_eq_true d⟩
theorem sum_nonneg {ws : List Int} (h : ∀ w ∈ ws, 0 ≤ w) : 0 ≤ ws.sum := by
  induction ws with
  | nil => simp
  | cons w ws ih =>
    rw [List.sum_cons]
    have := ih fun v hv => h v (by simp [hv])
    have := h w (by simp)
    omega
theorem chain_sum {xs : List Int} (hn : xs.Nodup) (h0 : ∀ x ∈ xs, 0 ≤ x) {ws : List Int} (hw : ∀ w ∈ ws, 0 ≤ w) : (ages (wchain xs ws)).sum ≤ (ages (wmR xs ws.sum)).sum := by
  have pc := wchain_perm xs ws hw
  rw [ages_wm (sum_nonneg hw) hn]
  unfold ages
  rw [srt_congr pc]
  refine sum_mono _ fun x hx => ?_
  have := chain_late hn h0 hw (mem_srt.mp hx)
  omega
/-- width 0: the stream itself -/
theorem wm_zero_st (xs : List Int) : (wmS 0 xs).1 = xs ∧ (wmS 0 xs).2.1 = [] := by
  refine snocRec (P := fun xs => (wmS 0 xs).1 = xs ∧ (wmS 0 xs).2.1 = []) ⟨rfl, rfl⟩ (fun xs x ih => ?_) xs
  rw [wmS_snoc, ih.1, ih.2]
  have h1 : srt ([] ++ [x]) = [x] := srt_of_pw (by simp)
  rw [h1]
  have h2 : x ≤ max (wmS 0 xs).2.2 x - 0 := by omega
  have h3 : ¬ max (wmS 0 xs).2.2 x - 0 < x := by omega
  constructor
  · dsimp only
    rw [List.filter_cons_of_pos (by simpa using h2)]
    rfl
  · dsimp only
    rw [List.filter_cons_of_neg (by simpa using h3)]
    rfl
theorem wm_zero (xs : List Int) : wmR xs 0 = xs := by
  unfold wmR
  rw [(wm_zero_st xs).1, (wm_zero_st xs).2, List.append_nil]
/-- a width beyond all items: sorted -/
theorem wm_wide {xs : List Int} {w : Int} (h : ∀ x ∈ xs, x < w) (hw : 0 ≤ w) (h0 : ∀ x ∈ xs, 0 ≤ x) : wmR xs w = srt xs := by
  have ok := wm_ok w hw xs
  have hE : (wmS w xs).1 = [] := by
    refine List.eq_nil_iff_forall_not_mem.mpr fun e he => ?_
    have h1 := ok.lo e he
    have h2 : e ∈ xs := ok.pm.mem_iff.mp (List.mem_append_left _ he)
    have h3 : (wmS w xs).2.2 < w := by
      rw [ok.mx]
      have := mxL_mem (ns := -1 :: xs) (by simp)
      rcases List.mem_cons.mp this with q | q
      · omega
      · exact h _ q
    have := h0 e h2
    omega
  unfold wmR
  rw [hE, List.nil_append]
  refine srt_unique ?_ ok.pw
  have := ok.pm
  rwa [hE, List.nil_append] at this
/-! ### all streams of small items -/
def strsR (count times : Nat) : List (List Int) := match count with
  | 0 => [[]]
  | n + 1 => (strsR n times).flatMap fun s => (((List.range times).map fun i => ((i : Nat) : Int)).filter fun i => decide (i ∉ s)).map fun i => s ++ [i]
theorem strsR_ok (times : Nat) : ∀ {count : Nat} {s : List Int}, s ∈ strsR count times → s.length = count ∧ s.Nodup ∧ ∀ x ∈ s, 0 ≤ x ∧ x < times
  | 0, s, h => by
    simp only [strsR, List.mem_singleton] at h
    subst h
    exact ⟨rfl, List.nodup_nil, fun x h => nomatch h⟩
  | n + 1, s, h => by
    simp only [strsR, List.mem_flatMap, List.mem_map, List.mem_filter, List.mem_range] at h
    obtain ⟨t, ht, i, ⟨⟨j, hj, rfl⟩, hi⟩, rfl⟩ := h
    obtain ⟨h1, h2, h3⟩ := strsR_ok times ht
    refine ⟨by simp [h1], ?_, fun x hx => ?_⟩
    · refine List.nodup_append.mpr ⟨h2, by simp, fun a ha b hb => ?_⟩
      rw [List.mem_singleton] at hb
      subst hb
      exact fun e => (of_decide_eq_true hi) (e ▸ ha)
    · rcases List.mem_append.mp hx with q | q
      · exact h3 x q
      · rw [List.mem_singleton] at q
        subst q
        omega
theorem strsR_len (times : Nat) (h : times ≤ 8) : ∀ (count : Nat), (strsR count times).length ≤ 8 ^ count
  | 0 => by simp [strsR]
  | n + 1 => by
    have ih := strsR_len times h n
    simp only [strsR, List.length_flatMap]
    have : ∀ (l : List (List Int)), (l.map fun s => ((((List.range times).map fun i => ((i : Nat) : Int)).filter fun i => decide (i ∉ s)).map fun i => s ++ [i]).length).sum ≤ l.length * 8 := fun l => by
      induction l with
      | nil => simp
      | cons s l ih =>
        simp only [List.map_cons, List.sum_cons, List.length_cons, List.length_map]
        have h1 := List.length_filter_le (fun i => decide (i ∉ s)) ((List.range times).map fun i => ((i : Nat) : Int))
        simp only [List.length_map, List.length_range] at h1 ih ⊢
        omega
    have h2 := this (strsR n times)
    rw [Nat.pow_succ]
    have h3 := Nat.mul_le_mul_right 8 ih
    exact Nat.le_trans h2 h3
/-- the first difference -/
def dfp (first second : Int) (s : List Int) : Bool := decide (wmR (wmR s first) second ≠ wmR s (first + second))
def diffR (first second : Int) (times : Nat) : Option (List Int) := ((List.range 4).flatMap fun c => strsR (c + 1) times).find? (dfp first second)
theorem diff_zero1 (second : Int) (times : Nat) : diffR 0 second times = none := by
  unfold diffR
  rw [List.find?_eq_none]
  intro s _
  unfold dfp
  rw [wm_zero, Int.zero_add]
  simp
theorem diff_zero2 (first : Int) (times : Nat) : diffR first 0 times = none := by
  unfold diffR
  rw [List.find?_eq_none]
  intro s _
  unfold dfp
  rw [wm_zero, Int.add_zero]
  simp
theorem diff_wide {first second : Int} {times : Nat} (h1 : (times : Int) ≤ first) (h2 : (times : Int) ≤ second) : diffR first second times = none := by
  unfold diffR
  rw [List.find?_eq_none]
  intro s hs
  obtain ⟨c, _, hc⟩ := List.mem_flatMap.mp hs
  obtain ⟨_, _, h3⟩ := strsR_ok times hc
  unfold dfp
  have e1 : wmR s first = srt s := wm_wide (fun x hx => by have := h3 x hx; omega) (by omega) (fun x hx => (h3 x hx).1)
  have e2 : wmR (srt s) second = srt (srt s) := wm_wide (fun x hx => by have := h3 x (mem_srt.mp hx); omega) (by omega) (fun x hx => (h3 x (mem_srt.mp hx)).1)
  have e3 : wmR s (first + second) = srt s := wm_wide (fun x hx => by have := h3 x hx; omega) (by omega) (fun x hx => (h3 x hx).1)
  rw [e1, e2, e3, srt_srt]
  simp
theorem diff_found {a b : Int} {t : Nat} {pre post : List Nat} {c : Nat} {pre2 post2 : List (List Int)} {s : List Int} (e : List.range 4 = pre ++ c :: post) (e2 : strsR (c + 1) t = pre2 ++ s :: post2)
    (h1 : ∀ c ∈ pre, ∀ s ∈ strsR (c + 1) t, dfp a b s = false) (h2 : ∀ s ∈ pre2, dfp a b s = false) (h : dfp a b s = true) : diffR a b t = some s := by
  unfold diffR
  rw [e, List.flatMap_append, List.flatMap_cons, e2, List.find?_append, List.find?_append, List.find?_append]
  have n1 : (pre.flatMap fun c => strsR (c + 1) t).find? (dfp a b) = none := by
    rw [List.find?_eq_none]
    intro s hs
    obtain ⟨c, hc, h3⟩ := List.mem_flatMap.mp hs
    rw [h1 c hc s h3]
    exact Bool.false_ne_true
  have n2 : pre2.find? (dfp a b) = none := by
    rw [List.find?_eq_none]
    intro s hs
    rw [h2 s hs]
    exact Bool.false_ne_true
  rw [n1, n2, List.find?_cons_of_pos h]
  rfl
theorem diff_none {a b : Int} {t : Nat} (h1 : ∀ c ∈ List.range 4, ∀ s ∈ strsR (c + 1) t, dfp a b s = false) : diffR a b t = none := by
  unfold diffR
  rw [List.find?_eq_none]
  intro s hs
  obtain ⟨c, hc, h3⟩ := List.mem_flatMap.mp hs
  rw [h1 c hc s h3]
  exact Bool.false_ne_true
theorem strsR_vs {c t : Nat} (hc : c ≤ 3) (ht : t ≤ 8) {s : List Int} (h : s ∈ strsR (c + 1) t) : VS s := by
  obtain ⟨h1, h2, h3⟩ := strsR_ok t h
  exact ⟨by omega, fun x hx => by have := h3 x hx; omega, h2⟩
/-! ### a sort that the kernel runs -/
def insC (x : Int) : List Int → List Int
  | [] => [x]
  | y :: l => if x ≤ y then x :: y :: l else y :: insC x l
def srtC : List Int → List Int
  | [] => []
  | x :: l => insC x (srtC l)
theorem insC_perm (x : Int) : ∀ l : List Int, (insC x l).Perm (x :: l)
  | [] => List.Perm.refl _
  | y :: l => by
    unfold insC
    split
    · exact List.Perm.refl _
    · exact ((insC_perm x l).cons y).trans (List.Perm.swap x y l)
theorem insC_pw (x : Int) : ∀ {l : List Int}, l.Pairwise (· ≤ ·) → (insC x l).Pairwise (· ≤ ·)
  | [], _ => by simp [insC]
  | y :: l, h => by
    obtain ⟨h1, h2⟩ := List.pairwise_cons.mp h
    unfold insC
    split
    · rename_i q
      refine List.pairwise_cons.mpr ⟨fun z hz => ?_, h⟩
      rcases List.mem_cons.mp hz with w | w
      · rw [w]; exact q
      · exact Int.le_trans q (h1 z w)
    · rename_i q
      refine List.pairwise_cons.mpr ⟨fun z hz => ?_, insC_pw x h2⟩
      rcases List.mem_cons.mp ((insC_perm x l).mem_iff.mp hz) with w | w
      · rw [w]; omega
      · exact h1 z w
theorem srtC_ok : ∀ l : List Int, (srtC l).Perm l ∧ (srtC l).Pairwise (· ≤ ·)
  | [] => ⟨List.Perm.refl _, List.Pairwise.nil⟩
  | x :: l => ⟨(insC_perm x _).trans ((srtC_ok l).1.cons x), insC_pw x (srtC_ok l).2⟩
theorem srt_eq : srt = srtC := funext fun l => (srt_unique (srtC_ok l).1 (srtC_ok l).2).symm
theorem diff_114 : diffR 1 1 4 = some [1, 3, 0] := by
  unfold diffR dfp wmR wmS
  rw [srt_eq]
  decide +kernel
theorem sz_ex1 : szs [] [] 41 = List.range 41 := by
  unfold szs outR passR passS
  rw [srt_eq]
  decide +kernel
theorem sz_ex2 : szs [2, 1] [1, 2] 41 = List.range' 1 40 := by
  unfold szs outR passR passS
  rw [srt_eq]
  decide +kernel
/-! ### numbers drawn below a bound that is drawn -/
def drN (pk : Int → Int) (b : Bag) : Nat → List Int × Bag
  | 0 => ([], b)
  | n + 1 => ((drN pk b n).1 ++ [takeR (takeB (drN pk b n).2 3) (pk (takeR (drN pk b n).2 3))], takeB (takeB (drN pk b n).2 3) (pk (takeR (drN pk b n).2 3)))
theorem drN_succ (pk : Int → Int) (b : Bag) (n : Nat) : drN pk b (n + 1) = ((drN pk b n).1 ++ [takeR (takeB (drN pk b n).2 3) (pk (takeR (drN pk b n).2 3))], takeB (takeB (drN pk b n).2 3) (pk (takeR (drN pk b n).2 3))) := rfl
theorem drN_ok {pk : Int → Int} {b : Bag} {k : Nat} : ∀ {n : Nat}, okB (k + 2 * n) b → okB k (drN pk b n).2
  | 0, h => h
  | n + 1, h => by
    rw [drN_succ]
    have := drN_ok (pk := pk) (k := k + 2) (n := n) (h.mono (by omega))
    exact (this.take).take
theorem drN_rng {pk : Int → Int} {b : Bag} {M : Int} (hp : ∀ i, 0 < pk i ∧ pk i ≤ M) : ∀ {n : Nat} {x : Int}, x ∈ (drN pk b n).1 → 0 ≤ x ∧ x < M
  | 0, x, h => nomatch h
  | n + 1, x, h => by
    rw [drN_succ] at h
    rcases List.mem_append.mp h with q | q
    · exact drN_rng hp q
    · rw [List.mem_singleton] at q
      have h1 := hp (takeR (drN pk b n).2 3)
      have h2 := takeR_rng (takeB (drN pk b n).2 3) h1.1
      rw [q]
      omega
theorem drN_len {pk : Int → Int} {b : Bag} : ∀ n : Nat, (drN pk b n).1.length = n
  | 0 => rfl
  | n + 1 => by rw [drN_succ]; simp [drN_len n]
def pickW (i : Int) : Int := if i = 0 then 4 else if i = 1 then 60 else 100000
theorem pickW_pos (i : Int) : 0 < pickW i ∧ pickW i ≤ 100000 := by
  unfold pickW
  split
  · decide
  · split <;> decide
end LB

set_option Elab.async false
set_option linter.all false
set_option maxRecDepth 100000
set_option exponentiation.threshold 2000
set_option autoImplicit false
/-! PR2: short rules for the laws; more promises. -/
namespace DL
open PySem PySem.Spec PyProof.Rows L2 LB
section
variable {g : Gh} {X : Cx} {ρ ρ1 : List Sl} {pos p1 p2 p3 : Pos} {e e1 e2 : Expr} {i j k k1 k2 : Nat} {q : Addr}
theorem de_take {m : Int} {b : Bag} (D : Dn X.prog X.w X.K X.mg X.base j "_law_take" p__law_take) (hX : XO k X) (ha : DE g X e2 ρ (.d (.int m)) ρ1) (hi : ρ1[i]? = some (.own q (bgO b))) (hb : okB 1 b) (hm : 0 < m ∧ m < 10000000)
    (ho : DE g X e1 ρ (.s i) ρ) (hj : j ≤ k := by decide) (hg : Gl X "_law_take" := by rfl)
    (he : starEach [e1, e2] X.env = (false, eval e1 X.env) :: starEach [e2] X.env := by rfl) (he2 : starEach [e2] X.env = (false, eval e2 X.env) :: starEach [] X.env := by rfl) (hpl : (backTo pos (starEach [e2] X.env)).any (·.1) = false := by rfl) :
    DE g X (.Call (.Name "_law_take" p1) [e1, e2] [] pos) ρ (.d (.int (takeR b m))) (ρ1.set i (.own q (bgO (takeB b m)))) :=
  de_callB' (i := i) [.int m] D hX hj (da_cons ho (da_cons ha da_nil he2) he) hi ⟨0, b, _, _, by simpa using hb, ⟨m, hm.1, by have := hm.2; omega, rfl, rfl, rfl⟩, rfl, rfl, rfl⟩ hg (by decide) he hpl
theorem de_1m : DE g X (.BinOp (.Constant (.int 10) k1 p1) .Pow (.Constant (.int 6) k2 p2) pos) ρ (.d (.int 1000000)) ρ :=
  de_k (d := .int (10 ^ (6 : Int).toNat)) (by rfl) (de_pow (i := 10) (j := 6) ⟨by decide, by decide, by decide⟩ de_int de_int)
end
theorem de_100k {g : Gh} {X : Cx} {ρ : List Sl} {pos p1 p2 : Pos} {k1 k2 : Nat} : DE g X (.BinOp (.Constant (.int 10) k1 p1) .Pow (.Constant (.int 5) k2 p2) pos) ρ (.d (.int 100000)) ρ :=
  de_k (d := .int (10 ^ (5 : Int).toNat)) (by rfl) (de_pow (i := 10) (j := 5) ⟨by decide, by decide, by decide⟩ de_int de_int)
theorem iT_app (xs ys : List Int) : PyData.tuple (xs.map .int ++ ys.map .int) = iT (xs ++ ys) := by show _ = PyData.tuple ((xs ++ ys).map .int); rw [List.map_append]
theorem iL_app (xs ys : List Int) : PyData.list (xs.map .int ++ ys.map .int) = iL (xs ++ ys) := by show _ = PyData.list ((xs ++ ys).map .int); rw [List.map_append]
/-! ### k16 -/
abbrev p_watermark_chain : RR := rP fun ds r => ∃ xs ws : List Int, VS xs ∧ ws.length ≤ 10 ∧ (∀ w ∈ ws, 0 ≤ w ∧ w ≤ 1000000) ∧ ds = [iT xs, iT ws] ∧ r = .d (iT (wchain xs ws))
abbrev p_arrangements : RR := rP fun ds r => ∃ c t : Nat, c ≤ 4 ∧ t ≤ 8 ∧ ds = [.int c, .int t] ∧ r = .d (.list ((strsR c t).map iT))
def optT : Option (List Int) → Pd
  | none => .none
  | some s => iT s
abbrev p_series_difference : RR := rP fun ds r => ∃ a b : Int, ∃ t : Nat, 0 ≤ a ∧ a ≤ 9 ∧ 0 ≤ b ∧ b ≤ 9 ∧ 1 ≤ t ∧ t ≤ 8 ∧ ds = [.int a, .int b, .int t] ∧ r = .d (optT (diffR a b t))
abbrev p__law_streams : RR := rP fun ds r => ∃ c t : Nat, c ≤ 4 ∧ t ≤ 8 ∧ ds = [.int c, .int t] ∧ r = .d (.list ((strsR c t).map iT))
abbrev p__law_difference : RR := rP fun ds r => ∃ a b : Int, ∃ t : Nat, 0 ≤ a ∧ 0 ≤ b ∧ t ≤ 8 ∧ ds = [.int a, .int b, .int t] ∧ r = .d (optT (diffR a b t))
theorem sh_optT {o : Option (List Int)} {n : Nat} (h : 1 ≤ n := by decide) : Sh n (optT o) := by
  cases o with
  | none => exact sh_none
  | some s => exact sh_iT h
/-! ### k12 -/
def szL (l : List Nat) : List Pd := l.map fun s => .int ((s : Nat) : Int)
def szD : List Nat → Pd
  | [] => .none
  | a :: l => .tuple [.int (a : Nat), .int (((a :: l).getLastD 0 : Nat) : Int)]
abbrev p_sizes_for : RR := rP fun ds r => ∃ xs o : List Int, VS xs ∧ VS o ∧ ds = [iT xs, iT o] ∧ r = .d (szD (szs xs o 41))
theorem sh_szD {l : List Nat} {n : Nat} (h : 1 ≤ n := by decide) : Sh n (szD l) := by
  cases l with
  | nil => exact sh_none
  | cons a l =>
    refine (sh_tuple (n := 0) fun d hd => ?_).mono h
    rcases List.mem_cons.mp hd with e | e
    · rw [e]; exact sh_int
    · rw [List.mem_singleton.mp e]; exact sh_int
theorem szL_snoc (l : List Nat) (s : Nat) : szL (l ++ [s]) = szL l ++ [.int ((s : Nat) : Int)] := by unfold szL; rw [List.map_append]; rfl
theorem szL_len (l : List Nat) : (szL l).length = l.length := List.length_map _
theorem szL_first (a : Nat) (l : List Nat) : atI (szL (a :: l)) 0 = some (.int ((a : Nat) : Int)) := atI_nat (j := 0) rfl
theorem szL_last (a : Nat) (l : List Nat) : atI (szL (a :: l)) (-1) = some (.int (((a :: l).getLastD 0 : Nat) : Int)) := by
  have h : a :: l = (a :: l).dropLast ++ [(a :: l).getLastD 0] := by
    have := List.dropLast_concat_getLast (l := a :: l) (by simp)
    rw [List.getLastD_eq_getLast?, List.getLast?_eq_some_getLast (by simp)]
    exact this.symm
  generalize (a :: l).getLastD 0 = z at h
  rw [h, szL_snoc]
  exact atI_last _ _
theorem shp_szL (l : List Nat) : SeqAt.shaped (.list (szL l)) = true := (sh_list (n := 0) (sh_map (em := fun s : Nat => PyData.int ((s : Nat) : Int)) (fun _ => sh_int) l)).shaped (by decide)
theorem szL_range (a n : Nat) : szL (List.range' a n) = rngD (a : Int) n := by
  unfold szL rngD
  rw [List.range'_eq_map_range, List.map_map]
  exact List.map_congr_left fun i _ => by show PyData.int (((a + i : Nat) : Nat) : Int) = _; rw [Int.natCast_add]
end DL

set_option Elab.async false
set_option linter.all false
set_option autoImplicit false
/-! LB11: streams split by keys. -/
namespace LB
open DL
def partK (xs ks : List Int) (key : Int) : List Int := ((xs.zip ks).filter fun p => decide (p.2 = key)).map (·.1)
theorem zip_fst {α β : Type} : ∀ (xs : List α) (ys : List β), (xs.zip ys).map (·.1) = xs.take ys.length
  | [], ys => by simp
  | x :: xs, [] => by simp
  | x :: xs, y :: ys => by simp [zip_fst xs ys]
theorem partK_sub (xs ks : List Int) (key : Int) : (partK xs ks key).Sublist xs := by
  unfold partK
  have h1 : (((xs.zip ks).filter fun p => decide (p.2 = key)).map (·.1)).Sublist ((xs.zip ks).map (·.1)) := List.filter_sublist.map _
  refine h1.trans ?_
  rw [zip_fst]
  exact List.take_sublist _ _
theorem partK_ne {xs ks : List Int} (hl : ks.length = xs.length) (key : Int) : partK xs ks key ≠ [] ↔ key ∈ ks := by
  unfold partK
  rw [Ne, List.map_eq_nil_iff, List.filter_eq_nil_iff]
  constructor
  · intro h
    refine Classical.byContradiction fun hn => h fun p hp => ?_
    have := (List.of_mem_zip hp).2
    simp only [decide_eq_true_eq]
    intro e
    exact hn (e ▸ this)
  · intro h hn
    obtain ⟨i, hi, e⟩ := List.mem_iff_getElem.mp h
    have hx : i < (xs.zip ks).length := by rw [List.length_zip]; omega
    have hm : (xs.zip ks)[i] ∈ xs.zip ks := List.getElem_mem hx
    have := hn _ hm
    rw [List.getElem_zip] at this
    simp [e] at this
theorem mxL_perm {a b : List Int} (p : a.Perm b) : mxL a = mxL b := by
  cases a with
  | nil => rw [p.nil_eq]
  | cons x a =>
    have h1 := mxL_mem (ns := x :: a) (by simp)
    exact mxL_unique (p.mem_iff.mp h1) fun y hy => mxL_ge (p.mem_iff.mpr hy)
def szK (xs ks : List Int) (key : Int) : Int := mxL (ltn (partK xs ks key))
theorem szK_ages {xs ks : List Int} (hn : xs.Nodup) (key : Int) : mxL (ages (partK xs ks key)) = szK xs ks key := (mxL_perm (ltn_perm (hn.sublist (partK_sub xs ks key)))).symm
theorem sub_late {a b : List Int} (s : a.Sublist b) (hn : b.Nodup) {x : Int} (hx : x ∈ a) : lateI a x ≤ lateI b x := by
  have na := hn.sublist s
  rw [late_bef, late_bef]
  refine nodup_le ((na.sublist (List.take_sublist _ _)).filter _) fun y hy => ?_
  obtain ⟨h1, h2⟩ := List.mem_filter.mp hy
  exact List.mem_filter.mpr ⟨(mem_befL hn (s.subset hx)).mpr (((mem_befL na hx).mp h1).trans s), h2⟩
theorem least_ge {xs : List Int} {l : Int} (h : l ∈ ltn xs) : l ≤ leastR xs 0 := by
  have h1 := (leastR_ok xs 0).1
  unfold cntL at h1
  have h2 : ((ltn xs).filter fun l => decide (leastR xs 0 < l)) = [] := List.eq_nil_of_length_eq_zero (by omega)
  have h3 := List.filter_eq_nil_iff.mp h2 l h
  simp at h3
  omega
theorem least_mx {xs : List Int} (hne : xs ≠ []) : mxL (ltn xs) = leastR xs 0 := by
  refine (mxL_unique ?_ fun y hy => least_ge hy).symm
  have hl : (srt (ltn xs)).reverse.length = xs.length := by rw [List.length_reverse, srt_length, ltn_length]
  have h0 : 0 < (srt (ltn xs)).reverse.length := by rw [hl]; exact List.length_pos_iff.mpr hne
  unfold leastR
  rw [List.getElem?_eq_getElem h0]
  exact mem_srt.mp (List.mem_reverse.mp (List.getElem_mem h0))
theorem szK_le {xs ks : List Int} (hn : xs.Nodup) {key : Int} (hne : partK xs ks key ≠ []) : szK xs ks key ≤ leastR xs 0 := by
  have hs := partK_sub xs ks key
  have np := hn.sublist hs
  have h1 : ltn (partK xs ks key) ≠ [] := fun e => hne (List.eq_nil_of_length_eq_zero (by rw [← ltn_length, e]; rfl))
  have h2 := mxL_mem h1
  unfold szK
  rw [ltn_eq np] at h2 ⊢
  obtain ⟨x, hx, e⟩ := List.mem_map.mp h2
  rw [← e]
  have h3 := sub_late hs hn hx
  have h4 : ((lateI xs x : Nat) : Int) ≤ leastR xs 0 := least_ge (by rw [ltn_eq hn]; exact List.mem_map.mpr ⟨x, hs.subset hx, rfl⟩)
  omega
/-- the keys that occur, below ten -/
theorem keys_ten {ks : List Int} (hr : ∀ k ∈ ks, 0 ≤ k ∧ k ≤ 9) : (((List.range 10).map fun i => ((i : Nat) : Int)).filter fun k => decide (k ∈ ks)) = sdL ks := by
  refine sdL_unique ?_ fun k => ?_
  · refine List.Pairwise.sublist List.filter_sublist ?_
    exact List.pairwise_map.mpr ((List.pairwise_lt_range (n := 10)).imp fun h => by omega)
  · rw [List.mem_filter, List.mem_map]
    constructor
    · rintro ⟨_, h⟩
      exact of_decide_eq_true h
    · intro h
      have := hr k h
      exact ⟨⟨k.toNat, List.mem_range.mpr (by omega), by omega⟩, decide_eq_true h⟩
theorem partK_all {xs : List Int} {n : Nat} (h : n = xs.length) (k : Int) : partK xs (List.replicate n k) k = xs := by
  subst h
  unfold partK
  rw [List.filter_eq_self.mpr fun p hp => ?_]
  · rw [zip_fst, List.length_replicate]
    exact List.take_length
  · have := (List.of_mem_zip hp).2
    rw [List.mem_replicate] at this
    exact decide_eq_true this.2
theorem sdL_rep {n : Nat} (h : n ≠ 0) (k : Int) : sdL (List.replicate n k) = [k] := (sdL_unique (by simp) fun x => by
  rw [List.mem_replicate, List.mem_singleton]
  exact ⟨fun e => ⟨h, e⟩, fun e => e.2⟩).symm
def pickM (i : Int) : Int := if i = 0 then 1 else if i = 1 then 2 else 10
theorem pickM_pos (i : Int) : 1 ≤ pickM i ∧ pickM i ≤ 10 := by
  unfold pickM
  split
  · decide
  · split <;> decide
end LB
namespace DL
open PySem PySem.Spec PyProof.Rows L2 LB
/-! ### k13 -/
def KOk (xs ks : List Int) : Prop := ks.length = xs.length ∧ ∀ k ∈ ks, 0 ≤ k ∧ k ≤ 9
abbrev p_check_keys : RR := rP fun ds r => ∃ xs ks : List Int, xs.length ≤ 1000 ∧ KOk xs ks ∧ ds = [iT xs, iT ks] ∧ r = .d .none
def ptD (xs ks : List Int) (key : Int) : Pd := .tuple [.int key, iT (partK xs ks key)]
abbrev p_split : RR := rP fun ds r => ∃ xs ks : List Int, VS xs ∧ KOk xs ks ∧ ds = [iT xs, iT ks] ∧ r = .d (.list ((sdL ks).map (ptD xs ks)))
def ssD (xs ks : List Int) (key : Int) : Pd := .tuple [.int key, .int (szK xs ks key)]
abbrev p_split_sizes : RR := rP fun ds r => ∃ xs ks : List Int, VS xs ∧ KOk xs ks ∧ ds = [iT xs, iT ks] ∧ r = .d (.list ((sdL ks).map (ssD xs ks)))
def soD (xs ks : List Int) (s : Nat) (key : Int) : Pd := .tuple [.int key, iT (outR (partK xs ks key) s)]
abbrev p_split_output : RR := rP fun ds r => ∃ xs ks : List Int, ∃ s : Nat, VS xs ∧ KOk xs ks ∧ s ≤ 40 ∧ ds = [iT xs, iT ks, .int s] ∧ r = .d (.list ((sdL ks).map (soD xs ks s)))
theorem sdL_len (ks : List Int) : (sdL ks).length ≤ ks.length := by unfold sdL; rw [srt_length]; exact dd_len_le ks
theorem mem_sdL {ks : List Int} {k : Int} : k ∈ sdL ks ↔ k ∈ ks := by unfold sdL; rw [mem_srt, mem_dd]
theorem sh_ssD (xs ks : List Int) (l : List Int) {n : Nat} (h : 2 ≤ n := by decide) : Sh n (.list (l.map (ssD xs ks))) := (sh_list (n := 1) (sh_map (em := ssD xs ks) (fun k => (sh_tuple (n := 0) fun d hd => by
  rcases List.mem_cons.mp hd with e | e
  · rw [e]; exact sh_int
  · rw [List.mem_singleton.mp e]; exact sh_int)) l)).mono h
theorem sh_soD (xs ks : List Int) (s : Nat) (l : List Int) {n : Nat} (h : 3 ≤ n := by decide) : Sh n (.list (l.map (soD xs ks s))) := (sh_list (n := 2) (sh_map (em := soD xs ks s) (fun k => (sh_tuple (n := 1) fun d hd => by
  rcases List.mem_cons.mp hd with e | e
  · rw [e]; exact sh_int
  · rw [List.mem_singleton.mp e]; exact sh_iT)) l)).mono h
theorem repD_one (k : Int) (n : Int) : repD [PyData.int k] n = (List.replicate n.toNat k).map .int := by
  unfold repD
  rw [List.map_replicate]
  generalize n.toNat = m
  induction m with
  | zero => rfl
  | succ m ih => rw [List.replicate_succ, List.flatten_cons, ih]; rfl
end DL

set_option Elab.async false
set_option linter.all false
set_option autoImplicit false
/-! LB12: the rows of an output: the least and the most lateness of each item. -/
namespace LB
open DL PySem PySem.Spec PyProof.Rows L2
abbrev F3 := Int × Int × Int
def rowB (n s i : Nat) (late : Int) : Int × Int := if 0 < late then (late + s, min (late + s) ((n : Int) - 1 - i)) else (0, min (min (s : Int) ((n : Int) - 1 - i)) ((n : Int) - 1 - i))
def stF (item : Int) (r : Int × Int) (f : F3) : Int × Int := if f.1 = item then (max r.1 f.2.1, min r.2 f.2.2) else r
def rowF (fs : List F3) (item : Int) (r : Int × Int) : Int × Int := fs.foldl (stF item) r
theorem rowF_snoc (fs : List F3) (f : F3) (item : Int) (r : Int × Int) : rowF (fs ++ [f]) item r = stF item (rowF fs item r) f := by unfold rowF; rw [List.foldl_append]; rfl
def rngR (o : List Int) (s : Nat) (fs : List F3) : List (Int × Int) := ((srt o).zip (ages o)).zipIdx.map fun p => rowF fs p.1.1 (rowB o.length s p.2 p.1.2)
def ways (rows : List (Int × Int)) : Int := rows.foldl (fun w r => w * max 0 (r.2 - r.1 + 1)) 1
theorem ways_snoc (rows : List (Int × Int)) (r : Int × Int) : ways (rows ++ [r]) = ways rows * max 0 (r.2 - r.1 + 1) := by unfold ways; rw [List.foldl_append]; rfl
def WOk (rows : List (Int × Int)) : Prop := rows.length ≤ 1000 ∧ ∀ r ∈ rows, r.2 - r.1 < 63
theorem ways_rng {rows : List (Int × Int)} : (∀ r ∈ rows, r.2 - r.1 < 63) → 0 ≤ ways rows ∧ ways rows < 2 ^ (6 * rows.length + 1) := by
  induction rows using snocRec with
  | h0 => intro _; exact ⟨by decide, by decide⟩
  | h1 rows r ih =>
    intro h
    obtain ⟨h1, h2⟩ := ih fun q hq => h q (List.mem_append_left _ hq)
    have h3 := h r (by simp)
    rw [ways_snoc, List.length_append, List.length_singleton]
    have h4 : 0 ≤ max 0 (r.2 - r.1 + 1) ∧ max 0 (r.2 - r.1 + 1) ≤ 63 := by omega
    refine ⟨Int.mul_nonneg h1 h4.1, ?_⟩
    have h5 : ways rows * max 0 (r.2 - r.1 + 1) ≤ ways rows * 63 := Int.mul_le_mul_of_nonneg_left h4.2 h1
    have h6 : (2 : Int) ^ (6 * (rows.length + 1) + 1) = 2 ^ (6 * rows.length + 1) * 64 := by
      rw [show 6 * (rows.length + 1) + 1 = (6 * rows.length + 1) + 6 from by omega, Int.pow_add]
      rfl
    have h7 : (0 : Int) < 2 ^ (6 * rows.length + 1) := Int.lt_of_le_of_lt h1 h2
    omega
theorem log2_of {i : Int} {a : Nat} (h0 : 0 ≤ i) (h : i < 2 ^ a) : i.natAbs.log2 ≤ a := by
  by_cases hz : i.natAbs = 0
  · rw [hz]; exact Nat.zero_le _
  · have h1 : i.natAbs < 2 ^ a := by
      have e : ((2 ^ a : Nat) : Int) = 2 ^ a := by rw [Int.natCast_pow]; rfl
      omega
    exact Nat.le_of_lt ((Nat.log2_lt hz).mpr h1)
theorem cmulW_of {i j : Int} {a b : Nat} (h0 : 0 ≤ i) (h : i < 2 ^ a) (k0 : 0 ≤ j) (k : j < 2 ^ b) (hab : a + b < 1000000) : CMulW i j := by
  have h1 := log2_of h0 h
  have h2 := log2_of k0 k
  unfold CMulW
  omega
def FOk (o : List Int) (fs : List F3) : Prop := fs.length ≤ 10 ∧ ∀ f ∈ fs, f.1 ∈ o ∧ 0 ≤ f.2.1 ∧ f.2.1 ≤ f.2.2 ∧ f.2.2 ≤ 40
theorem rowF_ge {fs : List F3} {item : Int} {r : Int × Int} : r.1 ≤ (rowF fs item r).1 ∧ (rowF fs item r).2 ≤ r.2 := by
  induction fs using snocRec with
  | h0 => exact ⟨Int.le_refl _, Int.le_refl _⟩
  | h1 fs f ih =>
    rw [rowF_snoc]
    unfold stF
    split
    · exact ⟨by show r.1 ≤ max _ _; omega, by show min _ _ ≤ r.2; omega⟩
    · exact ih
theorem rng_at {o : List Int} {s : Nat} {fs : List F3} {r : Int × Int} (h : r ∈ rngR o s fs) : ∃ (i : Nat) (x l : Int), x ∈ o ∧ l ∈ ages o ∧ i < o.length ∧ r = rowF fs x (rowB o.length s i l) := by
  unfold rngR at h
  obtain ⟨⟨⟨x, l⟩, i⟩, hp, e⟩ := List.mem_map.mp h
  have h1 := List.mk_mem_zipIdx_iff_getElem?.mp hp
  obtain ⟨h2, h3⟩ := List.getElem?_eq_some_iff.mp h1
  have h4 : (x, l) ∈ (srt o).zip (ages o) := h3 ▸ List.getElem_mem h2
  have h5 := List.of_mem_zip h4
  refine ⟨i, x, l, mem_srt.mp h5.1, h5.2, ?_, e.symm⟩
  have h6 := (srt_perm o).length_eq
  rw [List.length_zip] at h2
  omega
theorem rowB_rng {n s i : Nat} {l : Int} (hl : 0 ≤ l) : 0 ≤ (rowB n s i l).1 ∧ (rowB n s i l).2 ≤ (n : Int) - 1 - i := by
  unfold rowB
  split
  · exact ⟨by show 0 ≤ l + s; omega, by show min _ _ ≤ _; omega⟩
  · exact ⟨Int.le_refl _, by show min _ _ ≤ _; omega⟩
theorem rng_ok {o : List Int} {s : Nat} {fs : List F3} {r : Int × Int} (h : r ∈ rngR o s fs) : 0 ≤ r.1 ∧ r.2 ≤ (o.length : Int) - 1 := by
  obtain ⟨i, x, l, hx, hl, hi, e⟩ := rng_at h
  have h1 := rowF_ge (fs := fs) (item := x) (r := rowB o.length s i l)
  have h2 := rowB_rng (n := o.length) (s := s) (i := i) (ages_nonneg hl)
  rw [e]
  omega
theorem rng_len (o : List Int) (s : Nat) (fs : List F3) : (rngR o s fs).length = o.length := by
  unfold rngR ages
  rw [List.length_map, List.length_zipIdx, List.length_zip, List.length_map, srt_length, Nat.min_self]
theorem rng_wok {o : List Int} (h : o.length ≤ 60) (s : Nat) (fs : List F3) : WOk (rngR o s fs) := ⟨by rw [rng_len]; omega, fun r hr => by have := rng_ok hr; omega⟩
def fD (f : F3) : Pd := .tuple [.int f.1, .int f.2.1, .int f.2.2]
def rD (r : Int × Int) : Pd := .tuple [.int r.1, .int r.2]
abbrev p_lateness : RR := rP fun ds r => ∃ xs : List Int, VS xs ∧ ds = [iT xs] ∧ r = .d (iL (ltn xs))
abbrev p_by_age : RR := rP fun ds r => ∃ xs : List Int, VS xs ∧ ds = [iT xs] ∧ r = .d (iL (ages xs))
abbrev p_is_fact : RR := rP fun ds r => ∃ (o : List Int) (f : F3), VS o ∧ (f.1 ∈ o ∧ 0 ≤ f.2.1 ∧ f.2.1 ≤ f.2.2 ∧ f.2.2 ≤ 40) ∧ ds = [iT o, fD f] ∧ r = .d (.bool true)
abbrev p_check_facts : RR := rP fun ds r => ∃ (o : List Int) (fs : List F3), VS o ∧ FOk o fs ∧ ds = [iT o, .tuple (fs.map fD)] ∧ r = .d .none
abbrev p_ranges : RR := rP fun ds r => ∃ (o : List Int) (s : Nat) (fs : List F3), VS o ∧ s ≤ 40 ∧ fs.length ≤ 10 ∧ ds = [iT o, .int (s : Nat), .tuple (fs.map fD)] ∧ r = .d (.list ((rngR o s fs).map rD))
abbrev p_total_ways : RR := rP fun ds r => ∃ rows : List (Int × Int), WOk rows ∧ ds = [.list (rows.map rD)] ∧ r = .d (.int (ways rows))
abbrev p_input_count : RR := rP fun ds r => ∃ (o : List Int) (s : Nat) (fs : List F3), VS o ∧ s ≤ 40 ∧ FOk o fs ∧ ds = [iT o, .int (s : Nat), .tuple (fs.map fD)] ∧ r = .d (.int (ways (rngR o s fs)))
/-- item by item, as a dict -/
theorem age_get {xs : List Int} (hn : xs.Nodup) {x : Int} (hx : x ∈ xs) : getP (mergeP [] ((xs.zip ((ltn xs).map PyData.int)).map fun q => ((Sum.inl q.1 : Key), q.2))) (Sum.inl x) = some (.int ((lateI xs x : Nat) : Int)) := by
  have e : ((xs.zip ((ltn xs).map PyData.int)).map fun q => ((Sum.inl q.1 : Key), q.2)) = kvT (xs.map fun x => (x, lateI xs x)) := by
    rw [ltn_eq hn]
    unfold kvT
    rw [List.map_map, List.map_map, List.zip_map_right, List.map_map]
    have : ∀ ys : List Int, (ys.zip ys) = ys.map fun x => (x, x) := fun ys => by induction ys with | nil => rfl | cons y ys ih => rw [List.zip_cons_cons, ih]; rfl
    rw [this, List.map_map]
    rfl
  have ek : (xs.map fun x => (x, lateI xs x)).map (·.1) = xs := by rw [List.map_map]; exact List.map_id' _
  rw [e, kvT_merge (by rw [ek]; exact hn)]
  exact kvT_get (by rw [ek]; exact hn) (List.mem_map.mpr ⟨x, hx, rfl⟩)
end LB

set_option Elab.async false
set_option linter.all false
set_option autoImplicit false
/-! LB13: what depends on the order of the items alone. -/
namespace LB
open DL PySem PySem.Spec PyProof.Rows L2
def Mono (f : Int → Int) (xs : List Int) : Prop := ∀ x ∈ xs, ∀ y ∈ xs, x < y → f x < f y
theorem Mono.sub {f : Int → Int} {xs ys : List Int} (h : Mono f xs) (k : ∀ y ∈ ys, y ∈ xs) : Mono f ys := fun x hx y hy => h x (k x hx) y (k y hy)
theorem Mono.lt {f : Int → Int} {xs : List Int} (h : Mono f xs) {x y : Int} (hx : x ∈ xs) (hy : y ∈ xs) : f x < f y ↔ x < y := by
  refine ⟨fun hl => ?_, h x hx y hy⟩
  rcases Int.lt_trichotomy x y with q | q | q
  · exact q
  · rw [q] at hl; omega
  · have := h y hy x hx q; omega
theorem Mono.inj {f : Int → Int} {xs : List Int} (h : Mono f xs) {x y : Int} (hx : x ∈ xs) (hy : y ∈ xs) (e : f x = f y) : x = y := by
  rcases Int.lt_trichotomy x y with q | q | q
  · have := h x hx y hy q; omega
  · exact q
  · have := h y hy x hx q; omega
theorem Mono.gt {f : Int → Int} {xs : List Int} (h : Mono f xs) {x : Int} (hx : x ∈ xs) : ∀ {ys : List Int}, (∀ y ∈ ys, y ∈ xs) → gt (f x) (ys.map f) = gt x ys := fun {ys} hy => by
  unfold LB.gt
  rw [List.filter_map, List.length_map]
  congr 1
  refine List.filter_congr fun y hm => ?_
  show decide (f x < f y) = decide (x < y)
  rw [decide_eq_decide]
  exact h.lt hx (hy y hm)
theorem Mono.srt {f : Int → Int} {xs : List Int} (h : Mono f xs) : srt (xs.map f) = (srt xs).map f := by
  refine (srt_unique ((srt_perm xs).map f) ?_).symm
  rw [List.pairwise_map]
  refine List.Pairwise.imp_of_mem (fun {a b} ha hb hab => ?_) (srt_pw xs)
  rcases Int.lt_or_eq_of_le hab with q | q
  · exact Int.le_of_lt (h a (mem_srt.mp ha) b (mem_srt.mp hb) q)
  · rw [q]; exact Int.le_refl _
theorem Mono.ltn {f : Int → Int} {xs : List Int} (h : Mono f xs) : ltn (xs.map f) = ltn xs := by
  unfold LB.ltn
  rw [List.zipIdx_map, List.map_map]
  refine List.map_congr_left fun p hp => ?_
  obtain ⟨x, i⟩ := p
  have h1 := List.getElem?_eq_some_iff.mp (List.mk_mem_zipIdx_iff_getElem?.mp hp)
  obtain ⟨h2, h3⟩ := h1
  show ((LB.gt (f x) ((xs.map f).take i) : Nat) : Int) = ((LB.gt x (xs.take i) : Nat) : Int)
  rw [← List.map_take, h.gt (h3 ▸ List.getElem_mem h2) fun y hy => List.mem_of_mem_take hy]
theorem Mono.idx {f : Int → Int} : ∀ {xs : List Int} (_ : Mono f xs) {x : Int} (_ : x ∈ xs), (xs.map f).idxOf (f x) = xs.idxOf x
  | [], _, x, hx => by cases hx
  | y :: ys, h, x, hx => by
    rw [List.map_cons, List.idxOf_cons, List.idxOf_cons]
    by_cases e : y = x
    · subst e; simp
    · have ne : ¬ f y = f x := fun q => e (h.inj List.mem_cons_self hx q)
      have b1 : (f y == f x) = false := by simpa using ne
      have b2 : (y == x) = false := by simpa using e
      rw [b1, b2]
      simp only [cond_false]
      rcases List.mem_cons.mp hx with q | q
      · exact absurd q.symm e
      · rw [(h.sub fun z hz => List.mem_cons_of_mem _ hz).idx q]
theorem Mono.lateI {f : Int → Int} {xs : List Int} (h : Mono f xs) {x : Int} (hx : x ∈ xs) : lateI (xs.map f) (f x) = lateI xs x := by
  unfold LB.lateI
  rw [h.idx hx, ← List.map_take, h.gt hx fun y hy => List.mem_of_mem_take hy]
theorem Mono.ages {f : Int → Int} {xs : List Int} (h : Mono f xs) : ages (xs.map f) = ages xs := by
  unfold LB.ages
  rw [h.srt, List.map_map]
  refine List.map_congr_left fun x hx => ?_
  show ((LB.lateI (xs.map f) (f x) : Nat) : Int) = _
  rw [h.lateI (mem_srt.mp hx)]
theorem Mono.pass {f : Int → Int} (s : Nat) (xs : List Int) : Mono f xs → passS s (xs.map f) = ((passS s xs).1.map f, (passS s xs).2.map (List.map f)) := by
  induction xs using snocRec with
  | h0 => intro _; rfl
  | h1 xs x ih =>
    intro h
    have h1 := ih (h.sub fun y hy => List.mem_append_left _ hy)
    rw [List.map_append, List.map_singleton, passS_snoc, passS_snoc, h1]
    have hm : Mono f ((passS s xs).1 ++ [x]) := h.sub fun y hy => by
      rcases List.mem_append.mp hy with q | q
      · exact List.mem_append_left _ ((passS_perm s xs).mem_iff.mp (List.mem_append_right _ q))
      · exact List.mem_append_right _ q
    have e := hm.srt
    rw [List.map_append, List.map_singleton] at e
    simp only [e, List.length_map, List.map_drop, List.map_take, List.map_append, List.map_cons, List.map_nil]
theorem Mono.out {f : Int → Int} {xs : List Int} (h : Mono f xs) (s : Nat) : outR (xs.map f) s = (outR xs s).map f := by
  rw [outR_eq, outR_eq, Mono.pass s xs h, List.map_append, List.map_flatten]
theorem Mono.newer {f : Int → Int} {xs : List Int} (h : Mono f xs) {x : Int} (hx : x ∈ xs) : newerL (xs.map f) (f x) = newerL xs x := by
  unfold newerL
  rw [List.zipIdx_map, List.filter_map, List.map_map]
  have e : (xs.zipIdx.filter ((fun p : Int × Nat => decide (f x < p.1)) ∘ Prod.map f id)) = xs.zipIdx.filter fun p => decide (x < p.1) := by
    refine List.filter_congr fun p hp => ?_
    show decide (f x < f p.1) = decide (x < p.1)
    rw [decide_eq_decide]
    have h1 := List.getElem?_eq_some_iff.mp (List.mem_zipIdx_iff_getElem?.mp hp)
    obtain ⟨h2, h3⟩ := h1
    exact h.lt hx (h3 ▸ List.getElem_mem h2)
  rw [e]
  rfl
theorem Mono.emT {f : Int → Int} {xs : List Int} (h : Mono f xs) (s : Nat) : emT s (xs.map f) = emT s xs := by
  unfold LB.emT
  rw [List.map_map]
  refine List.map_congr_left fun x hx => ?_
  show timeL (xs.map f) s ((xs.map f).idxOf (f x)) (f x) = _
  unfold timeL
  rw [h.idx hx, h.newer hx, List.length_map]
theorem Mono.least {f : Int → Int} {xs : List Int} (h : Mono f xs) (m : Nat) : leastR (xs.map f) m = leastR xs m := by
  unfold leastR
  rw [h.ltn]
theorem rng_free (o : List Int) (s : Nat) : rngR o s [] = (ages o).zipIdx.map fun p => rowB o.length s p.2 p.1 := by
  unfold rngR
  have hl : (srt o).length = (ages o).length := by unfold ages; rw [List.length_map]
  refine List.ext_getElem? fun i => ?_
  rw [List.getElem?_map, List.getElem?_map, List.getElem?_zipIdx, List.getElem?_zipIdx]
  by_cases hi : i < (ages o).length
  · rw [List.getElem?_eq_getElem hi, show ((srt o).zip (ages o))[i]? = some ((srt o)[i]'(by omega), (ages o)[i]) from List.getElem?_zip_eq_some.mpr ⟨List.getElem?_eq_getElem _, List.getElem?_eq_getElem _⟩]
    rfl
  · rw [List.getElem?_eq_none (Nat.not_lt.mp hi), List.getElem?_eq_none (by rw [List.length_zip]; omega)]
    rfl
theorem Mono.rng {f : Int → Int} {xs : List Int} (h : Mono f xs) (s : Nat) : rngR (xs.map f) s [] = rngR xs s [] := by
  rw [rng_free, rng_free, h.ages, List.length_map]
/-! ### one more item, the least; one more, the first and the greatest -/
theorem ltn_snoc' (xs : List Int) (x : Int) : ltn (xs ++ [x]) = ltn xs ++ [((gt x xs : Nat) : Int)] := by
  unfold ltn
  rw [List.zipIdx_append, List.map_append]
  congr 1
  · refine List.map_congr_left fun p hp => ?_
    have h1 := List.getElem?_eq_some_iff.mp (List.mem_zipIdx_iff_getElem?.mp hp)
    obtain ⟨h2, h3⟩ := h1
    rw [List.take_append_of_le_length (by omega)]
  · simp
theorem gt_every {x : Int} {xs : List Int} (h : ∀ y ∈ xs, x < y) : gt x xs = xs.length := by
  unfold gt
  rw [List.filter_eq_self.mpr fun y hy => decide_eq_true (h y hy)]
theorem least_last {xs : List Int} {x : Int} (h : ∀ y ∈ xs, x < y) : leastR (xs ++ [x]) 0 = xs.length := by
  have h1 : ((xs.length : Nat) : Int) ∈ ltn (xs ++ [x]) := by rw [ltn_snoc', gt_every h]; simp
  have h2 := least_ge h1
  have h3 := least_mx (xs := xs ++ [x]) (by simp)
  have h4 : ltn (xs ++ [x]) ≠ [] := fun e => by rw [e] at h1; cases h1
  have h5 := (ltn_rng (mxL_mem h4)).2
  rw [h3, List.length_append, List.length_singleton] at h5
  omega
theorem held_len (s : Nat) (xs : List Int) : (passS s xs).1.length = min s xs.length := by
  induction xs using snocRec with
  | h0 => simp [passS]
  | h1 xs x ih =>
    rw [passS_snoc, List.length_drop, srt_length, List.length_append, List.length_append, List.length_singleton, ih]
    omega
theorem out_last {xs : List Int} {x : Int} (h : ∀ y ∈ xs, x < y) (s : Nat) : (outR (xs ++ [x]) s)[xs.length - s]? = some x := by
  rw [outR_snoc]
  have h1 := (passS_perm s xs).length_eq
  rw [List.length_append, held_len] at h1
  have h2 : srt ((passS s xs).1 ++ [x]) = x :: srt (passS s xs).1 := by
    refine (srt_unique ?_ (List.pairwise_cons.mpr ⟨fun y hy => Int.le_of_lt (h y ((passS_perm s xs).mem_iff.mp (List.mem_append_right _ (mem_srt.mp hy)))), srt_pw _⟩)).symm
    exact ((srt_perm _).cons x).trans (List.perm_append_singleton x _).symm
  rw [h2, List.getElem?_append_right (by omega), show xs.length - s - (passS s xs).2.flatten.length = 0 from by omega]
  rfl
theorem ltn_first {M : Int} (xs : List Int) : (∀ y ∈ xs, y < M) → ltn (M :: xs) = 0 :: (ltn xs).map fun l => 1 + l := by
  induction xs using snocRec with
  | h0 => intro _; rfl
  | h1 xs x ih =>
    intro h
    have e : M :: (xs ++ [x]) = (M :: xs) ++ [x] := rfl
    rw [e, ltn_snoc', ltn_snoc', ih fun y hy => h y (List.mem_append_left _ hy), List.map_append]
    have hg : gt x (M :: xs) = 1 + gt x xs := by
      unfold gt
      rw [List.filter_cons_of_pos (p := fun y => decide (x < y)) (decide_eq_true (h x (by simp))), List.length_cons, Nat.add_comm]
    rw [hg]
    simp
theorem pass_first {M : Int} (s : Nat) (xs : List Int) : (∀ y ∈ xs, y < M) → passS (s + 1) (M :: xs) = ((passS s xs).1 ++ [M], [] :: (passS s xs).2) := by
  induction xs using snocRec with
  | h0 =>
    intro _
    show passS (s + 1) ([] ++ [M]) = _
    rw [passS_snoc]
    have e : srt ((passS (s + 1) []).1 ++ [M]) = [M] := srt_of_pw (by simp [passS])
    rw [e]
    simp [passS]
  | h1 xs x ih =>
    intro h
    have e : M :: (xs ++ [x]) = (M :: xs) ++ [x] := rfl
    rw [e, passS_snoc, passS_snoc, ih fun y hy => h y (List.mem_append_left _ hy)]
    have hh : ∀ y ∈ (passS s xs).1 ++ [x], y < M := fun y hy => by
      rcases List.mem_append.mp hy with q | q
      · exact h y (List.mem_append_left _ ((passS_perm s xs).mem_iff.mp (List.mem_append_right _ q)))
      · exact h y (List.mem_append_right _ q)
    have e2 : srt ((passS s xs).1 ++ [M] ++ [x]) = srt ((passS s xs).1 ++ [x]) ++ [M] := by
      refine (srt_unique ?_ (List.pairwise_append.mpr ⟨srt_pw _, List.pairwise_singleton _ _, fun a ha b hb => ?_⟩)).symm
      · refine ((srt_perm _).append_right [M]).trans ?_
        rw [List.append_assoc, List.append_assoc]
        exact List.Perm.append_left _ (List.perm_append_comm (l₁ := [x]) (l₂ := [M]))
      · rw [List.mem_singleton.mp hb]
        exact Int.le_of_lt (hh a (mem_srt.mp ha))
    have hl : (srt ((passS s xs).1 ++ [x])).length = (passS s xs).1.length + 1 := by rw [srt_length, List.length_append, List.length_singleton]
    simp only [e2, List.length_append, List.length_singleton]
    rw [show (passS s xs).1.length + 1 + 1 - (s + 1) = (passS s xs).1.length + 1 - s from by omega, List.drop_append_of_le_length (by omega), List.take_append_of_le_length (by omega)]
    simp
theorem out_first {M : Int} {xs : List Int} (h : ∀ y ∈ xs, y < M) (s : Nat) : outR (M :: xs) (s + 1) = outR xs s ++ [M] := by
  rw [outR_eq, outR_eq, pass_first s xs h, List.flatten_cons, List.nil_append, List.append_assoc]
/-! ### the timestamps moved -/
def mvF (xs its : List Int) (x : Int) : Int := (its[(srt xs).idxOf x]?).getD 0
theorem mv_mono {xs its : List Int} (hl : its.length = xs.length) (hs : its.Pairwise (· < ·)) : Mono (mvF xs its) xs := fun x hx y hy hlt => by
  have hx' := mem_srt.mpr hx
  have hy' := mem_srt.mpr hy
  have lx := List.idxOf_lt_length_of_mem hx'
  have ly := List.idxOf_lt_length_of_mem hy'
  have gx := List.getElem_idxOf lx
  have gy := List.getElem_idxOf ly
  have hij : (srt xs).idxOf x < (srt xs).idxOf y := by
    refine Classical.byContradiction fun hn => ?_
    rcases Nat.lt_or_eq_of_le (Nat.not_lt.mp hn) with q | q
    · have := List.pairwise_iff_getElem.mp (srt_pw xs) _ _ ly lx q
      rw [gx, gy] at this
      omega
    · have : x = y := by rw [← gx, ← gy]; simp only [q]
      omega
  rw [srt_length] at lx ly
  unfold mvF
  rw [List.getElem?_eq_getElem (by omega), List.getElem?_eq_getElem (by omega)]
  exact List.pairwise_iff_getElem.mp hs _ _ (by omega) (by omega) hij
theorem mv_mem {xs its : List Int} (hl : its.length = xs.length) {x : Int} (hx : x ∈ xs) : mvF xs its x ∈ its := by
  have lx := List.idxOf_lt_length_of_mem (mem_srt.mpr hx)
  rw [srt_length] at lx
  unfold mvF
  rw [List.getElem?_eq_getElem (by omega)]
  exact List.getElem_mem _
theorem mv_out (xs its : List Int) (s : Nat) : mvF (outR xs s) its = mvF xs its := by
  unfold mvF
  rw [srt_congr (outR_perm xs s)]
theorem getP_zip : ∀ {ks : List Int} {vs : List Pd} {pre : List (Key × Pd)} (_ : ks.Nodup) (_ : ∀ k ∈ ks, getP pre (Sum.inl k) = none) (_ : vs.length = ks.length) {k : Int}, (getP (mergeP pre ((ks.zip vs).map fun q => ((Sum.inl q.1 : Key), q.2))) (Sum.inl k)) = if k ∈ ks then vs[ks.idxOf k]? else getP pre (Sum.inl k)
  | [], vs, pre, _, _, _, k => by simp [mergeP]
  | a :: ks, [], pre, _, _, h, k => by cases h
  | a :: ks, v :: vs, pre, hn, hp, h, k => by
    have hn' := List.nodup_cons.mp hn
    show getP (mergeP (putP pre (Sum.inl a) v) ((ks.zip vs).map fun q => ((Sum.inl q.1 : Key), q.2))) (Sum.inl k) = _
    rw [getP_zip hn'.2 (fun b hb => ?_) (by simpa using h)]
    · have hpu : getP (putP pre (Sum.inl a) v) (Sum.inl k) = if (Sum.inl k : Key) = Sum.inl a then some v else getP pre (Sum.inl k) := getP_put _ _ _ _
      by_cases e : k = a
      · subst e
        rw [if_neg hn'.1, if_pos List.mem_cons_self, hpu, if_pos rfl, List.idxOf_cons_self]
        rfl
      · have ne : ¬ ((Sum.inl k : Key) = Sum.inl a) := fun q => e (by cases q; rfl)
        by_cases hk : k ∈ ks
        · rw [if_pos hk, if_pos (List.mem_cons_of_mem _ hk), List.idxOf_cons, show (a == k) = false from by simpa using Ne.symm e]
          rfl
        · rw [if_neg hk, hpu, if_neg ne, if_neg fun q => (List.mem_cons.mp q).elim e hk]
    · rw [getP_put, if_neg fun q => hn'.1 (by cases q; exact hb)]
      exact hp b (List.mem_cons_of_mem _ hb)
theorem mv_get {xs its : List Int} (hn : xs.Nodup) (hl : its.length = xs.length) {x : Int} (hx : x ∈ xs) : getP (mergeP [] (((srt xs).zip (its.map PyData.int)).map fun q => ((Sum.inl q.1 : Key), q.2))) (Sum.inl x) = some (.int (mvF xs its x)) := by
  rw [getP_zip (srt_nodup.mpr hn) (fun _ _ => rfl) (by rw [List.length_map, srt_length, hl]), if_pos (mem_srt.mpr hx)]
  have lx := List.idxOf_lt_length_of_mem (mem_srt.mpr hx)
  rw [srt_length] at lx
  unfold mvF
  rw [List.getElem?_map, List.getElem?_eq_getElem (by omega)]
  rfl
abbrev p__law_moved : RR := rP fun ds r => ∃ xs its : List Int, VS xs ∧ its.length = xs.length ∧ ds = [iT xs, iL its] ∧ r = .d (iT (xs.map (mvF xs its)))
/-- the new timestamps -/
def itN (b : Bag) : Nat → List Int × Bag
  | 0 => ([], b)
  | n + 1 => ((itN b n).1 ++ [(itN b n).1.getLastD 0 + 1 + takeR (itN b n).2 1000], takeB (itN b n).2 1000)
theorem itN_len (b : Bag) : ∀ n : Nat, (itN b n).1.length = n
  | 0 => rfl
  | n + 1 => by
    show ((itN b n).1 ++ [_]).length = _
    rw [List.length_append, itN_len b n]
    rfl
theorem itN_ok {b : Bag} {k : Nat} : ∀ {n : Nat}, okB (k + n) b → okB k (itN b n).2
  | 0, h => h
  | n + 1, h => (itN_ok (k := k + 1) (n := n) (h.mono (by omega))).take
theorem itN_rng (b : Bag) : ∀ n : Nat, (itN b n).1.Pairwise (· < ·) ∧ (∀ x ∈ (itN b n).1, 1 ≤ x ∧ x ≤ (itN b n).1.getLastD 0) ∧ 0 ≤ (itN b n).1.getLastD 0 ∧ (itN b n).1.getLastD 0 ≤ 1001 * (n : Int)
  | 0 => ⟨.nil, fun x h => (by cases h), Int.le_refl 0, Int.le_refl 0⟩
  | n + 1 => by
    obtain ⟨h1, h2, h3, h4⟩ := itN_rng b n
    have hr := takeR_rng (itN b n).2 (m := 1000) (by decide)
    have e : (itN b (n + 1)).1 = (itN b n).1 ++ [(itN b n).1.getLastD 0 + 1 + takeR (itN b n).2 1000] := rfl
    rw [e]
    have el : ∀ (l : List Int) (y : Int), (l ++ [y]).getLastD 0 = y := fun l y => by simp
    rw [el]
    refine ⟨List.pairwise_append.mpr ⟨h1, List.pairwise_singleton _ _, fun x hx y hy => ?_⟩, fun x hx => ?_, by omega, by omega⟩
    · rw [List.mem_singleton.mp hy]
      have := (h2 x hx).2
      omega
    · rcases List.mem_append.mp hx with q | q
      · have := h2 x q
        omega
      · rw [List.mem_singleton.mp q]
        omega
theorem streamP_len {most : Nat} {b : Bag} (h1 : 1 ≤ most) (hm : most ≤ 40) : (streamP most b).1.length ≤ most := by
  rw [(streamP_perm most b).length_eq]
  exact (itemsP_it (b := b) h1 hm).len
theorem iL_last (a : Int) (l : List Int) : atI ((a :: l).map PyData.int) (-1) = some (.int ((a :: l).getLastD 0)) := by
  have h : a :: l = (a :: l).dropLast ++ [(a :: l).getLastD 0] := by
    have := List.dropLast_concat_getLast (l := a :: l) (by simp)
    rw [List.getLastD_eq_getLast?, List.getLast?_eq_some_getLast (by simp)]
    exact this.symm
  generalize (a :: l).getLastD 0 = z at h
  rw [h, List.map_append]
  exact atI_last _ _
end LB

set_option Elab.async false
set_option linter.all false
set_option autoImplicit false
/-! LB14: facts. -/
namespace LB
open DL PySem PySem.Spec PyProof.Rows L2
def wd (r : Int × Int) : Int := max 0 (r.2 - r.1 + 1)
theorem ways_cons (r : Int × Int) (rows : List (Int × Int)) : ways (r :: rows) = wd r * ways rows := by
  have key : ∀ (l : List (Int × Int)) (c : Int), l.foldl (fun w r => w * max 0 (r.2 - r.1 + 1)) c = c * l.foldl (fun w r => w * max 0 (r.2 - r.1 + 1)) 1 := fun l => by
    induction l with
    | nil => intro c; simp
    | cons a l ih => intro c; rw [List.foldl_cons, List.foldl_cons, ih (c * _), ih (1 * _), Int.one_mul, Int.mul_assoc]
  show List.foldl _ (1 * max 0 (r.2 - r.1 + 1)) rows = _
  rw [key, Int.one_mul]
  rfl
theorem ways_app (a b : List (Int × Int)) : ways (a ++ b) = ways a * ways b := by
  induction a with
  | nil => show ways b = 1 * ways b; rw [Int.one_mul]
  | cons r a ih => rw [List.cons_append, ways_cons, ways_cons, ih, Int.mul_assoc]
theorem ways_nonneg (rows : List (Int × Int)) : 0 ≤ ways rows := by
  induction rows with
  | nil => show (0 : Int) ≤ 1; decide
  | cons r rows ih => rw [ways_cons]; exact Int.mul_nonneg (by unfold wd; omega) ih
theorem ways_mul4 {α : Type} (l : List α) {f g h k : α → Int × Int} (e : ∀ p ∈ l, wd (f p) * wd (g p) = wd (h p) * wd (k p)) : ways (l.map f) * ways (l.map g) = ways (l.map h) * ways (l.map k) := by
  induction l with
  | nil => rfl
  | cons p l ih =>
    simp only [List.map_cons, ways_cons]
    have h1 := e p List.mem_cons_self
    have h2 := ih fun q hq => e q (List.mem_cons_of_mem _ hq)
    calc wd (f p) * ways (l.map f) * (wd (g p) * ways (l.map g)) = wd (f p) * wd (g p) * (ways (l.map f) * ways (l.map g)) := by ac_rfl
      _ = wd (h p) * wd (k p) * (ways (l.map h) * ways (l.map k)) := by rw [h1, h2]
      _ = _ := by ac_rfl
theorem rowF_other {fs : List F3} {item : Int} {r : Int × Int} (h : ∀ f ∈ fs, f.1 ≠ item) : rowF fs item r = r := by
  induction fs using snocRec with
  | h0 => rfl
  | h1 fs f ih =>
    rw [rowF_snoc, ih fun q hq => h q (List.mem_append_left _ hq)]
    unfold stF
    rw [if_neg (h f (by simp))]
theorem rowF_app (a b : List F3) (item : Int) (r : Int × Int) : rowF (a ++ b) item r = rowF b item (rowF a item r) := by unfold rowF; rw [List.foldl_append]
/-- facts on two items never touch -/
theorem facts_two (o : List Int) (s : Nat) {fs gs : List F3} {x y : Int} (hne : x ≠ y) (hf : ∀ f ∈ fs, f.1 = x) (hg : ∀ f ∈ gs, f.1 = y) : ways (rngR o s (fs ++ gs)) * ways (rngR o s []) = ways (rngR o s fs) * ways (rngR o s gs) := by
  unfold rngR
  refine ways_mul4 _ fun p _ => ?_
  rw [rowF_app]
  by_cases e : p.1.1 = x
  · have h1 : ∀ r, rowF gs p.1.1 r = r := fun r => rowF_other fun f hm q => hne (by rw [← e, ← q, hg f hm])
    rw [h1, h1]
    rfl
  · have h1 : ∀ r, rowF fs p.1.1 r = r := fun r => rowF_other fun f hm q => e (by rw [← q, hf f hm])
    rw [h1, Int.mul_comm]
    rfl
/-- all but one row -/
theorem facts_one {o : List Int} (hn : o.Nodup) (s : Nat) {x : Int} (hx : x ∈ o) : ∃ (c : Int) (b : Int × Int), 0 ≤ c ∧ 0 ≤ b.1 ∧ b.2 ≤ (o.length : Int) - 1 ∧ ∀ fs : List F3, (∀ f ∈ fs, f.1 = x) → ways (rngR o s fs) = c * wd (rowF fs x b) := by
  have hz : (((srt o).zip (ages o)).zipIdx.map fun p => p.1.1) = srt o := by
    have h1 : (((srt o).zip (ages o)).zipIdx.map fun p => p.1.1) = ((srt o).zip (ages o)).map (·.1) := by
      show ((srt o).zip (ages o)).zipIdx.map (Prod.fst ∘ Prod.fst) = _
      rw [← List.map_map, List.zipIdx_map_fst]
    rw [h1, zip_fst]
    have hl : (srt o).length = (ages o).length := by unfold ages; rw [List.length_map]
    rw [← hl, List.take_length]
  obtain ⟨p, hp, e⟩ := List.mem_map.mp (show x ∈ (((srt o).zip (ages o)).zipIdx.map fun p => p.1.1) from by rw [hz]; exact mem_srt.mpr hx)
  obtain ⟨A, B, hAB⟩ := List.append_of_mem hp
  have nd := srt_nodup.mpr hn
  rw [← hz, hAB, List.map_append, List.map_cons, List.nodup_append, List.nodup_cons] at nd
  obtain ⟨_, ⟨nB, _⟩, nA⟩ := nd
  have hr : rowB o.length s p.2 p.1.2 ∈ rngR o s [] := List.mem_map.mpr ⟨p, hp, rfl⟩
  refine ⟨ways (A.map fun p => rowB o.length s p.2 p.1.2) * ways (B.map fun p => rowB o.length s p.2 p.1.2), rowB o.length s p.2 p.1.2, Int.mul_nonneg (ways_nonneg _) (ways_nonneg _), (rng_ok hr).1, (rng_ok hr).2, fun fs hf => ?_⟩
  unfold rngR
  rw [hAB, List.map_append, List.map_cons, ways_app, ways_cons, ← e]
  have hA : (A.map fun p => rowF fs p.1.1 (rowB o.length s p.2 p.1.2)) = A.map fun p => rowB o.length s p.2 p.1.2 := List.map_congr_left fun q hq => rowF_other fun f hm z => nA _ (List.mem_map.mpr ⟨q, hq, rfl⟩) _ List.mem_cons_self (by rw [← z, hf f hm, ← e])
  have hB : (B.map fun p => rowF fs p.1.1 (rowB o.length s p.2 p.1.2)) = B.map fun p => rowB o.length s p.2 p.1.2 := List.map_congr_left fun q hq => rowF_other fun f hm z => nB (List.mem_map.mpr ⟨q, hq, by rw [← z, hf f hm, ← e]⟩)
  rw [hA, hB]
  ac_rfl
/-- the row of one item -/
def rowA (o : List Int) (s : Nat) (fs : List F3) (x : Int) : Int × Int := rowF fs x (rowB o.length s ((srt o).idxOf x) ((lateI o x : Nat) : Int))
theorem rng_get {o : List Int} {s : Nat} {fs : List F3} {x : Int} (hx : x ∈ o) : (rngR o s fs)[(srt o).idxOf x]? = some (rowA o s fs x) := by
  have lx := List.idxOf_lt_length_of_mem (mem_srt.mpr hx)
  have gx := List.getElem_idxOf lx
  unfold rngR
  have h1 : (srt o)[(srt o).idxOf x]? = some x := by rw [List.getElem?_eq_getElem lx, gx]
  have h2 : (ages o)[(srt o).idxOf x]? = some ((lateI o x : Nat) : Int) := by unfold ages; rw [List.getElem?_map, h1]; rfl
  rw [List.getElem?_map, List.getElem?_zipIdx, show ((srt o).zip (ages o))[(srt o).idxOf x]? = some (x, ((lateI o x : Nat) : Int)) from List.getElem?_zip_eq_some.mpr ⟨h1, h2⟩]
  simp [rowA]
theorem rowA_rng {o : List Int} {s : Nat} {x : Int} (hx : x ∈ o) : 0 ≤ (rowA o s [] x).1 ∧ (rowA o s [] x).2 ≤ (o.length : Int) - 1 := rng_ok (List.mem_of_getElem? (rng_get (s := s) (fs := []) hx))
theorem wd_mono {fs : List F3} {item : Int} {r : Int × Int} : wd (rowF fs item r) ≤ wd r := by
  have := rowF_ge (fs := fs) (item := item) (r := r)
  unfold wd
  omega
theorem wd_nonneg (r : Int × Int) : 0 ≤ wd r := by unfold wd; omega
theorem whole_pos {o : List Int} (hn : o.Nodup) {s : Nat} {x : Int} (hx : x ∈ o) {fs : List F3} (hf : ∀ f ∈ fs, f.1 = x) (h : 0 < ways (rngR o s fs)) : 0 < ways (rngR o s []) := by
  obtain ⟨c, b, hc, _, _, e⟩ := facts_one hn s hx
  rw [e fs hf] at h
  rw [e [] fun f h => nomatch h]
  have h1 : c ≠ 0 := fun q => by rw [q, Int.zero_mul] at h; exact absurd h (by decide)
  have h2 : wd (rowF fs x b) ≠ 0 := fun q => by rw [q, Int.mul_zero] at h; exact absurd h (by decide)
  have h3 := wd_mono (fs := fs) (item := x) (r := b)
  have h4 := wd_nonneg (rowF fs x b)
  exact Int.mul_pos (by omega) (show 0 < wd b by omega)
theorem facts_cut {o : List Int} (hn : o.Nodup) (hl : o.length ≤ 40) {s : Nat} {x : Int} (hx : x ∈ o) {cut : Int} (hc : 0 < cut) (hc2 : cut ≤ 40) : ways (rngR o s [(x, cut, 40)]) + ways (rngR o s [(x, 0, cut - 1)]) = ways (rngR o s []) := by
  obtain ⟨c, b, _, b0, b1, e⟩ := facts_one hn s hx
  rw [e _ (by simp), e _ (by simp), e [] (by simp), ← Int.mul_add]
  congr 1
  have h1 : ∀ l m : Int, rowF [(x, l, m)] x b = (max b.1 l, min b.2 m) := fun l m => if_pos rfl
  rw [h1, h1, show rowF [] x b = b from rfl]
  unfold wd
  simp only []
  omega
theorem facts_none {o : List Int} (hn : o.Nodup) {s : Nat} {x : Int} (hx : x ∈ o) : ways (rngR o s [(x, 0, 0), (x, 1, 40)]) = 0 := by
  obtain ⟨c, b, _, b0, b1, e⟩ := facts_one hn s hx
  rw [e _ (by simp)]
  have h1 : rowF [(x, 0, 0), (x, 1, 40)] x b = (max (max b.1 0) 1, min (min b.2 0) 40) := by
    show stF x (stF x b _) _ = _
    unfold stF
    simp
  rw [h1]
  have : wd (max (max b.1 0) 1, min (min b.2 0) 40) = 0 := by
    unfold wd
    simp only []
    omega
  rw [this, Int.mul_zero]
theorem sum_mul {α : Type} (l : List α) (c : Int) (f : α → Int) : (l.map fun x => c * f x).sum = c * (l.map f).sum := by
  induction l with
  | nil => simp
  | cons a l ih => rw [List.map_cons, List.map_cons, List.sum_cons, List.sum_cons, ih, Int.mul_add]
theorem sum_width {b : Int × Int} (h0 : 0 ≤ b.1) : ∀ n : Nat, ((List.range n).map fun l : Nat => wd (max b.1 (l : Int), min b.2 (l : Int))).sum = max 0 (min b.2 ((n : Int) - 1) - b.1 + 1)
  | 0 => by
    show (0 : Int) = _
    omega
  | n + 1 => by
    rw [List.range_succ, List.map_append, List.map_singleton, List.sum_append, sum_width h0 n]
    simp only [List.sum_cons, List.sum_nil, wd]
    omega
theorem facts_sum {o : List Int} (hn : o.Nodup) (hl : o.length ≤ 40) {s : Nat} {x : Int} (hx : x ∈ o) : ((List.range 41).map fun l : Nat => ways (rngR o s [(x, (l : Int), (l : Int))])).sum = ways (rngR o s []) := by
  obtain ⟨c, b, _, b0, b1, e⟩ := facts_one hn s hx
  have h1 : ∀ l m : Int, rowF [(x, l, m)] x b = (max b.1 l, min b.2 m) := fun l m => if_pos rfl
  have h2 : ((List.range 41).map fun l : Nat => ways (rngR o s [(x, (l : Int), (l : Int))])) = (List.range 41).map fun l : Nat => c * wd (max b.1 (l : Int), min b.2 (l : Int)) := List.map_congr_left fun l _ => by rw [e _ (by simp), h1]
  rw [h2, sum_mul, sum_width b0, e [] (by simp)]
  congr 1
  show _ = max 0 (b.2 - b.1 + 1)
  omega
theorem rowA_one {o : List Int} {s : Nat} {x : Int} (hx : x ∈ o) (hl : o.length ≤ 40) (cut : Int) : rowA o s [(x, cut, 40)] x = (max cut (rowA o s [] x).1, (rowA o s [] x).2) := by
  have h1 := (rowA_rng (s := s) hx).2
  have h2 : rowA o s [(x, cut, 40)] x = (max (rowA o s [] x).1 cut, min (rowA o s [] x).2 40) := if_pos rfl
  rw [h2]
  refine Prod.ext ?_ ?_
  · show max _ _ = max _ _; omega
  · show min _ _ = _; omega
theorem rowA_not {o : List Int} {s : Nat} {x y : Int} (h : y ≠ x) (l m : Int) : rowA o s [(x, l, m)] y = rowA o s [] y := if_neg fun q => h q.symm
def optR (o : Option (Int × Int)) : Pd := match o with
  | some r => rD r
  | none => .none
def lrR (o : List Int) (s : Nat) (fs : List F3) (x : Int) : Option (Int × Int) := if 0 < ways (rngR o s fs) then some (rowA o s fs x) else none
abbrev p_check_member : RR := rP fun ds r => ∃ (xs : List Int) (x : Int), VS xs ∧ x ∈ xs ∧ ds = [iT xs, .int x] ∧ r = .d .none
abbrev p_lateness_range : RR := rP fun ds r => ∃ (o : List Int) (s : Nat) (fs : List F3) (x : Int), VS o ∧ s ≤ 40 ∧ FOk o fs ∧ x ∈ o ∧ ds = [iT o, .int (s : Nat), .tuple (fs.map fD), .int x] ∧ r = .d (optR (lrR o s fs x))
theorem rD_iT (r : Int × Int) : rD r = iT [r.1, r.2] := rfl
def pickS (i : Int) : Int := if i = 0 then 3 else if i = 1 then 10 else 31
theorem pickS_pos (i : Int) : 0 < pickS i ∧ pickS i ≤ 31 := by unfold pickS; split <;> (try split) <;> decide
theorem fok1 {o : List Int} {x l m : Int} (hx : x ∈ o) (h0 : 0 ≤ l) (h1 : l ≤ m) (h2 : m ≤ 40) : FOk o [(x, l, m)] := ⟨Nat.le_of_ble_eq_true rfl, fun f h => by rw [List.mem_singleton.mp h]; exact ⟨hx, h0, h1, h2⟩⟩
theorem fok2 {o : List Int} {f g : F3} (h : FOk o [f]) (k : FOk o [g]) : FOk o [f, g] := ⟨Nat.le_of_ble_eq_true rfl, fun q hq => by
  rcases List.mem_cons.mp hq with z | z
  · exact h.2 q (by rw [z]; simp)
  · exact k.2 q z⟩
end LB

set_option Elab.async false
set_option linter.all false
set_option autoImplicit false
/-! LB15: witnesses. -/
namespace LB
open DL PySem PySem.Spec PyProof.Rows L2
def inR (d : Pd) (lo hi : Int) : Bool := match d with
  | .int v => decide (lo ≤ v) && decide (v ≤ hi)
  | _ => false
theorem inR_int {d : Pd} {lo hi : Int} (h : inR d lo hi = true) : ∃ v, d = .int v ∧ lo ≤ v ∧ v ≤ hi := by
  cases d <;> first | (exact ⟨_, rfl, by simpa [inR] using h⟩) | (cases h; done)
theorem isInt_of {d : Pd} (h : ∀ v, d ≠ .int v) : DL.isInt d = false := by
  cases d <;> first | (exact absurd rfl (h _)) | (simp [DL.isInt, isI, tyN]; done)
theorem isI_int_of {d : Pd} (h : isI "int" d = true) (h2 : isI "bool" d = false) : ∃ v, d = .int v := by
  cases d <;> first | (exact ⟨_, rfl⟩) | (simp [isI, tyN] at h h2; done)
theorem inR_no {d : Pd} {lo hi : Int} (h : ∀ v, d ≠ .int v) : inR d lo hi = false := by
  cases d <;> first | rfl | (exact absurd rfl (h _))
def intsD : List Pd → Option (List Int)
  | [] => some []
  | .int v :: ds => (intsD ds).map (v :: ·)
  | _ :: _ => none
theorem intsD_map : ∀ ns : List Int, intsD (ns.map .int) = some ns
  | [] => rfl
  | n :: ns => by
    show (intsD (ns.map .int)).map (n :: ·) = _
    rw [intsD_map ns]
    rfl
theorem ints_of {lo hi : Int} : ∀ {ds : List Pd}, (ds.all fun e => inR e lo hi) = true → ∃ ns : List Int, ds = ns.map .int ∧ ∀ n ∈ ns, lo ≤ n ∧ n ≤ hi
  | [], _ => ⟨[], rfl, fun n h => nomatch h⟩
  | d :: ds, h => by
    rw [List.all_cons, Bool.and_eq_true] at h
    obtain ⟨v, rfl, hv⟩ := inR_int h.1
    obtain ⟨ns, rfl, hn⟩ := ints_of h.2
    exact ⟨v :: ns, rfl, fun n hm => by
      rcases List.mem_cons.mp hm with q | q
      · rw [q]; exact hv
      · exact hn n q⟩
def okN (xs : List Int) (s : Nat) (x : Int) (ns : List Int) : Bool := decide (x ∈ xs) && decide (ns.length = s + 1) && decide ns.Nodup && ns.all fun y => decide (y ∈ befL xs x) && decide (x < y)
def wit (xs : List Int) (s : Nat) (d : Pd) : Bool := match d with
  | .tuple [a, .tuple es] => inR a 0 1000000 && (es.all fun e => inR e 0 1000000) && (match a, intsD es with | .int x, some ns => okN xs s x ns | _, _ => false)
  | _ => false
theorem isT_cases (d : Pd) : (∃ ds, d = .tuple ds) ∨ (isI "tuple" d = false ∧ ∀ xs s, wit xs s d = false) := by
  cases d <;> first | (exact .inl ⟨_, rfl⟩) | (exact .inr ⟨by simp [isI, tyN], fun _ _ => rfl⟩)
theorem wit_len {ds : List Pd} (h : ds.length ≠ 2) (xs : List Int) (s : Nat) : wit xs s (.tuple ds) = false := by
  match ds, h with
  | [], _ => rfl
  | [a], _ => rfl
  | [a, b], h => exact absurd rfl h
  | a :: b :: c :: ds, _ => cases b <;> rfl
theorem wit_snd {a b : Pd} (h : isI "tuple" b = false) (xs : List Int) (s : Nat) : wit xs s (.tuple [a, b]) = false := by
  cases b <;> first | rfl | (rw [isI_tup] at h; cases h)
theorem wit_fst {a : Pd} {es : List Pd} (h : inR a 0 1000000 = false) (xs : List Int) (s : Nat) : wit xs s (.tuple [a, .tuple es]) = false := by
  show (inR a 0 1000000 && _ && _) = false
  rw [h, Bool.false_and, Bool.false_and]
theorem wit_all {a : Pd} {es : List Pd} (h : (es.all fun e => inR e 0 1000000) = false) (xs : List Int) (s : Nat) : wit xs s (.tuple [a, .tuple es]) = false := by
  show (_ && (es.all fun e => inR e 0 1000000) && _) = false
  rw [h, Bool.and_false, Bool.false_and]
theorem wit_ints {x : Int} {ns : List Int} (hx : 0 ≤ x ∧ x ≤ 1000000) (hn : ∀ n ∈ ns, 0 ≤ n ∧ n ≤ 1000000) (xs : List Int) (s : Nat) : wit xs s (.tuple [.int x, .tuple (ns.map .int)]) = okN xs s x ns := by
  have h1 : ((ns.map PyData.int).all fun e => inR e 0 1000000) = true := by
    rw [List.all_map]
    exact List.all_eq_true.mpr fun n h => by
      show (decide (0 ≤ n) && decide (n ≤ 1000000)) = true
      rw [decide_eq_true (hn n h).1, decide_eq_true (hn n h).2]
      rfl
  show (inR (.int x) 0 1000000 && ((ns.map PyData.int).all fun e => inR e 0 1000000) && (match PyData.int x, intsD (ns.map .int) with | .int x, some ns => okN xs s x ns | _, _ => false)) = _
  rw [h1, intsD_map, show inR (.int x) 0 1000000 = true from by show (decide (0 ≤ x) && decide (x ≤ 1000000)) = true; rw [decide_eq_true hx.1, decide_eq_true hx.2]; rfl]
  rfl
theorem wit_no {x : Int} {es : List Pd} {xs : List Int} {s : Nat} (h : ∀ ns : List Int, es = ns.map .int → okN xs s x ns = false) : wit xs s (.tuple [.int x, .tuple es]) = false := by
  cases he : es.all fun e => inR e 0 1000000 with
  | false => exact wit_all he xs s
  | true =>
    cases hx : inR (.int x) 0 1000000 with
    | false => exact wit_fst hx xs s
    | true =>
      obtain ⟨ns, rfl, hn⟩ := ints_of he
      obtain ⟨v, e, hv⟩ := inR_int hx
      cases e
      rw [wit_ints hv hn]
      exact h ns rfl
theorem okN_mem {xs ns : List Int} {s : Nat} {x : Int} (h : x ∉ xs) : okN xs s x ns = false := by unfold okN; rw [decide_eq_false h]; rfl
theorem okN_len {xs ns : List Int} {s : Nat} {x : Int} (h : ¬ ns.length = s + 1) : okN xs s x ns = false := by unfold okN; rw [decide_eq_false h, Bool.and_false]; rfl
theorem okN_dup {xs ns : List Int} {s : Nat} {x : Int} (h : ¬ ns.Nodup) : okN xs s x ns = false := by unfold okN; rw [decide_eq_false h, Bool.and_false]; rfl
theorem okN_bad {xs ns : List Int} {s : Nat} {x y : Int} (hy : y ∈ ns) (h : ¬ (y ∈ befL xs x ∧ x < y)) : okN xs s x ns = false := by
  unfold okN
  have : (ns.all fun y => decide (y ∈ befL xs x) && decide (x < y)) = false := by
    refine Bool.eq_false_iff.mpr fun q => h ?_
    have := List.all_eq_true.mp q y hy
    rw [Bool.and_eq_true, decide_eq_true_eq, decide_eq_true_eq] at this
    exact this
  rw [this, Bool.and_false]
theorem int_inj {a b : List Int} (h : a.map PyData.int = b.map PyData.int) : a = b := (List.map_inj_right fun x y e => by cases e; rfl).mp h
theorem mem_of_int {ns : List Int} {y : Int} (h : PyData.int y ∈ ns.map PyData.int) : y ∈ ns := by
  obtain ⟨z, hz, e⟩ := List.mem_map.mp h
  cases e
  exact hz
theorem dup_of_int {ms pre : List Int} {y : Int} {post : List Pd} (h : ms.map PyData.int = pre.map PyData.int ++ PyData.int y :: post) (hy : y ∈ pre) : ¬ ms.Nodup := by
  intro nd
  have h1 : (ms.map PyData.int).Nodup := by
    rw [List.Nodup, List.pairwise_map]
    exact nd.imp fun hne e => hne (by cases e; rfl)
  rw [h] at h1
  exact (List.nodup_append.mp h1).2.2 (.int y) (List.mem_map.mpr ⟨y, hy, rfl⟩) (.int y) List.mem_cons_self rfl
/-- the first item with more than s newer ones before it -/
def witR (xs : List Int) (s : Nat) : Option (Int × List Int) := (xs.zipIdx.find? fun p => decide (s < (newW (xs.take p.2) p.1).length)).map fun p => (p.1, (newW (xs.take p.2) p.1).take (s + 1))
theorem newW_len (xs : List Int) (x : Int) : (newW xs x).length = gt x xs := rfl
theorem witR_none {xs : List Int} (hn : xs.Nodup) (s : Nat) : witR xs s = none ↔ outR xs s = srt xs := by
  rw [out_sorted hn]
  unfold witR
  rw [Option.map_eq_none_iff, List.find?_eq_none]
  constructor
  · intro h l hl
    have hl' := (ltn_perm hn).mem_iff.mpr hl
    unfold ltn at hl'
    obtain ⟨p, hp, e⟩ := List.mem_map.mp hl'
    have := h p hp
    rw [newW_len, decide_eq_true_eq] at this
    omega
  · intro h p hp
    have := h ((gt p.1 (xs.take p.2) : Nat) : Int) ((ltn_perm hn).mem_iff.mp (List.mem_map.mpr ⟨p, hp, rfl⟩))
    rw [newW_len, decide_eq_true_eq]
    omega
theorem idx_of {xs : List Int} (hn : xs.Nodup) {i : Nat} {x : Int} (h : xs[i]? = some x) : xs.idxOf x = i := by
  obtain ⟨hi, e⟩ := List.getElem?_eq_some_iff.mp h
  have hl := List.idxOf_lt_length_of_mem (show x ∈ xs from e ▸ List.getElem_mem hi)
  have hg := List.getElem_idxOf hl
  have pw := List.pairwise_iff_getElem.mp hn
  rcases Nat.lt_trichotomy (xs.idxOf x) i with q | q | q
  · exact absurd (hg.trans e.symm) (pw _ _ hl hi q)
  · exact q
  · exact absurd (e.trans hg.symm) (pw _ _ hi hl q)
theorem witR_some {xs : List Int} (V : VS xs) {s : Nat} {x : Int} {ns : List Int} (h : witR xs s = some (x, ns)) : wit xs s (.tuple [.int x, .tuple (ns.map .int)]) = true ∧ ns.length ≤ 40 := by
  unfold witR at h
  obtain ⟨⟨y, i⟩, hp, e⟩ := Option.map_eq_some_iff.mp h
  cases e
  have h1 := List.find?_some hp
  have h2 := List.mem_zipIdx_iff_getElem?.mp (List.mem_of_find?_eq_some hp)
  have hx : y ∈ xs := List.mem_of_getElem? h2
  have hi := idx_of V.nd h2
  simp only [decide_eq_true_eq] at h1
  have hsub : ∀ n ∈ (newW (xs.take i) y).take (s + 1), n ∈ xs.take i ∧ y < n := fun n h => mem_newW.mp (List.mem_of_mem_take h)
  have hl : ((newW (xs.take i) y).take (s + 1)).length = s + 1 := by rw [List.length_take]; omega
  have hl2 : (newW (xs.take i) y).length ≤ 40 := by
    have a1 := List.length_filter_le (fun z => decide (y < z)) (xs.take i)
    have a2 := V.len
    rw [List.length_take] at a1
    show (List.filter _ _).length ≤ 40
    omega
  refine ⟨?_, show ((newW (xs.take i) y).take (s + 1)).length ≤ 40 by omega⟩
  rw [wit_ints (V.rng y hx) (fun n h => V.rng n (List.mem_of_mem_take (hsub n h).1))]
  unfold okN
  have nd : ((newW (xs.take i) y).take (s + 1)).Nodup := (((V.nd.sublist (List.take_sublist _ _)).filter _)).sublist (List.take_sublist _ _)
  rw [decide_eq_true hx, decide_eq_true hl, decide_eq_true nd]
  simp only [Bool.true_and]
  refine List.all_eq_true.mpr fun n h => ?_
  unfold befL
  rw [hi, decide_eq_true (hsub n h).1, decide_eq_true (hsub n h).2]
  rfl
/-! ### a datum changed -/
def oddD : List Pd := [.none, .bool true, .bool false, .int (-1), .int 0, .int 1, .int 2, .int 1000000, .int 1000001, .str "1", .tuple [], .tuple [.int 0], .list [.int 1]]
def lstD (d : Pd) : Pd := match d with
  | .tuple ds => .list ds
  | d => d
def leaf (b : Bag) (d : Pd) : Pd × Bag := (((oddD ++ [lstD d])[(takeR b 14).toNat]?).getD .none, takeB b 14)
def chg : Nat → Bag → Pd → Pd × Bag
  | 0, b, d => leaf b d
  | n + 1, b, d => match d with
    | .tuple (e :: es) => if 0 < takeR b 6 then
        (.tuple ((e :: es).take (takeR (takeB b 6) ((e :: es).length : Nat)).toNat ++ [(chg n (takeB (takeB b 6) ((e :: es).length : Nat)) (((e :: es)[(takeR (takeB b 6) ((e :: es).length : Nat)).toNat]?).getD .none)).1] ++ (e :: es).drop ((takeR (takeB b 6) ((e :: es).length : Nat)).toNat + 1)),
          (chg n (takeB (takeB b 6) ((e :: es).length : Nat)) (((e :: es)[(takeR (takeB b 6) ((e :: es).length : Nat)).toNat]?).getD .none)).2)
      else leaf (takeB b 6) d
    | d => leaf b d
theorem leaf_ok {b : Bag} {d : Pd} {k : Nat} (h : okB (k + 1) b) : okB k (leaf b d).2 := h.take
theorem chg_ok : ∀ {n k : Nat} {b : Bag} {d : Pd}, okB (k + (2 * n + 1)) b → okB k (chg n b d).2
  | 0, k, b, d, h => leaf_ok h
  | n + 1, k, b, d, h => by
    have h6 : okB (k + 2 * n + 2) (takeB b 6) := (h.mono (by omega : k + 2 * n + 2 + 1 ≤ k + (2 * (n + 1) + 1))).take
    cases d with
    | tuple ds =>
      cases ds with
      | nil => exact leaf_ok (h.mono (by omega))
      | cons e es =>
        show okB k (if 0 < takeR b 6 then _ else _ : Pd × Bag).2
        split
        · exact chg_ok (n := n) ((h6.mono (by omega : k + (2 * n + 1) + 1 ≤ k + 2 * n + 2)).take)
        · exact leaf_ok (h6.mono (by omega))
    | none => exact leaf_ok (h.mono (by omega))
    | bool _ => exact leaf_ok (h.mono (by omega))
    | int _ => exact leaf_ok (h.mono (by omega))
    | str _ => exact leaf_ok (h.mono (by omega))
    | list _ => exact leaf_ok (h.mono (by omega))
    | dict _ => exact leaf_ok (h.mono (by omega))
abbrev p_in_rangeD : RR := rP fun ds r => ∃ (d : Pd) (lo hi : Int), ds = [d, .int lo, .int hi] ∧ r = .d (.bool (inR d lo hi))
def witO : Option (Int × List Int) → Pd
  | some p => .tuple [.int p.1, .tuple (p.2.map .int)]
  | none => .none
abbrev p_witness : RR := rP fun ds r => ∃ (xs : List Int) (s : Nat), VS xs ∧ s ≤ 40 ∧ ds = [iT xs, .int (s : Nat)] ∧ r = .d (witO (witR xs s))
abbrev p_is_witness : RR := rP fun ds r => ∃ (xs : List Int) (s : Nat) (d : Pd), VS xs ∧ s ≤ 40 ∧ ds = [iT xs, .int (s : Nat), d] ∧ r = .d (.bool (wit xs s d))
def Bd : Nat → Pd → Prop
  | 0, d => ∀ ds, d ≠ .tuple ds
  | n + 1, d => ∀ ds, d = .tuple ds → ds.length ≤ 1000 ∧ ∀ e ∈ ds, Bd n e
theorem Bd.inv {n : Nat} {ds : List Pd} (h : Bd n (.tuple ds)) : ∃ m, n = m + 1 ∧ ds.length ≤ 1000 ∧ ∀ e ∈ ds, Bd m e := by
  cases n with
  | zero => exact absurd rfl (h ds)
  | succ n => exact ⟨n, rfl, h ds rfl⟩
abbrev p__law_changed (n : Nat) : RR := rBag (2 * n + 1) fun ds b d b' => ∃ x : Pd, Sh 10 x ∧ Bd n x ∧ ds = [x] ∧ d = (chg n b x).1 ∧ b' = (chg n b x).2
theorem inr_imp {P : Program} {w : World} {K : PySem.W.Frag} {mg : Str → Option Value} {base : Heap} {k : Nat} {x : Str} (D : Dn P w K mg base k x p_in_rangeD) : Dn P w K mg base k x p_in_range :=
  D.imp fun as r as' ⟨ds, e1, e2, v, lo, hi, e3, e4⟩ => ⟨ds, e1, e2, .int v, lo, hi, e3, e4⟩
end LB

set_option Elab.async false
set_option linter.all false
set_option autoImplicit false
/-! LB16: data changed at random. -/
namespace LB
open DL PySem PySem.Spec PyProof.Rows L2
def chc (b : Bag) (d : Pd) : Bool := match d with
  | .tuple (_ :: _) => decide (0 < takeR b 6)
  | _ => false
def chb (b : Bag) (d : Pd) : Bag := match d with
  | .tuple (_ :: _) => takeB b 6
  | _ => b
theorem chc_of {b : Bag} {d : Pd} (h : chc b d = true) : ∃ e es, d = .tuple (e :: es) ∧ 0 < takeR b 6 := by
  cases d with
  | tuple ds =>
    cases ds with
    | nil => cases h
    | cons e es => exact ⟨e, es, rfl, of_decide_eq_true h⟩
  | none => cases h
  | bool _ => cases h
  | int _ => cases h
  | str _ => cases h
  | list _ => cases h
  | dict _ => cases h
theorem chg_leaf {n : Nat} {b : Bag} {d : Pd} (sh : Bd n d) (h : chc b d = false) : chg n b d = leaf (chb b d) d := by
  cases n with
  | zero =>
    cases d with
    | tuple ds => obtain ⟨m, e, _⟩ := sh.inv; cases e
    | none => rfl
    | bool _ => rfl
    | int _ => rfl
    | str _ => rfl
    | list _ => rfl
    | dict _ => rfl
  | succ n =>
    cases d with
    | tuple ds =>
      cases ds with
      | nil => rfl
      | cons e es => exact if_neg (of_decide_eq_false h)
    | none => rfl
    | bool _ => rfl
    | int _ => rfl
    | str _ => rfl
    | list _ => rfl
    | dict _ => rfl
theorem chb_ok {n k : Nat} {b : Bag} {d : Pd} (sh : Bd n d) (h : okB (k + (2 * n + 1)) b) : okB (k + 1) (chb b d) := by
  cases d with
  | tuple ds =>
    obtain ⟨m, e, _⟩ := sh.inv
    cases ds with
    | nil => exact h.mono (by omega)
    | cons e es => exact (h.mono (by omega : k + 1 + 1 ≤ k + (2 * n + 1))).take
  | none => exact h.mono (by omega)
  | bool _ => exact h.mono (by omega)
  | int _ => exact h.mono (by omega)
  | str _ => exact h.mono (by omega)
  | list _ => exact h.mono (by omega)
  | dict _ => exact h.mono (by omega)
theorem atI_in {ds : List Pd} {i : Int} (h0 : 0 ≤ i) (h : i < ds.length) : atI ds i = some ((ds[i.toNat]?).getD .none) := by
  have h1 : i.toNat < ds.length := by omega
  have e : i = ((i.toNat : Nat) : Int) := by omega
  have h2 := atI_nat (xs := ds) (j := i.toNat) (List.getElem?_eq_getElem h1)
  rw [← e] at h2
  rw [h2, List.getElem?_eq_getElem h1]
  rfl
def chN (n : Nat) (b : Bag) (d : Pd) : Nat → List Pd × Bag
  | 0 => ([], b)
  | k + 1 => ((chN n b d k).1 ++ [(chg n (chN n b d k).2 d).1], (chg n (chN n b d k).2 d).2)
theorem chN_len (n : Nat) (b : Bag) (d : Pd) : ∀ k : Nat, (chN n b d k).1.length = k
  | 0 => rfl
  | k + 1 => by
    show ((chN n b d k).1 ++ [_]).length = _
    rw [List.length_append, chN_len n b d k]
    rfl
theorem chN_ok {n m : Nat} {b : Bag} {d : Pd} : ∀ {k : Nat}, okB (m + (2 * n + 1) * k) b → okB m (chN n b d k).2
  | 0, h => h.mono (by omega)
  | k + 1, h => chg_ok (chN_ok (k := k) (h.mono (by rw [Nat.mul_succ]; omega)))
theorem sh_witO {xs : List Int} {s : Nat} : Sh 2 (witO (witR xs s)) := by
  cases witR xs s with
  | none => exact ⟨rfl, by decide⟩
  | some p =>
    refine sh_tuple fun d hd => ?_
    rcases List.mem_cons.mp hd with q | q
    · rw [q]; exact sh_int
    · rw [List.mem_singleton.mp q]; exact sh_iT
theorem bd_witO {xs : List Int} (V : VS xs) {s : Nat} : Bd 2 (witO (witR xs s)) := by
  cases e : witR xs s with
  | none => exact fun ds q => by cases q
  | some p =>
    have hl := (witR_some V (x := p.1) (ns := p.2) e).2
    refine fun ds q => ?_
    cases q
    refine ⟨by show 2 ≤ 1000; decide, fun d hd => ?_⟩
    rcases List.mem_cons.mp hd with q | q
    · rw [q]; exact fun ds r => by cases r
    · rw [List.mem_singleton.mp q]
      refine fun ds r => ?_
      cases r
      refine ⟨by rw [List.length_map]; omega, fun d hd => ?_⟩
      obtain ⟨n, _, q⟩ := List.mem_map.mp hd
      rw [← q]
      exact fun ds r => by cases r
theorem witO_nn {xs : List Int} (hn : xs.Nodup) (s : Nat) : isNn (witO (witR xs s)) = decide (outR xs s = srt xs) := by
  have h := witR_none hn s
  cases e : witR xs s with
  | none => rw [decide_eq_true (h.mp e)]; rfl
  | some p => rw [decide_eq_false fun q => by rw [h.mpr q] at e; cases e]; rfl
end LB

set_option Elab.async false
set_option linter.all false
set_option autoImplicit false
/-! LB17: streams built of latenesses; mixed radix. -/
namespace LB
open DL PySem PySem.Spec PyProof.Rows L2
theorem late_cons (a : Int) (l : List Int) (y : Int) : lateI (a :: l) y = if a = y then 0 else (if y < a then 1 else 0) + lateI l y := by
  unfold lateI
  rw [List.idxOf_cons]
  by_cases h : a = y
  · subst h; simp [gt]
  · have b : (a == y) = false := by simpa using h
    rw [b, if_neg h]
    simp only [cond_false, List.take_succ_cons]
    unfold gt
    rw [List.filter_cons]
    by_cases hy : y < a
    · rw [if_pos (decide_eq_true hy), if_pos hy, List.length_cons, Nat.add_comm]
    · rw [if_neg (by simpa using hy), if_neg hy, Nat.zero_add]
theorem late_skip {x y : Int} (hne : x ≠ y) (hy : ¬ y < x) (C : List Int) : ∀ A : List Int, lateI (A ++ x :: C) y = lateI (A ++ C) y
  | [] => by rw [List.nil_append, List.nil_append, late_cons, if_neg hne, if_neg hy, Nat.zero_add]
  | a :: A => by rw [List.cons_append, List.cons_append, late_cons, late_cons, late_skip hne hy C A]
theorem late_here {x : Int} (C : List Int) : ∀ {A : List Int}, (∀ a ∈ A, x < a) → lateI (A ++ x :: C) x = A.length
  | [], _ => by rw [List.nil_append, late_cons, if_pos rfl]; rfl
  | a :: A, h => by
    have ha := h a List.mem_cons_self
    rw [List.cons_append, late_cons, if_neg (by omega), if_pos ha, late_here C fun b hb => h b (List.mem_cons_of_mem _ hb), List.length_cons, Nat.add_comm]
def insI (l : Nat) (x : Int) (xs : List Int) : List Int := xs.take l ++ x :: xs.drop l
theorem insI_perm (l : Nat) (x : Int) (xs : List Int) : (insI l x xs).Perm (x :: xs) := by
  unfold insI
  refine List.perm_middle.trans ?_
  rw [List.take_append_drop]
/-- the stream with these items, ascending, and these latenesses -/
def bldR : List Int → List Nat → List Int
  | x :: xs, l :: ls => insI l x (bldR xs ls)
  | _, _ => []
theorem bldR_perm : ∀ {xs : List Int} {ls : List Nat}, ls.length = xs.length → (bldR xs ls).Perm xs
  | [], [], _ => .refl _
  | x :: xs, l :: ls, h => (insI_perm l x _).trans ((bldR_perm (by simpa using h)).cons x)
/-- each lateness at most the number of the items behind -/
def RowOk : List Nat → Prop
  | [] => True
  | l :: ls => l ≤ ls.length ∧ RowOk ls
theorem ages_bld : ∀ {xs : List Int} {ls : List Nat}, xs.Pairwise (· < ·) → ls.length = xs.length → RowOk ls → xs.map (lateI (bldR xs ls)) = ls
  | [], [], _, _, _ => rfl
  | x :: xs, l :: ls, hp, hl, hr => by
    obtain ⟨p1, p2⟩ := List.pairwise_cons.mp hp
    have hl' : ls.length = xs.length := by simpa using hl
    have hB := bldR_perm (xs := xs) hl'
    have hg : ∀ a ∈ (bldR xs ls).take l, x < a := fun a ha => p1 a (hB.mem_iff.mp (List.mem_of_mem_take ha))
    rw [List.map_cons]
    show lateI ((bldR xs ls).take l ++ x :: (bldR xs ls).drop l) x :: xs.map (lateI ((bldR xs ls).take l ++ x :: (bldR xs ls).drop l)) = _
    rw [late_here _ hg, List.length_take, hB.length_eq, Nat.min_eq_left (by rw [← hl']; exact hr.1)]
    congr 1
    have h2 : xs.map (lateI ((bldR xs ls).take l ++ x :: (bldR xs ls).drop l)) = xs.map (lateI (bldR xs ls)) := List.map_congr_left fun y hy => by
      have := p1 y hy
      rw [late_skip (by omega) (by omega), List.take_append_drop]
    rw [h2, ages_bld p2 hl' hr.2]
theorem bld_ages : ∀ {ss xs : List Int}, ss.Pairwise (· < ·) → xs.Perm ss → bldR ss (ss.map (lateI xs)) = xs ∧ RowOk (ss.map (lateI xs))
  | [], xs, _, hp => by rw [hp.eq_nil]; exact ⟨rfl, trivial⟩
  | m :: ss, xs, hs, hp => by
    obtain ⟨p1, p2⟩ := List.pairwise_cons.mp hs
    obtain ⟨A, C, e⟩ := List.append_of_mem (hp.mem_iff.mpr List.mem_cons_self)
    subst e
    have hp2 : (A ++ C).Perm ss := List.Perm.cons_inv (List.perm_middle.symm.trans hp)
    have hA : ∀ a ∈ A, m < a := fun a ha => p1 a (hp2.mem_iff.mp (List.mem_append_left _ ha))
    have h2 : ss.map (lateI (A ++ m :: C)) = ss.map (lateI (A ++ C)) := List.map_congr_left fun y hy => by
      have := p1 y hy
      exact late_skip (by omega) (by omega) C A
    obtain ⟨i1, i2⟩ := bld_ages p2 hp2
    rw [List.map_cons, late_here C hA, h2]
    refine ⟨?_, ?_, i2⟩
    · show insI A.length m (bldR ss (ss.map (lateI (A ++ C)))) = _
      rw [i1]
      unfold insI
      rw [List.take_left', List.drop_left']
      · rfl
      · rfl
    · rw [List.length_map, ← hp2.length_eq, List.length_append]
      omega
/-! ### mixed radix -/
def rkR (rows : List (Int × Int)) (ls : List Int) : Int := (rows.zip ls).foldl (fun a p => a * (p.1.2 - p.1.1 + 1) + p.2 - p.1.1) 0
def unR : List (Int × Int) → Int → List Int
  | [], _ => []
  | r :: rows, m => (r.1 + m % (r.2 - r.1 + 1)) :: unR rows (m / (r.2 - r.1 + 1))
/-- the latenesses of number m: the last row counts the ones -/
def unk (rows : List (Int × Int)) (m : Int) : List Int := (unR rows.reverse m).reverse
theorem unk_snoc (rows : List (Int × Int)) (r : Int × Int) (m : Int) : unk (rows ++ [r]) m = unk rows (m / (r.2 - r.1 + 1)) ++ [r.1 + m % (r.2 - r.1 + 1)] := by
  unfold unk
  rw [List.reverse_append, List.reverse_singleton, List.singleton_append]
  show (unR (r :: rows.reverse) m).reverse = _
  rw [unR, List.reverse_cons]
theorem unR_len : ∀ (rows : List (Int × Int)) (m : Int), (unR rows m).length = rows.length
  | [], _ => rfl
  | r :: rows, m => by rw [unR, List.length_cons, List.length_cons, unR_len rows]
theorem unk_len (rows : List (Int × Int)) (m : Int) : (unk rows m).length = rows.length := by unfold unk; rw [List.length_reverse, unR_len, List.length_reverse]
theorem rk_snoc {rows : List (Int × Int)} {ls : List Int} (r : Int × Int) (l : Int) (h : ls.length = rows.length) : rkR (rows ++ [r]) (ls ++ [l]) = rkR rows ls * (r.2 - r.1 + 1) + l - r.1 := by
  unfold rkR
  rw [List.zip_append h.symm, List.foldl_append]
  rfl
/-- every lateness within its row -/
def InR : List (Int × Int) → List Int → Prop
  | [], [] => True
  | r :: rows, l :: ls => (r.1 ≤ l ∧ l ≤ r.2) ∧ InR rows ls
  | _, _ => False
theorem InR.len : ∀ {rows : List (Int × Int)} {ls : List Int}, InR rows ls → ls.length = rows.length
  | [], [], _ => rfl
  | r :: rows, l :: ls, h => by rw [List.length_cons, List.length_cons, h.2.len]
  | [], _ :: _, h => h.elim
  | _ :: _, [], h => h.elim
theorem inR_snoc : ∀ {rows : List (Int × Int)} {ls : List Int} {r : Int × Int} {l : Int}, ls.length = rows.length → (InR (rows ++ [r]) (ls ++ [l]) ↔ InR rows ls ∧ r.1 ≤ l ∧ l ≤ r.2)
  | [], [], r, l, _ => ⟨fun h => ⟨trivial, h.1⟩, fun h => ⟨h.2, trivial⟩⟩
  | a :: rows, b :: ls, r, l, h => by
    have ih := inR_snoc (rows := rows) (ls := ls) (r := r) (l := l) (by simpa using h)
    constructor
    · intro q
      have q2 := ih.mp q.2
      exact ⟨⟨q.1, q2.1⟩, q2.2⟩
    · intro q
      exact ⟨q.1.1, ih.mpr ⟨q.1.2, q.2⟩⟩
  | [], _ :: _, _, _, h => by cases h
  | _ :: _, [], _, _, h => by cases h
theorem inR_split {rows : List (Int × Int)} {r : Int × Int} {ls : List Int} (h : InR (rows ++ [r]) ls) : ∃ ls' l, ls = ls' ++ [l] ∧ InR rows ls' ∧ r.1 ≤ l ∧ l ≤ r.2 := by
  have hl := h.len
  rw [List.length_append, List.length_singleton] at hl
  have hne : ls ≠ [] := fun q => by rw [q] at hl; cases hl
  have e := (List.dropLast_concat_getLast hne).symm
  generalize ls.dropLast = a at e
  generalize ls.getLast hne = l at e
  subst e
  rw [List.length_append, List.length_singleton] at hl
  exact ⟨a, l, rfl, (inR_snoc (by omega)).mp h⟩
theorem inR_of : ∀ {rows : List (Int × Int)} {ls : List Int}, ls.length = rows.length → (∀ (i : Nat) (r : Int × Int) (l : Int), rows[i]? = some r → ls[i]? = some l → r.1 ≤ l ∧ l ≤ r.2) → InR rows ls
  | [], [], _, _ => trivial
  | r :: rows, l :: ls, h, k => ⟨k 0 r l rfl rfl, inR_of (by simpa using h) fun i a b e1 e2 => k (i + 1) a b (by simpa using e1) (by simpa using e2)⟩
  | [], _ :: _, h, _ => by cases h
  | _ :: _, [], h, _ => by cases h
theorem InR.at : ∀ {rows : List (Int × Int)} {ls : List Int}, InR rows ls → ∀ (i : Nat) (r : Int × Int) (l : Int), rows[i]? = some r → ls[i]? = some l → r.1 ≤ l ∧ l ≤ r.2
  | [], [], _, i, r, l, h, _ => by simp at h
  | r :: rows, l :: ls, h, 0, a, b, e1, e2 => by cases e1; cases e2; exact h.1
  | r :: rows, l :: ls, h, i + 1, a, b, e1, e2 => h.2.at i a b (by simpa using e1) (by simpa using e2)
  | [], _ :: _, h, _, _, _, _, _ => h.elim
  | _ :: _, [], h, _, _, _, _, _ => h.elim
theorem wd_in {r : Int × Int} {l : Int} (h : r.1 ≤ l ∧ l ≤ r.2) : max 0 (r.2 - r.1 + 1) = r.2 - r.1 + 1 := by omega
theorem rk_rng {rows : List (Int × Int)} : ∀ {ls : List Int}, InR rows ls → 0 ≤ rkR rows ls ∧ rkR rows ls < ways rows := by
  induction rows using snocRec with
  | h0 =>
    intro ls h
    cases ls with
    | nil => exact ⟨Int.le_refl _, by decide⟩
    | cons _ _ => exact h.elim
  | h1 rows r ih =>
    intro ls h
    obtain ⟨ls', l, rfl, h1, h2⟩ := inR_split h
    obtain ⟨i1, i2⟩ := ih h1
    rw [rk_snoc r l h1.len, ways_snoc, wd_in h2]
    have hw : 0 ≤ r.2 - r.1 + 1 := by omega
    have h3 : 0 ≤ rkR rows ls' * (r.2 - r.1 + 1) := Int.mul_nonneg i1 hw
    have h4 : (rkR rows ls' + 1) * (r.2 - r.1 + 1) ≤ ways rows * (r.2 - r.1 + 1) := Int.mul_le_mul_of_nonneg_right (by omega) hw
    rw [Int.add_mul, Int.one_mul] at h4
    omega
theorem unk_rk {rows : List (Int × Int)} : ∀ {ls : List Int}, InR rows ls → unk rows (rkR rows ls) = ls := by
  induction rows using snocRec with
  | h0 =>
    intro ls h
    cases ls with
    | nil => rfl
    | cons _ _ => exact h.elim
  | h1 rows r ih =>
    intro ls h
    obtain ⟨ls', l, rfl, h1, h2⟩ := inR_split h
    rw [rk_snoc r l h1.len, unk_snoc]
    have e : rkR rows ls' * (r.2 - r.1 + 1) + l - r.1 = (l - r.1) + (r.2 - r.1 + 1) * rkR rows ls' := by rw [Int.mul_comm]; omega
    have e1 : ((l - r.1) + (r.2 - r.1 + 1) * rkR rows ls') / (r.2 - r.1 + 1) = rkR rows ls' := by
      rw [Int.add_mul_ediv_left _ _ (by omega), Int.ediv_eq_zero_of_lt (by omega) (by omega), Int.zero_add]
    have e2 : ((l - r.1) + (r.2 - r.1 + 1) * rkR rows ls') % (r.2 - r.1 + 1) = l - r.1 := by
      rw [Int.add_mul_emod_self_left, Int.emod_eq_of_lt (by omega) (by omega)]
    rw [e, e1, e2, ih h1, show r.1 + (l - r.1) = l from by omega]
theorem rk_unk {rows : List (Int × Int)} : ∀ {m : Int}, 0 ≤ m → m < ways rows → InR rows (unk rows m) ∧ rkR rows (unk rows m) = m := by
  induction rows using snocRec with
  | h0 =>
    intro m h0 h1
    have : m < 1 := h1
    refine ⟨trivial, ?_⟩
    show (0 : Int) = m
    omega
  | h1 rows r ih =>
    intro m h0 h1
    rw [ways_snoc] at h1
    have hw : 0 < r.2 - r.1 + 1 := by
      refine Classical.byContradiction fun q => ?_
      rw [show max 0 (r.2 - r.1 + 1) = 0 from by omega, Int.mul_zero] at h1
      omega
    rw [show max 0 (r.2 - r.1 + 1) = r.2 - r.1 + 1 from by omega] at h1
    have h2 : m / (r.2 - r.1 + 1) < ways rows := Int.ediv_lt_of_lt_mul hw h1
    have h3 : 0 ≤ m / (r.2 - r.1 + 1) := Int.ediv_nonneg h0 (by omega)
    obtain ⟨i1, i2⟩ := ih h3 h2
    have h4 := Int.emod_nonneg m (show r.2 - r.1 + 1 ≠ 0 by omega)
    have h5 := Int.emod_lt_of_pos m hw
    rw [unk_snoc]
    refine ⟨(inR_snoc (unk_len _ _)).mpr ⟨i1, by omega, by omega⟩, ?_⟩
    rw [rk_snoc r _ (unk_len _ _), i2]
    have := Int.mul_ediv_add_emod m (r.2 - r.1 + 1)
    rw [Int.mul_comm] at this
    omega
/-! ### the order of the latenesses is the numbers' -/
def rkC : List (Int × Int) → List Int → Int
  | r :: rows, l :: ls => (l - r.1) * ways rows + rkC rows ls
  | _, _ => 0
theorem fold_rk : ∀ {rows : List (Int × Int)} {ls : List Int} (_ : InR rows ls) (a : Int), (rows.zip ls).foldl (fun a p => a * (p.1.2 - p.1.1 + 1) + p.2 - p.1.1) a = a * ways rows + rkC rows ls
  | [], [], _, a => by show a = a * 1 + 0; omega
  | r :: rows, l :: ls, h, a => by
    rw [List.zip_cons_cons, List.foldl_cons, fold_rk h.2, ways_cons]
    show _ = a * (wd r * ways rows) + ((l - r.1) * ways rows + rkC rows ls)
    have hw : wd r = r.2 - r.1 + 1 := wd_in h.1
    rw [hw, ← Int.mul_assoc, ← Int.add_assoc, ← Int.add_mul]
    congr 2
    show a * (r.2 - r.1 + 1) + l - r.1 = a * (r.2 - r.1 + 1) + (l - r.1)
    omega
  | [], _ :: _, h, _ => h.elim
  | _ :: _, [], h, _ => h.elim
theorem rk_eq {rows : List (Int × Int)} {ls : List Int} (h : InR rows ls) : rkR rows ls = rkC rows ls := by
  unfold rkR
  rw [fold_rk h, Int.zero_mul, Int.zero_add]
theorem lex_rk : ∀ {rows : List (Int × Int)} {as bs : List Int}, InR rows as → InR rows bs → as < bs → rkR rows as < rkR rows bs
  | [], [], [], _, _, h => absurd h (by simp)
  | r :: rows, a :: as, b :: bs, h1, h2, h => by
    rw [rk_eq h1, rk_eq h2]
    show (a - r.1) * ways rows + rkC rows as < (b - r.1) * ways rows + rkC rows bs
    have b1 := rk_rng h1.2
    have b2 := rk_rng h2.2
    rw [rk_eq h1.2] at b1
    rw [rk_eq h2.2] at b2
    rcases List.cons_lt_cons_iff.mp h with q | ⟨q, q2⟩
    · have h3 : (a - r.1 + 1) * ways rows ≤ (b - r.1) * ways rows := Int.mul_le_mul_of_nonneg_right (by omega) (ways_nonneg _)
      rw [Int.add_mul, Int.one_mul] at h3
      omega
    · subst q
      have := lex_rk h1.2 h2.2 q2
      rw [rk_eq h1.2, rk_eq h2.2] at this
      omega
  | [], [], _ :: _, _, h, _ => h.elim
  | [], _ :: _, _, h, _, _ => h.elim
  | _ :: _, [], _, h, _, _ => h.elim
  | _ :: _, _ :: _, [], _, h, _ => h.elim
theorem unk_mono {rows : List (Int × Int)} {m m' : Int} (h0 : 0 ≤ m) (h : m ≤ m') (h1 : m' < ways rows) : ¬ (unk rows m' < unk rows m) := fun q => by
  obtain ⟨a1, a2⟩ := rk_unk h0 (Int.lt_of_le_of_lt h h1)
  obtain ⟨b1, b2⟩ := rk_unk (Int.le_trans h0 h) h1
  have := lex_rk b1 a1 q
  rw [a2, b2] at this
  omega
end LB

set_option Elab.async false
set_option linter.all false
set_option autoImplicit false
/-! LB18: the inputs of an output, by their latenesses. -/
namespace LB
open DL PySem PySem.Spec PyProof.Rows L2
theorem rowOk_at : ∀ {ls : List Nat}, RowOk ls → ∀ (i l : Nat), ls[i]? = some l → l + i + 1 ≤ ls.length
  | [], _, i, l, h => by simp at h
  | a :: ls, h, 0, l, e => by
    cases e
    have := h.1
    rw [List.length_cons]
    omega
  | a :: ls, h, i + 1, l, e => by
    have := rowOk_at h.2 i l (by simpa using e)
    rw [List.length_cons]
    omega
theorem rowOk_of : ∀ {ls : List Nat}, (∀ (i l : Nat), ls[i]? = some l → l + i + 1 ≤ ls.length) → RowOk ls
  | [], _ => trivial
  | a :: ls, h => ⟨by have := h 0 a rfl; rw [List.length_cons] at this; omega, rowOk_of fun i l e => by
      have := h (i + 1) l (by simpa using e)
      rw [List.length_cons] at this
      omega⟩
theorem srt_lt {xs : List Int} (hn : xs.Nodup) : (srt xs).Pairwise (· < ·) := by
  have h1 := srt_pw xs
  have h2 : (srt xs).Nodup := srt_nodup.mpr hn
  refine (List.pairwise_iff_getElem.mpr fun i j hi hj hij => ?_)
  have a := List.pairwise_iff_getElem.mp h1 i j hi hj hij
  have b := List.pairwise_iff_getElem.mp h2 i j hi hj hij
  omega
theorem ages_row {xs : List Int} (hn : xs.Nodup) : RowOk ((srt xs).map (lateI xs)) ∧ bldR (srt xs) ((srt xs).map (lateI xs)) = xs :=
  have h := bld_ages (srt_lt hn) (srt_perm xs).symm
  ⟨h.2, h.1⟩
theorem in_rowF {fs : List F3} {x : Int} {r : Int × Int} {l : Int} (h : r.1 ≤ l ∧ l ≤ r.2) (hf : ∀ f ∈ fs, f.1 = x → f.2.1 ≤ l ∧ l ≤ f.2.2) : (rowF fs x r).1 ≤ l ∧ l ≤ (rowF fs x r).2 := by
  induction fs using snocRec with
  | h0 => exact h
  | h1 fs f ih =>
    have h1 := ih fun q hq => hf q (List.mem_append_left _ hq)
    rw [rowF_snoc]
    unfold stF
    split
    · rename_i e
      have h2 := hf f (by simp) e
      exact ⟨by show max _ _ ≤ l; omega, by show l ≤ min _ _; omega⟩
    · exact h1
theorem rng_i {o : List Int} {s : Nat} {fs : List F3} {i : Nat} {x : Int} (h : (srt o)[i]? = some x) : (rngR o s fs)[i]? = some (rowF fs x (rowB o.length s i ((lateI o x : Nat) : Int))) := by
  unfold rngR
  have h2 : (ages o)[i]? = some ((lateI o x : Nat) : Int) := by unfold ages; rw [List.getElem?_map, h]; rfl
  rw [List.getElem?_map, List.getElem?_zipIdx, show ((srt o).zip (ages o))[i]? = some (x, ((lateI o x : Nat) : Int)) from List.getElem?_zip_eq_some.mpr ⟨h, h2⟩]
  simp
/-- facts that hold of the stream -/
def FTrue (xs : List Int) (fs : List F3) : Prop := ∀ f ∈ fs, f.2.1 ≤ ((lateI xs f.1 : Nat) : Int) ∧ ((lateI xs f.1 : Nat) : Int) ≤ f.2.2
theorem rows_in {xs : List Int} (hn : xs.Nodup) (z : Nat) {fs : List F3} (hf : FTrue xs fs) : InR (rngR (outR xs z) z fs) (ages xs) := by
  have hs : srt (outR xs z) = srt xs := srt_congr (outR_perm xs z)
  have hl : (outR xs z).length = xs.length := (outR_perm xs z).length_eq
  refine inR_of (by rw [rng_len, hl]; unfold ages; rw [List.length_map, srt_length]) fun i r l er el => ?_
  unfold ages at el
  rw [List.getElem?_map] at el
  obtain ⟨x, ex, rfl⟩ := Option.map_eq_some_iff.mp el
  have hx : x ∈ xs := mem_srt.mp (List.mem_of_getElem? ex)
  rw [rng_i (by rw [hs]; exact ex)] at er
  cases er
  have h1 := late_out xs z hn x hx
  have h2 := rowOk_at (ages_row hn).1 i (lateI xs x) (by rw [List.getElem?_map, ex]; rfl)
  rw [List.length_map, srt_length] at h2
  refine in_rowF ?_ fun f hm e => e ▸ hf f hm
  unfold rowB
  rw [hl, h1]
  split
  · exact ⟨by show _ + (z : Int) ≤ _; omega, by show _ ≤ min _ _; omega⟩
  · exact ⟨by show (0 : Int) ≤ _; omega, by show _ ≤ min (min _ _) _; omega⟩
theorem row_of {n s i : Nat} {lt : Nat} {fs : List F3} {x l : Int} (h : (rowF fs x (rowB n s i ((lt : Nat) : Int))).1 ≤ l ∧ l ≤ (rowF fs x (rowB n s i ((lt : Nat) : Int))).2) : 0 ≤ l ∧ l ≤ (n : Int) - 1 - i ∧ l.toNat - s = lt := by
  have h1 := rowF_ge (fs := fs) (item := x) (r := rowB n s i ((lt : Nat) : Int))
  have h2 := rowB_rng (n := n) (s := s) (i := i) (l := ((lt : Nat) : Int)) (by omega)
  have h3 : (rowB n s i ((lt : Nat) : Int)).1 ≤ l ∧ l ≤ (rowB n s i ((lt : Nat) : Int)).2 := ⟨by omega, by omega⟩
  refine ⟨by omega, by omega, ?_⟩
  unfold rowB at h3
  split at h3
  · have a : ((lt : Nat) : Int) + s ≤ l := h3.1
    have b : l ≤ min (((lt : Nat) : Int) + s) ((n : Int) - 1 - i) := h3.2
    omega
  · have b : l ≤ min (min (s : Int) ((n : Int) - 1 - i)) ((n : Int) - 1 - i) := h3.2
    omega
def toN (ls : List Int) : List Nat := ls.map Int.toNat
theorem toN_cast {ls : List Int} (h : ∀ l ∈ ls, 0 ≤ l) : (toN ls).map (fun n : Nat => (n : Int)) = ls := by
  unfold toN
  rw [List.map_map]
  refine (List.map_congr_left fun l hl => ?_).trans (List.map_id' _)
  show ((l.toNat : Nat) : Int) = l
  have := h l hl
  omega
/-- an input by its latenesses -/
theorem rows_out {xs : List Int} (hn : xs.Nodup) (z : Nat) {fs : List F3} {ls : List Int} (h : InR (rngR (outR xs z) z fs) ls) :
    (∀ l ∈ ls, 0 ≤ l) ∧ (bldR (srt (outR xs z)) (toN ls)).Perm (outR xs z) ∧ ages (bldR (srt (outR xs z)) (toN ls)) = ls ∧ outR (bldR (srt (outR xs z)) (toN ls)) z = outR xs z := by
  have no : (outR xs z).Nodup := outR_nodup z hn
  generalize ho : outR xs z = o at h no
  have hlen : ls.length = o.length := by rw [h.len, rng_len]
  have key : ∀ (i : Nat) (x l : Int), (srt o)[i]? = some x → ls[i]? = some l → 0 ≤ l ∧ l ≤ (o.length : Int) - 1 - i ∧ l.toNat - z = lateI o x := fun i x l ex el => row_of (h.at i _ l (rng_i ex) el)
  have getx : ∀ i, i < ls.length → ∃ x, (srt o)[i]? = some x := fun i hi => ⟨_, List.getElem?_eq_getElem (by rw [srt_length]; omega)⟩
  have h0 : ∀ l ∈ ls, 0 ≤ l := fun l hl => by
    obtain ⟨i, hi⟩ := List.mem_iff_getElem?.mp hl
    obtain ⟨x, ex⟩ := getx i (List.getElem?_eq_some_iff.mp hi).1
    exact (key i x l ex hi).1
  have hr : RowOk (toN ls) := rowOk_of fun i l e => by
    unfold toN at e ⊢
    rw [List.getElem?_map] at e
    obtain ⟨m, em, rfl⟩ := Option.map_eq_some_iff.mp e
    obtain ⟨x, ex⟩ := getx i (List.getElem?_eq_some_iff.mp em).1
    have := key i x m ex em
    rw [List.length_map]
    omega
  have hl2 : (toN ls).length = (srt o).length := by unfold toN; rw [List.length_map, srt_length, hlen]
  have hp : (bldR (srt o) (toN ls)).Perm o := (bldR_perm hl2).trans (srt_perm o)
  have hs : srt (bldR (srt o) (toN ls)) = srt o := srt_congr hp
  have ha := ages_bld (srt_lt no) hl2 hr
  have hages : ages (bldR (srt o) (toN ls)) = ls := by
    unfold ages
    rw [hs]
    have e1 : ((srt o).map fun x => ((lateI (bldR (srt o) (toN ls)) x : Nat) : Int)) = ((srt o).map (lateI (bldR (srt o) (toN ls)))).map fun n : Nat => (n : Int) := by rw [List.map_map]; rfl
    rw [e1, ha, toN_cast h0]
  have ny : (bldR (srt o) (toN ls)).Nodup := hp.nodup_iff.mpr no
  refine ⟨h0, hp, hages, late_eq ((outR_perm _ z).trans hp) ((outR_perm _ z).nodup_iff.mpr ny) fun x hx => ?_⟩
  have hxy := mem_outR.mp hx
  rw [late_out _ z ny x hxy]
  have hxo : x ∈ srt o := mem_srt.mpr (hp.mem_iff.mp hxy)
  obtain ⟨i, hi⟩ := List.mem_iff_getElem?.mp hxo
  have hil : i < ls.length := by
    have := (List.getElem?_eq_some_iff.mp hi).1
    rw [srt_length] at this
    omega
  have h1 : ((srt o).map (lateI (bldR (srt o) (toN ls))))[i]? = (toN ls)[i]? := by rw [ha]
  unfold toN at h1
  rw [List.getElem?_map, hi, List.getElem?_map, List.getElem?_eq_getElem hil] at h1
  have h2 : lateI (bldR (srt o) (toN ls)) x = (ls[i]).toNat := Option.some.inj h1
  rw [h2]
  exact (key i x ls[i] hi (List.getElem?_eq_getElem hil)).2.2
end LB

set_option Elab.async false
set_option linter.all false
set_option autoImplicit false
/-! LB19: numbers of inputs: what the defs promise. -/
namespace LB
open DL PySem PySem.Spec PyProof.Rows L2
def bldP (ps : List (Int × Nat)) : List Int := ps.foldl (fun acc p => insI p.2 p.1 acc) []
theorem bldP_snoc (ps : List (Int × Nat)) (p : Int × Nat) : bldP (ps ++ [p]) = insI p.2 p.1 (bldP ps) := by unfold bldP; rw [List.foldl_append]; rfl
theorem bldP_eq : ∀ (xs : List Int) (ls : List Nat), bldP (xs.zip ls).reverse = bldR xs ls
  | [], _ => by rw [List.zip_nil_left]; rfl
  | _ :: _, [] => rfl
  | x :: xs, l :: ls => by rw [List.zip_cons_cons, List.reverse_cons, bldP_snoc, bldP_eq xs ls]; rfl
theorem insI_len (l : Nat) (x : Int) (xs : List Int) : (insI l x xs).length = xs.length + 1 := (insI_perm l x xs).length_eq
theorem bldP_len (ps : List (Int × Nat)) : (bldP ps).length = ps.length := by
  induction ps using snocRec with
  | h0 => rfl
  | h1 ps p ih => rw [bldP_snoc, insI_len, ih, List.length_append, List.length_singleton]
abbrev p_build : RR := rP fun ds r => ∃ (items : List Int) (rows : List Nat), items.length ≤ 1000 ∧ (∀ l ∈ rows, l ≤ 1000) ∧ ds = [iT items, iL (rows.map fun n : Nat => (n : Int))] ∧ r = .d (iT (bldR items rows))
def dvR (rows : List (Int × Int)) (m : Int) : Int := rows.foldl (fun m r => m / (r.2 - r.1 + 1)) m
theorem dvR_snoc (rows : List (Int × Int)) (r : Int × Int) (m : Int) : dvR (rows ++ [r]) m = dvR rows m / (r.2 - r.1 + 1) := by unfold dvR; rw [List.foldl_append]; rfl
theorem unR_snoc : ∀ (rows : List (Int × Int)) (r : Int × Int) (m : Int), unR (rows ++ [r]) m = unR rows m ++ [r.1 + dvR rows m % (r.2 - r.1 + 1)]
  | [], _, _ => rfl
  | a :: rows, r, m => by
    rw [List.cons_append, unR, unR, unR_snoc rows r]
    rfl
abbrev p_input_at : RR := rP fun ds r => ∃ (o : List Int) (s : Nat) (fs : List F3) (m : Int), VS o ∧ s ≤ 40 ∧ FOk o fs ∧ 0 ≤ m ∧ m < ways (rngR o s fs) ∧ ds = [iT o, .int (s : Nat), .tuple (fs.map fD), .int m] ∧ r = .d (iT (bldR (srt o) (toN (unk (rngR o s fs) m))))
theorem inR_pos : ∀ {rows : List (Int × Int)} {ls : List Int}, InR rows ls → ∀ r ∈ rows, r.1 ≤ r.2
  | [], _, _, r, h => by cases h
  | a :: rows, l :: ls, h, r, hr => by
    rcases List.mem_cons.mp hr with q | q
    · rw [q]; have := h.1; omega
    · exact inR_pos h.2 r q
  | _ :: _, [], h, _, _ => h.elim
theorem inR_mem : ∀ {rows : List (Int × Int)} {ls : List Int}, InR rows ls → ∀ l ∈ ls, ∃ r ∈ rows, r.1 ≤ l ∧ l ≤ r.2
  | [], [], _, l, h => by cases h
  | a :: rows, b :: ls, h, l, hl => by
    rcases List.mem_cons.mp hl with q | q
    · rw [q]; exact ⟨a, List.mem_cons_self, h.1⟩
    · obtain ⟨r, hr, z⟩ := inR_mem h.2 l q
      exact ⟨r, List.mem_cons_of_mem _ hr, z⟩
  | [], _ :: _, h, _, _ => h.elim
  | _ :: _, [], _, _, hl => by cases hl
/-- the number, pair by pair -/
def rkP (ps : List (Int × (Int × Int))) : Int := ps.foldl (fun a p => a * (p.2.2 - p.2.1 + 1) + p.1 - p.2.1) 0
theorem rkP_snoc (ps : List (Int × (Int × Int))) (p : Int × (Int × Int)) : rkP (ps ++ [p]) = rkP ps * (p.2.2 - p.2.1 + 1) + p.1 - p.2.1 := by unfold rkP; rw [List.foldl_append]; rfl
theorem rkP_eq (rows : List (Int × Int)) (ls : List Int) : rkP (ls.zip rows) = rkR rows ls := by
  have key : ∀ (rows : List (Int × Int)) (ls : List Int) (a : Int), (ls.zip rows).foldl (fun a p => a * (p.2.2 - p.2.1 + 1) + p.1 - p.2.1) a = (rows.zip ls).foldl (fun a p => a * (p.1.2 - p.1.1 + 1) + p.2 - p.1.1) a := fun rows => by
    induction rows with
    | nil => intro ls a; rw [List.zip_nil_right, List.zip_nil_left]; rfl
    | cons r rows ih =>
      intro ls a
      cases ls with
      | nil => rfl
      | cons l ls => rw [List.zip_cons_cons, List.zip_cons_cons, List.foldl_cons, List.foldl_cons, ih]
  exact key rows ls 0
theorem rkP_rng {ps : List (Int × (Int × Int))} : (∀ p ∈ ps, p.2.1 ≤ p.1 ∧ p.1 ≤ p.2.2 ∧ p.2.2 - p.2.1 < 63) → 0 ≤ rkP ps ∧ rkP ps < 2 ^ (6 * ps.length) := by
  induction ps using snocRec with
  | h0 => intro _; exact ⟨Int.le_refl _, by decide⟩
  | h1 ps p ih =>
    intro h
    obtain ⟨h1, h2⟩ := ih fun q hq => h q (List.mem_append_left _ hq)
    have h3 := h p (by simp)
    rw [rkP_snoc, List.length_append, List.length_singleton]
    have h4 : (2 : Int) ^ (6 * (ps.length + 1)) = 2 ^ (6 * ps.length) * 64 := by
      rw [show 6 * (ps.length + 1) = 6 * ps.length + 6 from by omega, Int.pow_add]
      rfl
    have hw : 0 ≤ p.2.2 - p.2.1 + 1 := by omega
    have h5 : 0 ≤ rkP ps * (p.2.2 - p.2.1 + 1) := Int.mul_nonneg h1 hw
    have h6 : (rkP ps + 1) * (p.2.2 - p.2.1 + 1) ≤ 2 ^ (6 * ps.length) * (p.2.2 - p.2.1 + 1) := Int.mul_le_mul_of_nonneg_right (by omega) hw
    have h7 : (2 : Int) ^ (6 * ps.length) * (p.2.2 - p.2.1 + 1) ≤ 2 ^ (6 * ps.length) * 64 := Int.mul_le_mul_of_nonneg_left (by omega) (by omega)
    rw [Int.add_mul, Int.one_mul] at h6
    omega
abbrev p_input_number : RR := rP fun ds r => ∃ (o : List Int) (s : Nat) (fs : List F3) (y : List Int), VS o ∧ s ≤ 40 ∧ FOk o fs ∧ y.Perm o ∧ InR (rngR o s fs) (ages y) ∧ ds = [iT o, .int (s : Nat), .tuple (fs.map fD), iT y] ∧ r = .d (.int (rkR (rngR o s fs) (ages y)))
theorem rng_map {o : List Int} (hn : o.Nodup) (s : Nat) (fs : List F3) : rngR o s fs = (srt o).map (rowA o s fs) := by
  refine List.ext_getElem? fun i => ?_
  rw [List.getElem?_map]
  by_cases hi : i < (srt o).length
  · have e := List.getElem?_eq_getElem hi
    rw [rng_i e, e]
    show _ = some (rowA o s fs (srt o)[i])
    unfold rowA
    rw [idx_of (srt_nodup.mpr hn) e]
  · rw [List.getElem?_eq_none (Nat.not_lt.mp hi), List.getElem?_eq_none (by rw [rng_len, ← srt_length]; omega)]
    rfl
theorem rowA_in {xs : List Int} (hn : xs.Nodup) (z : Nat) {fs : List F3} (hf : FTrue xs fs) {x : Int} (hx : x ∈ xs) : (rowA (outR xs z) z fs x).1 ≤ ((lateI xs x : Nat) : Int) ∧ ((lateI xs x : Nat) : Int) ≤ (rowA (outR xs z) z fs x).2 := by
  have h1 := rows_in hn z hf
  have hs : srt (outR xs z) = srt xs := srt_congr (outR_perm xs z)
  have lx := List.idxOf_lt_length_of_mem (mem_srt.mpr hx)
  have gx := List.getElem_idxOf lx
  refine h1.at ((srt xs).idxOf x) _ _ (by rw [← hs]; exact rng_get (mem_outR.mpr hx)) ?_
  unfold ages
  rw [List.getElem?_map, List.getElem?_eq_getElem lx, gx]
  rfl
theorem pick10_pos (i : Int) : 0 < (if i = 0 then 3 else if i = 1 then 10 else 41 : Int) ∧ (if i = 0 then 3 else if i = 1 then 10 else 41 : Int) ≤ 41 := by split <;> (try split) <;> decide
end LB

set_option Elab.async false
set_option linter.all false
set_option autoImplicit false
/-! LB20: promises for the examples. -/
namespace LB
open DL PySem PySem.Spec PyProof.Rows L2
abbrev p_is_ascending : RR := rP fun ds r => ∃ xs : List Int, xs.length ≤ 1000 ∧ xs.Pairwise (· < ·) ∧ ds = [iT xs] ∧ r = .d (.bool true)
abbrev p_is_lateness : RR := rP fun ds r => ∃ (items : List Int) (rows : List Nat), items.length ≤ 1000 ∧ rows.length = items.length ∧ RowOk rows ∧ ds = [iT items, iL (rows.map fun n : Nat => (n : Int))] ∧ r = .d (.bool true)
abbrev p_stream_of : RR := rP fun ds r => ∃ (items : List Int) (rows : List Nat), VS items ∧ items.Pairwise (· < ·) ∧ rows.length = items.length ∧ RowOk rows ∧ ds = [iT items, iL (rows.map fun n : Nat => (n : Int))] ∧ r = .d (iT (bldR items rows))
abbrev p_disorder : RR := rP fun ds r => ∃ xs : List Int, VS xs ∧ ds = [iT xs] ∧ r = .d (.int (ltn xs).sum)
abbrev p_is_output : RR := rP fun ds r => ∃ (o : List Int) (s : Nat), VS o ∧ s ≤ 40 ∧ ds = [iT o, .int (s : Nat)] ∧ r = .d (.bool (decide (0 < ways (rngR o s []))))
def mdR (o : List Int) (s : Nat) : Option (List Int) := if ways (rngR o s []) = 0 then none else some (bldR (srt o) (toN ((rngR o s []).map (·.2))))
abbrev p_most_disordered : RR := rP fun ds r => ∃ (o : List Int) (s : Nat), VS o ∧ s ≤ 40 ∧ ds = [iT o, .int (s : Nat)] ∧ r = .d (optT (mdR o s))
theorem zip_next : ∀ {xs : List Int}, xs.Pairwise (· < ·) → ∀ p ∈ xs.zip (xs.drop 1), p.1 < p.2
  | [], _, p, h => by cases h
  | [x], _, p, h => by cases h
  | x :: y :: xs, hp, p, h => by
    obtain ⟨h1, h2⟩ := List.pairwise_cons.mp hp
    rcases List.mem_cons.mp (show p ∈ (x, y) :: (y :: xs).zip xs from h) with q | q
    · rw [q]; exact h1 y List.mem_cons_self
    · exact zip_next h2 p q
theorem ways_pos : ∀ {rows : List (Int × Int)}, ways rows ≠ 0 → ∀ r ∈ rows, r.1 ≤ r.2
  | [], _, r, h => by cases h
  | a :: rows, hw, r, hr => by
    rw [ways_cons] at hw
    have h1 : wd a ≠ 0 := fun q => hw (by rw [q, Int.zero_mul])
    have h2 : ways rows ≠ 0 := fun q => hw (by rw [q, Int.mul_zero])
    rcases List.mem_cons.mp hr with q | q
    · rw [q]
      unfold wd at h1
      omega
    · exact ways_pos h2 r q
end LB

set_option Elab.async false
set_option linter.all false
set_option autoImplicit false
/-! LB21: the descending stream. -/
namespace LB
open DL PySem PySem.Spec PyProof.Rows L2
/-- n - 1, .., 0 -/
def dsc : Nat → List Int
  | 0 => []
  | n + 1 => (n : Int) :: dsc n
/-- a, .., a + n - 1 -/
def upF (a : Int) (n : Nat) : List Int := (List.range n).map fun i => a + ((i : Nat) : Int)
theorem upF_succ (a : Int) (n : Nat) : upF a (n + 1) = upF a n ++ [a + (n : Int)] := by unfold upF; rw [List.range_succ, List.map_append]; rfl
theorem upF_cons (a : Int) (n : Nat) : upF a (n + 1) = a :: upF (a + 1) n := by
  unfold upF
  rw [List.range_succ_eq_map, List.map_cons, List.map_map]
  congr 1
  · show a + ((0 : Nat) : Int) = a; omega
  · refine List.map_congr_left fun i _ => ?_
    show a + ((i + 1 : Nat) : Int) = a + 1 + (i : Nat)
    omega
theorem upF_len (a : Int) (n : Nat) : (upF a n).length = n := by unfold upF; rw [List.length_map, List.length_range]
theorem mem_upF {a x : Int} {n : Nat} : x ∈ upF a n ↔ a ≤ x ∧ x < a + n := by
  unfold upF
  rw [List.mem_map]
  constructor
  · rintro ⟨i, hi, rfl⟩
    have := List.mem_range.mp hi
    omega
  · intro h
    exact ⟨(x - a).toNat, List.mem_range.mpr (by omega), by omega⟩
theorem upF_lt (a : Int) (n : Nat) : (upF a n).Pairwise (· < ·) := by
  unfold upF
  rw [List.pairwise_map]
  exact (List.pairwise_lt_range (n := n)).imp fun h => by omega
theorem upF_srt (a : Int) (n : Nat) : srt (upF a n) = upF a n := srt_of_pw ((upF_lt a n).imp fun h => Int.le_of_lt h)
theorem dsc_len : ∀ n, (dsc n).length = n
  | 0 => rfl
  | n + 1 => by rw [dsc, List.length_cons, dsc_len n]
theorem mem_dsc {x : Int} : ∀ {n : Nat}, x ∈ dsc n ↔ 0 ≤ x ∧ x < n
  | 0 => ⟨(fun h => nomatch h), fun h => by omega⟩
  | n + 1 => by
    rw [dsc, List.mem_cons, mem_dsc (n := n)]
    omega
theorem dsc_lt (n : Nat) : ∀ y ∈ dsc n, y < (n : Int) := fun y h => (mem_dsc.mp h).2
theorem dsc_nodup : ∀ n, (dsc n).Nodup
  | 0 => List.nodup_nil
  | n + 1 => List.nodup_cons.mpr ⟨fun h => by have := dsc_lt n _ h; omega, dsc_nodup n⟩
theorem dsc_vs {n : Nat} (h : n ≤ 40) : VS (dsc n) := ⟨by rw [dsc_len]; exact h, fun x hx => by have := mem_dsc.mp hx; omega, dsc_nodup n⟩
theorem dsc_rng (n : Nat) : rngC ((n : Int) - 1) (-1) n = (dsc n).map PyData.int := by
  have key : ∀ (n : Nat) (m : Int), ((List.range n).map fun i => PyData.int (m + ((i : Nat) : Int) * (-1))) = ((List.range n).map fun i => m - ((i : Nat) : Int)).map PyData.int := fun n m => by
    rw [List.map_map]
    refine List.map_congr_left fun i _ => ?_
    show PyData.int (m + ((i : Nat) : Int) * (-1)) = PyData.int (m - ((i : Nat) : Int))
    congr 1
    omega
  have k2 : ∀ n : Nat, ((List.range n).map fun i => (n : Int) - 1 - ((i : Nat) : Int)) = dsc n := fun n => by
    induction n with
    | zero => rfl
    | succ n ih =>
      rw [List.range_succ_eq_map, List.map_cons, List.map_map, dsc, ← ih]
      congr 1
      · show ((n + 1 : Nat) : Int) - 1 - ((0 : Nat) : Int) = n
        omega
      · refine List.map_congr_left fun i _ => ?_
        show ((n + 1 : Nat) : Int) - 1 - ((i + 1 : Nat) : Int) = (n : Int) - 1 - (i : Nat)
        omega
  unfold rngC
  rw [key, k2]
theorem dsc_ltn : ∀ n, ltn (dsc n) = upF 0 n
  | 0 => rfl
  | n + 1 => by
    rw [dsc, ltn_first _ (dsc_lt n), dsc_ltn n, upF_cons]
    congr 1
    unfold upF
    rw [List.map_map]
    refine List.map_congr_left fun i _ => ?_
    show 1 + (0 + ((i : Nat) : Int)) = 0 + 1 + (i : Nat)
    omega
theorem dsc_out : ∀ (s n : Nat), outR (dsc n) s = dsc (n - s) ++ upF ((n - s : Nat) : Int) (n - (n - s))
  | 0, n => by rw [out_zero (dsc_nodup n), Nat.sub_zero, Nat.sub_self]; exact (List.append_nil _).symm
  | s + 1, 0 => by
    rw [Nat.zero_sub]
    exact List.eq_nil_of_length_eq_zero (outR_perm [] (s + 1)).length_eq
  | s + 1, n + 1 => by
    rw [dsc, out_first (dsc_lt n), dsc_out s n, List.append_assoc, show n + 1 - (s + 1) = n - s from by omega, show n + 1 - (n - s) = (n - (n - s)) + 1 from by omega, upF_succ]
    congr 3
    omega
theorem sum_up : ∀ n : Nat, (upF 0 n).sum = (n : Int) * ((n : Int) - 1) / 2
  | 0 => rfl
  | n + 1 => by
    rw [upF_succ, List.sum_append, sum_up n]
    have h : (((n + 1 : Nat) : Int) * (((n + 1 : Nat) : Int) - 1)) = (n : Int) * ((n : Int) - 1) + n * 2 := by
      rw [show ((n + 1 : Nat) : Int) = (n : Int) + 1 from by omega, show (n : Int) + 1 - 1 = n from by omega, Int.add_mul, Int.one_mul, Int.mul_sub, Int.mul_one]
      omega
    rw [h, Int.add_mul_ediv_right _ _ (by decide)]
    simp
theorem dsc_late : ∀ {n : Nat} {x : Int}, x ∈ dsc n → ((lateI (dsc n) x : Nat) : Int) = (n : Int) - 1 - x
  | n + 1, x, h => by
    rw [dsc, late_cons]
    have hx := mem_dsc.mp h
    by_cases e : (n : Int) = x
    · rw [if_pos e]; omega
    · rw [if_neg e, if_pos (by omega)]
      have := dsc_late (n := n) (x := x) (mem_dsc.mpr (by omega))
      omega
theorem up_late {a : Int} {n : Nat} {x : Int} (h : x ∈ upF a n) : lateI (upF a n) x = 0 := by
  have hn : (upF a n).Nodup := (upF_lt a n).imp fun h e => by omega
  have h2 := (out_sorted hn 0).mp (by rw [out_zero hn, upF_srt]) ((lateI (upF a n) x : Nat) : Int) (by unfold ages; rw [upF_srt]; exact List.mem_map.mpr ⟨x, h, rfl⟩)
  omega
theorem dsc_filter (k : Int) : ∀ n : Nat, (dsc n).filter (fun x => decide (x < k)) = dsc (min k.toNat n)
  | 0 => by rw [Nat.min_zero]; rfl
  | n + 1 => by
    rw [dsc, List.filter_cons, dsc_filter k n]
    by_cases h : (n : Int) < k
    · rw [if_pos (decide_eq_true h), show min k.toNat (n + 1) = n + 1 from by omega, show min k.toNat n = n from by omega, dsc]
    · rw [if_neg (by simpa using h), show min k.toNat (n + 1) = k.toNat from by omega, show min k.toNat n = k.toNat from by omega]
theorem dsc_filterN (k : Int) (hk : 0 ≤ k) : ∀ n : Nat, (dsc n).filter (fun x => !decide (x < k)) = (upF k (n - k.toNat)).reverse
  | 0 => by rw [Nat.zero_sub]; rfl
  | n + 1 => by
    rw [dsc, List.filter_cons, dsc_filterN k hk n]
    by_cases h : (n : Int) < k
    · rw [if_neg (by simp [h]), show n + 1 - k.toNat = 0 from by omega, show n - k.toNat = 0 from by omega]
    · rw [if_pos (by simp [h]), show n + 1 - k.toNat = (n - k.toNat) + 1 from by omega, upF_succ, List.reverse_append, List.reverse_singleton, List.singleton_append]
      congr 1
      omega
theorem dsc_drop (s n : Nat) : dropR s (dsc n) = dsc (n - 1 - s) := by
  unfold dropR
  have h : (dsc n).filter (fun x => decide ((s : Int) < ((lateI (dsc n) x : Nat) : Int))) = (dsc n).filter fun x => decide (x < (n : Int) - 1 - s) := List.filter_congr fun x hx => by
    rw [dsc_late hx, decide_eq_decide]
    omega
  rw [h, dsc_filter]
  congr 1
  omega
theorem dsc_kept (s n : Nat) : keptR s (dsc n) = upF ((n - 1 - s : Nat) : Int) (n - (n - 1 - s)) := by
  unfold keptR
  have h : (dsc n).filter (fun x => !decide ((s : Int) < ((lateI (dsc n) x : Nat) : Int))) = (dsc n).filter fun x => !decide (x < ((n - 1 - s : Nat) : Int)) := List.filter_congr fun x hx => by
    have hm := mem_dsc.mp hx
    rw [dsc_late hx]
    congr 1
    rw [decide_eq_decide]
    omega
  rw [h, dsc_filterN _ (by omega), Int.toNat_natCast]
  exact (srt_congr (List.reverse_perm _)).trans (upF_srt _ _)
theorem newer_first {M : Int} {xs : List Int} {y : Int} (h : y < M) : newerL (M :: xs) y = 1 :: (newerL xs y).map fun t => 1 + t := by
  unfold newerL
  rw [List.zipIdx_cons', List.filter_cons, if_pos (decide_eq_true h), List.map_cons, List.filter_map, List.map_map, List.map_map]
  congr 1
  refine List.map_congr_left fun p _ => ?_
  show (((p.2 + 1 : Nat) : Nat) : Int) + 1 = 1 + (((p.2 : Nat) : Int) + 1)
  omega
theorem newer_max {M : Int} {xs : List Int} (h : ∀ y ∈ xs, y < M) : newerL (M :: xs) M = [] := by
  unfold newerL
  rw [List.filter_eq_nil_iff.mpr fun p hp => ?_]
  · rfl
  · have h1 := List.getElem?_eq_some_iff.mp (List.mem_zipIdx_iff_getElem?.mp hp)
    obtain ⟨h2, h3⟩ := h1
    have h4 : p.1 ∈ M :: xs := h3 ▸ List.getElem_mem h2
    rcases List.mem_cons.mp h4 with q | q
    · simp [q]
    · have := h _ q
      simp
      omega
theorem em_first {M : Int} {xs : List Int} (h : ∀ y ∈ xs, y < M) (s : Nat) : emT (s + 1) (M :: xs) = ((xs.length + 1 : Nat) : Int) :: (emT s xs).map fun t => 1 + t := by
  unfold emT
  rw [List.map_cons, List.map_map]
  congr 1
  · unfold timeL
    rw [newer_max h, List.filter_nil, List.length_nil, if_neg (by omega), if_neg (by omega)]
    rfl
  · refine List.map_congr_left fun y hy => ?_
    have hyM := h y hy
    show timeL (M :: xs) (s + 1) ((M :: xs).idxOf y) y = 1 + timeL xs s (xs.idxOf y) y
    have hi : (M :: xs).idxOf y = xs.idxOf y + 1 := by
      rw [List.idxOf_cons, show (M == y) = false from by simp; omega]
      rfl
    have hf : ((newerL (M :: xs) y).filter fun p => decide (p ≤ ((xs.idxOf y + 1 : Nat) : Int))).length = ((newerL xs y).filter fun p => decide (p ≤ ((xs.idxOf y : Nat) : Int))).length + 1 := by
      rw [newer_first hyM, List.filter_cons, if_pos (decide_eq_true (by omega)), List.length_cons, List.filter_map, List.length_map]
      congr 2
      refine List.filter_congr fun t _ => ?_
      show decide (1 + t ≤ ((xs.idxOf y + 1 : Nat) : Int)) = decide (t ≤ ((xs.idxOf y : Nat) : Int))
      rw [decide_eq_decide]
      omega
    unfold timeL
    rw [hi, hf, newer_first hyM, List.length_cons, List.length_map, List.length_cons]
    by_cases c1 : s ≤ ((newerL xs y).filter fun p => decide (p ≤ ((xs.idxOf y : Nat) : Int))).length
    · rw [if_pos (by omega), if_pos c1]
      omega
    · rw [if_neg (by omega), if_neg c1]
      have hs : 0 < s := by
        rcases Nat.eq_zero_or_pos s with q | q
        · rw [q] at c1; exact absurd (Nat.zero_le _) c1
        · exact q
      by_cases c2 : s ≤ (newerL xs y).length
      · rw [if_pos (by omega), if_pos c2, show s + 1 - 1 = (s - 1) + 1 from by omega, List.getElem?_cons_succ, List.getElem?_map, List.getElem?_eq_getElem (show s - 1 < (newerL xs y).length by omega)]
        rfl
      · rw [if_neg (by omega), if_neg c2]
        omega
theorem em_zero {xs : List Int} (hn : xs.Nodup) : emT 0 xs = upF 1 xs.length := by
  refine List.ext_getElem? fun i => ?_
  unfold emT upF
  rw [List.getElem?_map, List.getElem?_map]
  by_cases hi : i < xs.length
  · rw [List.getElem?_eq_getElem hi, List.getElem?_range hi]
    show some (timeL xs 0 (xs.idxOf xs[i]) xs[i]) = some _
    rw [idx_of hn (List.getElem?_eq_getElem hi)]
    unfold timeL
    rw [if_pos (Nat.zero_le _)]
    show some (((i : Nat) : Int) + 1) = some (1 + ((i : Nat) : Int))
    congr 1
    omega
  · rw [List.getElem?_eq_none (Nat.not_lt.mp hi), List.getElem?_eq_none (by rw [List.length_range]; omega)]
    rfl
theorem dsc_em : ∀ (s n : Nat), emT s (dsc n) = List.replicate (min s n) (n : Int) ++ upF ((s : Int) + 1) (n - s)
  | 0, n => by rw [em_zero (dsc_nodup n), dsc_len, Nat.zero_min, Nat.sub_zero]; rfl
  | s + 1, 0 => by rw [Nat.min_zero, Nat.zero_sub]; rfl
  | s + 1, n + 1 => by
    rw [dsc, em_first (dsc_lt n), dsc_em s n, dsc_len, List.map_append, List.map_replicate, show min (s + 1) (n + 1) = min s n + 1 from by omega, List.replicate_succ, List.cons_append, show n + 1 - (s + 1) = n - s from by omega]
    congr 2
    · congr 1
      omega
    · unfold upF
      rw [List.map_map]
      refine List.map_congr_left fun i _ => ?_
      show 1 + ((s : Int) + 1 + ((i : Nat) : Int)) = ((s + 1 : Nat) : Int) + 1 + (i : Nat)
      omega
end LB

set_option Elab.async false
set_option linter.all false
set_option autoImplicit false
/-! LB22: the ascending stream, the stream with one late item. -/
namespace LB
open DL PySem PySem.Spec PyProof.Rows L2
theorem up_nodup (a : Int) (n : Nat) : (upF a n).Nodup := (upF_lt a n).imp fun h e => by omega
theorem up_vs {a : Int} {n : Nat} (ha : 0 ≤ a) (h : n ≤ 40) (h2 : a ≤ 40) : VS (upF a n) := ⟨by rw [upF_len]; exact h, fun x hx => by have := mem_upF.mp hx; omega, up_nodup a n⟩
theorem up_rngD (a : Int) (n : Nat) : rngD a n = (upF a n).map PyData.int := by unfold rngD upF; rw [List.map_map]; rfl
theorem up_ages (a : Int) (n : Nat) : ages (upF a n) = List.replicate n 0 := by
  unfold ages
  rw [upF_srt]
  refine List.ext_getElem? fun i => ?_
  rw [List.getElem?_map]
  by_cases hi : i < n
  · have h := List.getElem?_eq_getElem (l := upF a n) (i := i) (by rw [upF_len]; exact hi)
    rw [h, List.getElem?_replicate, if_pos hi]
    show some ((lateI (upF a n) _ : Nat) : Int) = _
    rw [up_late (List.getElem_mem _)]
    rfl
  · rw [List.getElem?_eq_none (by rw [upF_len]; omega), List.getElem?_eq_none (by rw [List.length_replicate]; omega)]
    rfl
/-- the law's product -/
def prR (s : Nat) (c : Nat) : Int := (List.range c).foldl (fun m i => m * (min (s : Int) ((i : Nat) : Int) + 1)) 1
theorem prR_succ (s c : Nat) : prR s (c + 1) = prR s c * (min (s : Int) (c : Int) + 1) := by unfold prR; rw [List.range_succ, List.foldl_append]; rfl
theorem prR_rng (s : Nat) (hs : s ≤ 40) : ∀ c : Nat, 0 ≤ prR s c ∧ prR s c < 2 ^ (6 * c + 1)
  | 0 => ⟨by show (0 : Int) ≤ 1; decide, by show (1 : Int) < 2 ^ 1; decide⟩
  | c + 1 => by
    obtain ⟨h1, h2⟩ := prR_rng s hs c
    rw [prR_succ]
    have h4 : 0 ≤ min (s : Int) (c : Int) + 1 ∧ min (s : Int) (c : Int) + 1 ≤ 63 := by omega
    refine ⟨Int.mul_nonneg h1 h4.1, ?_⟩
    have h5 : prR s c * (min (s : Int) (c : Int) + 1) ≤ prR s c * 63 := Int.mul_le_mul_of_nonneg_left h4.2 h1
    have h6 : (2 : Int) ^ (6 * (c + 1) + 1) = 2 ^ (6 * c + 1) * 64 := by
      rw [show 6 * (c + 1) + 1 = (6 * c + 1) + 6 from by omega, Int.pow_add]
      rfl
    omega
theorem up_ways (s : Nat) : ∀ c : Nat, ways (rngR (upF 0 c) s []) = prR s c := by
  have h : ∀ c : Nat, rngR (upF 0 c) s [] = (List.range c).map fun i => rowB c s i 0 := fun c => by
    rw [rng_free, up_ages, upF_len]
    refine List.ext_getElem? fun i => ?_
    rw [List.getElem?_map, List.getElem?_map, List.getElem?_zipIdx, List.getElem?_replicate]
    by_cases hi : i < c
    · rw [if_pos hi, List.getElem?_range hi]
      simp
    · rw [if_neg hi, List.getElem?_eq_none (by rw [List.length_range]; omega)]
      rfl
  intro c
  rw [h]
  induction c with
  | zero => rfl
  | succ c ih =>
    rw [List.range_succ_eq_map, List.map_cons, List.map_map, ways_cons, prR_succ, ← ih, Int.mul_comm]
    have h1 : ((List.range c).map ((fun i => rowB (c + 1) s i 0) ∘ Nat.succ)) = (List.range c).map fun i => rowB c s i 0 := List.map_congr_left fun i _ => by
      show rowB (c + 1) s (i + 1) 0 = rowB c s i 0
      unfold rowB
      rw [if_neg (by decide), if_neg (by decide), show ((c + 1 : Nat) : Int) - 1 - ((i + 1 : Nat) : Int) = (c : Int) - 1 - (i : Nat) from by omega]
    have h2 : wd (rowB (c + 1) s 0 0) = min (s : Int) (c : Int) + 1 := by
      unfold rowB wd
      rw [if_neg (by decide)]
      show max 0 (min (min (s : Int) (((c + 1 : Nat) : Int) - 1 - ((0 : Nat) : Int))) (((c + 1 : Nat) : Int) - 1 - ((0 : Nat) : Int)) - 0 + 1) = _
      omega
    rw [h1, h2]
theorem up_wit (s c : Nat) : witR (upF 0 c) s = none := (witR_none (up_nodup 0 c) s).mpr ((out_sorted (up_nodup 0 c) s).mpr fun l hl => by
  rw [up_ages] at hl
  rw [List.eq_of_mem_replicate hl]
  omega)
theorem dsc_least (n : Nat) : leastR (dsc n) 0 = max 0 ((n : Int) - 1) := by
  cases n with
  | zero =>
    show leastR [] 0 = _
    unfold leastR
    rw [srt_eq]
    rfl
  | succ n =>
    rw [← least_mx (by rw [dsc]; simp), dsc_ltn]
    refine (mxL_unique (mem_upF.mpr (by omega)) fun y hy => ?_).symm
    have := mem_upF.mp hy
    omega
/-! ### one late -/
def oneL (c : Nat) : List Int := upF 1 (c - 1) ++ [0]
theorem one_pos (c : Nat) : ∀ y ∈ upF 1 (c - 1), (0 : Int) < y := fun y h => by have := mem_upF.mp h; omega
theorem one_vs {c : Nat} (h : 1 ≤ c) (h2 : c ≤ 40) : VS (oneL c) := ⟨by unfold oneL; rw [List.length_append, upF_len, List.length_singleton]; omega, fun x hx => by
  rcases List.mem_append.mp hx with q | q
  · have := mem_upF.mp q; omega
  · rw [List.mem_singleton.mp q]; decide, List.nodup_append.mpr ⟨up_nodup _ _, List.nodup_cons.mpr ⟨List.not_mem_nil, List.nodup_nil⟩, fun a ha b hb e => by
      have := one_pos c a ha
      rw [List.mem_singleton.mp hb] at e
      omega⟩⟩
theorem up_ltn (a : Int) (n : Nat) : ltn (upF a n) = List.replicate n 0 := by
  rw [ltn_eq (up_nodup a n)]
  refine List.ext_getElem? fun i => ?_
  rw [List.getElem?_map]
  by_cases hi : i < n
  · have h := List.getElem?_eq_getElem (l := upF a n) (i := i) (by rw [upF_len]; exact hi)
    rw [h, List.getElem?_replicate, if_pos hi]
    show some ((lateI (upF a n) _ : Nat) : Int) = _
    rw [up_late (List.getElem_mem _)]
    rfl
  · rw [List.getElem?_eq_none (by rw [upF_len]; omega), List.getElem?_eq_none (by rw [List.length_replicate]; omega)]
    rfl
theorem one_ltn {c : Nat} (h : 1 ≤ c) : ltn (oneL c) = List.replicate (c - 1) 0 ++ [(c : Int) - 1] := by
  unfold oneL
  rw [ltn_snoc', up_ltn, gt_every (one_pos c), upF_len]
  congr 2
  omega
theorem one_least {c : Nat} (h : 1 ≤ c) : leastR (oneL c) 1 = 0 := by
  unfold leastR
  rw [one_ltn h, srt_of_pw (List.pairwise_append.mpr ⟨List.pairwise_replicate.mpr (.inr (Int.le_refl 0)), List.pairwise_singleton _ _, fun a ha b hb => by
    rw [List.eq_of_mem_replicate ha, List.mem_singleton.mp hb]; omega⟩), List.reverse_append, List.reverse_singleton, List.singleton_append, List.getElem?_cons_succ, List.reverse_replicate, List.getElem?_replicate]
  split <;> rfl
theorem one_srt {c : Nat} (h : 1 ≤ c) : srt (oneL c) = upF 0 c := by
  obtain ⟨d, rfl⟩ : ∃ d, c = d + 1 := ⟨c - 1, by omega⟩
  refine (srt_unique ?_ ((upF_lt 0 (d + 1)).imp fun h => Int.le_of_lt h)).symm
  rw [upF_cons]
  unfold oneL
  exact (List.perm_append_singleton 0 _).symm
theorem one_late0 {c : Nat} : lateI (oneL c) 0 = c - 1 := by
  unfold oneL
  rw [late_here [] (one_pos c), upF_len]
theorem one_lateN {c : Nat} {x : Int} (h : x ∈ upF 1 (c - 1)) : lateI (oneL c) x = 0 := by
  have := one_pos c x h
  unfold oneL
  rw [late_skip (by omega) (by omega), List.append_nil, up_late h]
theorem one_out {c : Nat} (h : 1 ≤ c) (h2 : c ≤ 40) (s : Nat) : outR (oneL c) s = upF 0 c ↔ c - 1 ≤ s := by
  rw [← one_srt h, out_sorted (one_vs h h2).nd]
  constructor
  · intro k
    have := k ((lateI (oneL c) 0 : Nat) : Int) (by unfold ages; exact List.mem_map.mpr ⟨0, by rw [mem_srt]; unfold oneL; simp, rfl⟩)
    rw [one_late0] at this
    omega
  · intro k l hl
    have hl2 := (ltn_perm (one_vs h h2).nd).mem_iff.mpr hl
    rw [one_ltn h] at hl2
    rcases List.mem_append.mp hl2 with q | q
    · rw [List.eq_of_mem_replicate q]; omega
    · rw [List.mem_singleton.mp q]; omega
theorem one_out0 {c : Nat} (h : 2 ≤ c) (h2 : c ≤ 40) (s : Nat) : outR (oneL c) s = oneL c ↔ s = 0 := by
  have nd := (one_vs (show 1 ≤ c by omega) h2).nd
  constructor
  · intro k
    have h1 := late_out (oneL c) s nd 0 (by unfold oneL; simp)
    rw [k, one_late0] at h1
    omega
  · intro k
    rw [k, out_zero nd]
theorem flt_range : ∀ k < 41, ((List.range 41).filter fun s => decide (k ≤ s)) = List.range' k (41 - k) := by decide
theorem one_szs {c : Nat} (h : 1 ≤ c) (h2 : c ≤ 40) : szs (oneL c) (upF 0 c) 41 = List.range' (c - 1) (41 - (c - 1)) := by
  unfold szs
  rw [← flt_range (c - 1) (by omega)]
  exact List.filter_congr fun s _ => by rw [decide_eq_decide]; exact one_out h h2 s
theorem one_szs0 {c : Nat} (h : 2 ≤ c) (h2 : c ≤ 40) : szs (oneL c) (oneL c) 41 = [0] := by
  have e : ((List.range 41).filter fun s => decide (s = 0)) = [0] := by decide
  unfold szs
  rw [← e]
  exact List.filter_congr fun s _ => by rw [decide_eq_decide]; exact one_out0 h h2 s
theorem one_drop {c : Nat} (h : 2 ≤ c) : dropR 0 (oneL c) = [0] ∧ keptR 0 (oneL c) = upF 1 (c - 1) := by
  have h0 : lateI (oneL c) 0 = c - 1 := one_late0
  have hf : ∀ (q : Bool → Bool), (oneL c).filter (fun x => q (decide (((0 : Nat) : Int) < ((lateI (oneL c) x : Nat) : Int)))) = (upF 1 (c - 1)).filter (fun _ => q false) ++ [0].filter fun _ => q true := fun q => by
    have e : oneL c = upF 1 (c - 1) ++ [0] := rfl
    conv => lhs; rw [e]
    rw [List.filter_append]
    congr 1
    · refine List.filter_congr fun x hx => ?_
      rw [← e, one_lateN hx, decide_eq_false (by omega)]
    · refine List.filter_congr fun x hx => ?_
      rw [List.mem_singleton.mp hx, ← e, h0, decide_eq_true (by omega)]
  constructor
  · unfold dropR
    exact (hf id).trans (by simp)
  · unfold keptR
    rw [hf not]
    have e1 : (upF 1 (c - 1)).filter (fun _ => !false) = upF 1 (c - 1) := List.filter_eq_self.mpr fun _ _ => rfl
    rw [e1, show ([0] : List Int).filter (fun _ => !true) = [] from rfl, List.append_nil]
    exact upF_srt _ _
theorem one_lw {c : Nat} (h : 2 ≤ c) : lwR (oneL c) = (c : Int) - 1 := by
  have e0 : lwF (oneL c) (upF 1 (c - 1)).zipIdx = 0 := by
    have h1 : lwF (oneL c) (upF 1 (c - 1)).zipIdx ≤ 0 := (lwF_le _ _ 0 (Int.le_refl 0)).mpr fun p hp => .inl ?_
    · have := lwF_nonneg (oneL c) (upF 1 (c - 1)).zipIdx
      omega
    · have h2 := List.getElem?_eq_some_iff.mp (List.mem_zipIdx_iff_getElem?.mp hp)
      obtain ⟨h3, h4⟩ := h2
      have ht : (oneL c).take p.2 = (upF 1 (c - 1)).take p.2 := by unfold oneL; rw [List.take_append_of_le_length (by omega)]
      rw [ht]
      refine List.eq_nil_of_length_eq_zero ?_
      have hi := idx_of (up_nodup 1 (c - 1)) (List.mem_zipIdx_iff_getElem?.mp hp)
      have hl := up_late (show p.1 ∈ upF 1 (c - 1) from h4 ▸ List.getElem_mem h3)
      unfold lateI at hl
      rw [hi] at hl
      exact hl
  have hnew : newW (upF 1 (c - 1)) 0 = upF 1 (c - 1) := List.filter_eq_self.mpr fun y hy => decide_eq_true (one_pos c y hy)
  have hne : upF 1 (c - 1) ≠ [] := fun q => by
    have := congrArg List.length q
    rw [upF_len] at this
    simp at this
    omega
  have hmx : mxL (upF 1 (c - 1)) = (c : Int) - 1 := (mxL_unique (mem_upF.mpr (by omega)) fun y hy => by have := mem_upF.mp hy; omega).symm
  have hmn : mnL (upF 1 (c - 1)) = 1 := (mnL_unique (mem_upF.mpr (by omega)) fun y hy => (mem_upF.mp hy).1).symm
  rw [lwF_take]
  have ez : (oneL c).zipIdx = (upF 1 (c - 1)).zipIdx ++ [(0, c - 1)] := by
    unfold oneL
    rw [List.zipIdx_append, upF_len]
    simp
  rw [ez, lwF_snoc]
  have ht : (oneL c).take (c - 1) = upF 1 (c - 1) := by unfold oneL; exact List.take_left' (upF_len _ _)
  show (if newW ((oneL c).take (c - 1)) 0 = [] then _ else _) = _
  rw [ht, hnew, if_neg hne, e0, hmx, hmn]
  omega
end LB

set_option Elab.async false
set_option linter.all false
set_option maxRecDepth 100000
set_option autoImplicit false
/-! LB23: the examples. -/
namespace LB
open DL PySem PySem.Spec PyProof.Rows L2
abbrev x1 : List Int := [5, 3, 8, 1, 6]
abbrev x2 : List Int := [3, 5, 1, 6, 8]
abbrev kk : List Int := [0, 1, 0, 1, 0]
theorem v1 : VS x1 := ⟨by decide, by decide, by decide⟩
theorem v2 : VS x2 := ⟨by decide, by decide, by decide⟩
theorem v31 : VS [3, 1] := ⟨by decide, by decide, by decide⟩
theorem v130 : VS [1, 3, 0] := ⟨by decide, by decide, by decide⟩
theorem q1 : ltn x1 = [0, 1, 0, 3, 1] := by decide +kernel
theorem q2 : bldR [1, 3, 5, 6, 8] [3, 1, 0, 1, 0] = x1 := by decide +kernel
theorem q3 : (ltn x1).sum = 5 := by decide +kernel
theorem q4 : outR x1 1 = x2 := by unfold outR passR passS; rw [srt_eq]; decide +kernel
theorem q5 : chainI x1 [1, 2] = [1, 3, 5, 6, 8] := by unfold chainI outR passR passS; rw [srt_eq]; decide +kernel
theorem q6 : leastR x1 1 = 1 := by unfold leastR; rw [srt_eq]; decide +kernel
theorem q7 : keptR 1 x1 = [3, 5, 6, 8] := by unfold keptR; rw [srt_eq]; decide +kernel
theorem q8 : dropR 1 x1 = [1] := by decide +kernel
theorem q9 : emT 1 x1 = [3, 2, 5, 4, 5] := by decide +kernel
theorem q10 : (srt (x1.take 3)).drop (3 - 2) = [5, 8] := by rw [srt_eq]; decide +kernel
theorem q11 : delayN 1 5 = 4 := by decide +kernel
theorem q12 : wit x1 1 (.tuple [.int 1, .tuple [.int 5, .int 8]]) = true := by decide +kernel
theorem q13 : ways (rngR [3, 1] 1 []) = 0 := by unfold rngR ages; rw [srt_eq]; decide +kernel
theorem q14 : ways (rngR x2 1 []) = 8 := by unfold rngR ages; rw [srt_eq]; decide +kernel
theorem q15 : ways (rngR x2 1 [(3, 1, 2)]) = 4 := by unfold rngR ages; rw [srt_eq]; decide +kernel
theorem q16 : lrR x2 1 [] 6 = some (0, 1) := by unfold lrR rowA rngR ages; rw [srt_eq]; decide +kernel
theorem q17 : bldR (srt x2) (toN (unk (rngR x2 1 []) 0)) = [3, 5, 6, 1, 8] := by unfold rngR ages; rw [srt_eq]; decide +kernel
theorem q18 : rkR (rngR x2 1 []) (ages x1) = 5 := by unfold rngR ages; rw [srt_eq]; decide +kernel
theorem q18i : InR (rngR x2 1 []) (ages x1) := by
  have h := rows_in v1.nd 1 (fs := []) (fun f h => nomatch h)
  rwa [q4] at h
theorem q19 : mdR x2 1 = some [8, 3, 5, 1, 6] := by unfold mdR rngR ages; rw [srt_eq]; decide +kernel
theorem q20 : szs x1 x2 41 = [1] := by unfold szs outR passR passS; rw [srt_eq]; decide +kernel
theorem q21 : ((ltn x1).map fun l => min l ((1 : Nat) : Int)).sum = 3 := by decide +kernel
theorem q22 : sdL kk = [0, 1] := by unfold sdL; rw [srt_eq]; decide +kernel
theorem q23 : szK x1 kk 0 = 1 := by decide +kernel
theorem q24 : szK x1 kk 1 = 1 := by decide +kernel
theorem q25 : missL 4 (outR x1 1) = [1] := by rw [q4]; decide +kernel
theorem q26 : outR (partK x1 kk 0) 1 = [5, 6, 8] := by unfold outR passR passS; rw [srt_eq]; decide +kernel
theorem q27 : outR (partK x1 kk 1) 1 = [1, 3] := by unfold outR passR passS; rw [srt_eq]; decide +kernel
theorem q28 : lwR [1, 3, 0] = 3 := by decide +kernel
theorem q29 : wmR [1, 3, 0] 2 = [1, 0, 3] := by unfold wmR wmS; rw [srt_eq]; decide +kernel
theorem q30 : wchain [1, 3, 0] [1, 1] = [0, 1, 3] := by unfold wchain wmR wmS; rw [srt_eq]; decide +kernel
theorem kok : KOk x1 kk := ⟨rfl, by decide⟩
abbrev p_exR : RR := rP fun ds r => ds = [] ∧ r = .d (.bool true)
abbrev p_descR : RR := rP fun ds r => ∃ c s : Nat, c ≤ 40 ∧ s ≤ 40 ∧ ds = [.int (c : Nat), .int (s : Nat)] ∧ r = .d (.bool true)
abbrev p_oneR : RR := rP fun ds r => ∃ c : Nat, 2 ≤ c ∧ c ≤ 40 ∧ ds = [.int (c : Nat)] ∧ r = .d (.bool true)
end LB

set_option Elab.async false
set_option linter.all false
set_option autoImplicit false
/-! LB24: k03: lateness lists in order; inversions of swapped and of reversed streams. -/
namespace LB
open DL PySem PySem.Spec PyProof.Rows L2
/-! ### all lateness lists -/
def lng (n i : Nat) (rows : List (List Nat)) : List (List Nat) := rows.flatMap fun row => (List.range (n - i)).map fun late => row ++ [late]
def rowsL (n : Nat) : Nat → List (List Nat)
  | 0 => [[]]
  | i + 1 => lng n i (rowsL n i)
theorem rowsL_few {n i : Nat} (hn : n ≤ 6) (hi : i ≤ 6) : (rowsL n i).length ≤ 720 := by
  have h : ((List.range 7).all fun n => (List.range 7).all fun i => decide ((rowsL n i).length ≤ 720)) = true := by decide +kernel
  have h1 := List.all_eq_true.mp h n (List.mem_range.mpr (by omega))
  exact of_decide_eq_true (List.all_eq_true.mp h1 i (List.mem_range.mpr (by omega)))
theorem rowsL_mem {n : Nat} : ∀ {i : Nat} {row : List Nat}, row ∈ rowsL n i → row.length = i ∧ ∀ (j l : Nat), row[j]? = some l → l + j < n
  | 0, row, h => by
    rw [List.mem_singleton.mp h]
    exact ⟨rfl, fun j l e => by simp at e⟩
  | i + 1, row, h => by
    obtain ⟨r, hr, h2⟩ := List.mem_flatMap.mp h
    obtain ⟨late, hl, rfl⟩ := List.mem_map.mp h2
    obtain ⟨h3, h4⟩ := rowsL_mem hr
    have hl := List.mem_range.mp hl
    refine ⟨by rw [List.length_append, h3]; rfl, fun j l e => ?_⟩
    by_cases c : j < r.length
    · rw [List.getElem?_append_left c] at e
      exact h4 j l e
    · rw [List.getElem?_append_right (by omega)] at e
      cases q : j - r.length with
      | zero => rw [q] at e; cases e; omega
      | succ m => rw [q] at e; simp at e
theorem rowsL_nodup (n : Nat) : ∀ i : Nat, (rowsL n i).Nodup
  | 0 => by simp [rowsL]
  | i + 1 => by
    refine List.pairwise_flatMap.mpr ⟨fun row _ => List.pairwise_map.mpr (List.nodup_range.imp fun {a b} h e => h (by simpa using List.append_cancel_left e)), (rowsL_nodup n i).imp fun {r1 r2} h => ?_⟩
    intro x hx y hy e
    obtain ⟨a, _, rfl⟩ := List.mem_map.mp hx
    obtain ⟨b, _, rfl⟩ := List.mem_map.mp hy
    exact h (List.append_inj' e rfl).1
theorem rowsL_ok {n : Nat} {row : List Nat} (h : row ∈ rowsL n n) : row.length = n ∧ RowOk row := by
  obtain ⟨h1, h2⟩ := rowsL_mem h
  exact ⟨h1, rowOk_of fun j l e => by rw [h1]; exact h2 j l e⟩
/-- all streams of these items -/
def ordR (items : List Int) : List (List Int) := (rowsL items.length items.length).map (bldR items)
theorem ordR_nodup {items : List Int} (hp : items.Pairwise (· < ·)) : (ordR items).Nodup :=
  List.pairwise_map.mpr ((rowsL_nodup items.length items.length).imp_of_mem fun {r1 r2} h1 h2 hne e => hne (by
    obtain ⟨a1, b1⟩ := rowsL_ok h1
    obtain ⟨a2, b2⟩ := rowsL_ok h2
    rw [← ages_bld hp a1 b1, e, ages_bld hp a2 b2]))
theorem ordR_perm {items s : List Int} (h : s ∈ ordR items) : s.Perm items := by
  obtain ⟨row, hr, rfl⟩ := List.mem_map.mp h
  exact bldR_perm (rowsL_ok hr).1
theorem ordR_few {items : List Int} (h : items.length ≤ 6) : (ordR items).length ≤ 720 := by
  unfold ordR
  rw [List.length_map]
  exact rowsL_few h h
/-- the last items alone -/
theorem bldR_drop {items : List Int} {row : List Nat} {i : Nat} {x : Int} {l : Nat} (h1 : items[i]? = some x) (h2 : row[i]? = some l) : bldR (items.drop i) (row.drop i) = insI l x (bldR (items.drop (i + 1)) (row.drop (i + 1))) := by
  obtain ⟨a, ea⟩ := List.getElem?_eq_some_iff.mp h1
  obtain ⟨b, eb⟩ := List.getElem?_eq_some_iff.mp h2
  rw [List.drop_eq_getElem_cons a, List.drop_eq_getElem_cons b, ea, eb]
  rfl
/-! ### inversions -/
def inv (xs : List Int) : Int := (ltn xs).sum
def crs (xs ys : List Int) : Int := (ys.map fun y => ((gt y xs : Nat) : Int)).sum
theorem inv_snoc (xs : List Int) (x : Int) : inv (xs ++ [x]) = inv xs + ((gt x xs : Nat) : Int) := by
  unfold inv
  rw [ltn_snoc', List.sum_append]
  simp
theorem crs_snoc (xs ys : List Int) (y : Int) : crs xs (ys ++ [y]) = crs xs ys + ((gt y xs : Nat) : Int) := by
  unfold crs
  rw [List.map_append, List.sum_append]
  simp
theorem inv_app (xs : List Int) : ∀ ys : List Int, inv (xs ++ ys) = inv xs + inv ys + crs xs ys := fun ys => by
  induction ys using snocRec with
  | h0 => rw [List.append_nil]; simp [inv, crs, ltn]
  | h1 ys y ih =>
    rw [← List.append_assoc, inv_snoc, inv_snoc, crs_snoc, ih, gt_append]
    omega
theorem crs_left {xs xs' : List Int} (p : xs.Perm xs') (ys : List Int) : crs xs ys = crs xs' ys := by
  unfold crs
  congr 1
  exact List.map_congr_left fun y _ => by rw [gt_perm p]
theorem crs_right (xs : List Int) {ys ys' : List Int} (p : ys.Perm ys') : crs xs ys = crs xs ys' := by
  unfold crs
  exact sum_perm (p.map _)
theorem inv_two (a b : Int) : inv [a, b] = if b < a then 1 else 0 := by
  have h : inv [a, b] = inv ([] ++ [a]) + ((gt b [a] : Nat) : Int) := inv_snoc [a] b
  rw [h, inv_snoc]
  unfold gt
  by_cases c : b < a
  · simp [inv, ltn, c]
  · simp [inv, ltn, c]
/-- two neighbors swapped -/
theorem inv_swap (pre post : List Int) {a b : Int} (hne : a ≠ b) : inv (pre ++ b :: a :: post) = inv (pre ++ a :: b :: post) + if b < a then -1 else 1 := by
  have p : ([b, a] : List Int).Perm [a, b] := List.Perm.swap a b []
  have h1 := inv_app pre ([b, a] ++ post)
  have h2 := inv_app pre ([a, b] ++ post)
  have h3 := inv_app [b, a] post
  have h4 := inv_app [a, b] post
  have h5 := crs_right pre (p.append_right post)
  have h6 := crs_left p post
  rw [inv_two] at h3 h4
  show inv (pre ++ ([b, a] ++ post)) = inv (pre ++ ([a, b] ++ post)) + _
  by_cases c : b < a
  · rw [if_neg (by omega)] at h3
    rw [if_pos c] at h4 ⊢
    omega
  · rw [if_pos (by omega)] at h3
    rw [if_neg c] at h4 ⊢
    omega
theorem crs_one (x : Int) : ∀ ys : List Int, x ∉ ys → crs [x] ys + ((gt x ys : Nat) : Int) = ys.length
  | [], _ => rfl
  | y :: ys, h => by
    have ih := crs_one x ys fun z => h (List.mem_cons_of_mem _ z)
    have ne : x ≠ y := fun z => h (by rw [z]; exact List.mem_cons_self)
    have e1 : crs [x] (y :: ys) = ((gt y [x] : Nat) : Int) + crs [x] ys := by unfold crs; rw [List.map_cons, List.sum_cons]
    have e2 : gt x (y :: ys) = gt x [y] + gt x ys := gt_append x [y] ys
    have e3 : gt y [x] + gt x [y] = 1 := by
      unfold gt
      by_cases c : y < x
      · simp [c, show ¬ x < y by omega]
      · simp [c, show x < y by omega]
    rw [e1, e2, List.length_cons]
    omega
/-- the other way round -/
theorem inv_rev : ∀ {xs : List Int}, xs.Nodup → 2 * (inv xs.reverse + inv xs) = (xs.length : Int) * ((xs.length : Int) - 1)
  | [], _ => by simp [inv, ltn]
  | x :: xs, h => by
    obtain ⟨h1, h2⟩ := List.nodup_cons.mp h
    have ih := inv_rev h2
    have e1 : inv (x :: xs) = inv ([] ++ [x]) + inv xs + crs [x] xs := inv_app [x] xs
    have e2 := crs_one x xs h1
    have e3 : gt x xs.reverse = gt x xs := gt_perm (List.reverse_perm xs)
    have e4 : inv ([] ++ [x]) = 0 := by rw [inv_snoc]; simp [inv, ltn, gt]
    rw [List.reverse_cons, inv_snoc, e3, e1, e4, List.length_cons]
    have e5 : ((xs.length + 1 : Nat) : Int) * (((xs.length + 1 : Nat) : Int) - 1) = (xs.length : Int) * ((xs.length : Int) - 1) + 2 * (xs.length : Int) := by
      rw [Int.natCast_add, Int.mul_sub, Int.mul_sub, Int.add_mul]
      generalize hq : (xs.length : Int) * (xs.length : Int) = q
      simp only [Int.natCast_one, Int.add_mul, Int.mul_add, Int.one_mul, Int.mul_one, hq]
      omega
    rw [e5]
    omega
theorem inv_pairs {xs : List Int} (h : xs.Nodup) : inv xs.reverse + inv xs = (xs.length : Int) * ((xs.length : Int) - 1) / 2 := by
  have := inv_rev h
  omega
end LB

set_option Elab.async false
set_option linter.all false
set_option maxRecDepth 100000
set_option maxHeartbeats 1000000
set_option autoImplicit false
/-! BG1: sets of up to a thousand different tuples of ints: only what len(set(..)) needs. Plain part: the round of i -> 5 i + 1 in tables of 512 and 2048 places; the table that is laid anew. -/
namespace BG
open PySem PySem.Spec PyProof.Rows L2
/-- the masks of sets of up to a thousand -/
def Big (m : Nat) : Prop := m = 7 ∨ m = 31 ∨ m = 127 ∨ m = 511 ∨ m = 2047
/-- the places met within f steps from x, as the bits of a number -/
def orb (m : Nat) : Nat → Nat → Nat → Nat
  | 0, _, acc => acc
  | f + 1, x, acc => orb m f ((x * 5 + 1) % (m + 1)) (acc ||| (1 <<< x))
/-- f steps, the number at hand first -/
def itr (m : Nat) : Nat → Nat → Nat
  | 0, x => x
  | f + 1, x => itr m f ((x * 5 + 1) % (m + 1))
theorem itr_back (m : Nat) : ∀ f x : Nat, itr m (f + 1) x = (itr m f x * 5 + 1) % (m + 1)
  | 0, _ => rfl
  | f + 1, x => itr_back m f _
theorem itr_add (m : Nat) : ∀ a b x : Nat, itr m b (itr m a x) = itr m (a + b) x
  | 0, b, x => by rw [Nat.zero_add]; rfl
  | a + 1, b, x => by rw [Nat.add_right_comm]; exact itr_add m a b _
theorem itr_lcg (m i : Nat) : ∀ f : Nat, lcgI m i f = itr m f i
  | 0 => rfl
  | f + 1 => by rw [itr_back, ← itr_lcg m i f]; rfl
theorem orb_bit (m j : Nat) : ∀ f x acc : Nat, (orb m f x acc).testBit j = true → acc.testBit j = true ∨ ∃ k, k < f ∧ itr m k x = j
  | 0, x, acc, h => .inl h
  | f + 1, x, acc, h => by
    rcases orb_bit m j f _ _ h with z | ⟨k, hk, e⟩
    · rw [Nat.testBit_or, Bool.or_eq_true] at z
      rcases z with z | z
      · exact .inl z
      · refine .inr ⟨0, Nat.succ_pos _, ?_⟩
        rw [Nat.one_shiftLeft, Nat.testBit_two_pow, decide_eq_true_eq] at z
        exact z
    · exact .inr ⟨k + 1, Nat.succ_lt_succ hk, e⟩
theorem full : ∀ {m : Nat}, Big m → orb m (m + 1) 0 0 = 2 ^ (m + 1) - 1 ∧ itr m (m + 1) 0 = 0 := by
  rintro m (rfl | rfl | rfl | rfl | rfl) <;> exact ⟨by decide +kernel, by decide +kernel⟩
theorem meets0 {m : Nat} (hm : Big m) {j : Nat} (hj : j ≤ m) : ∃ k, k ≤ m ∧ itr m k 0 = j := by
  have hb : (orb m (m + 1) 0 0).testBit j = true := by
    rw [(full hm).1, Nat.testBit_two_pow_sub_one, decide_eq_true_eq]
    exact Nat.lt_succ_of_le hj
  rcases orb_bit m j _ _ _ hb with z | ⟨k, hk, e⟩
  · rw [Nat.zero_testBit] at z; cases z
  · exact ⟨k, Nat.le_of_lt_succ hk, e⟩
/-- from anywhere, each place within one round -/
theorem meetsI {m : Nat} (hm : Big m) {i j : Nat} (hi : i ≤ m) (hj : j ≤ m) : ∃ k, k ≤ m ∧ lcgI m i k = j := by
  obtain ⟨a, ha, rfl⟩ := meets0 hm hi
  obtain ⟨b, hb, rfl⟩ := meets0 hm hj
  have hr : ∀ c, itr m (m + 1 + c) 0 = itr m c 0 := fun c => by rw [← itr_add, (full hm).2]
  by_cases c : a ≤ b
  · exact ⟨b - a, by omega, by rw [itr_lcg, itr_add]; congr 1; omega⟩
  · exact ⟨m + 1 + b - a, by omega, by rw [itr_lcg, itr_add, show a + (m + 1 + b - a) = m + 1 + b by omega, hr]⟩
/-- each place begins a run of the search -/
theorem runs {m : Nat} (hm : Big m) (h : Int) {j : Nat} (hj : j ≤ m) : ∃ n, n ≤ m + 12 ∧ runI m (SetTable.bits h) n = j := by
  obtain ⟨k, hk, e⟩ := meetsI hm (runI_le m (SetTable.bits h) 12) hj
  exact ⟨12 + k, by omega, (runI_tail (bits_lt h) k).trans e⟩
theorem way_in (m : Nat) (h : Int) (k : Nat) : way m h k ≤ m := by
  have a : SetTable.bits h % (m + 1) < m + 1 := Nat.mod_lt _ (Nat.succ_pos m)
  have b := runEnd_bd (Nat.le_of_lt_succ a)
  have c := nth_in (m := m) k (runAt m (SetTable.bits h % (m + 1)) (SetTable.bits h)) (by show SetTable.bits h % (m + 1) + (SetTable.runEnd m _ - SetTable.bits h % (m + 1)) ≤ m; omega)
  exact Nat.le_trans (Nat.le_add_right _ _) c
/-- a place that is left out comes within the bound; the first such -/
theorem firstOut {m : Nat} (hm : Big m) (h : Int) {l : List Nat} (hl : l.length ≤ m) : ∃ K, K < 10 * SetTable.turns m ∧ way m h K ∉ l ∧ ∀ k, k < K → way m h k ∈ l := by
  obtain ⟨j, hj, hn⟩ := st_missing l (m + 1) (Nat.lt_succ_of_le hl)
  obtain ⟨n, hn2, e⟩ := runs hm h (Nat.le_of_lt_succ hj)
  obtain ⟨k, hk, e2⟩ := run_nth m (SetTable.bits h) n
  have ew : way m h k = j := by show (nth m _ k).j = j; rw [e2]; exact e
  obtain ⟨K, h1, h2, h3⟩ := st_least (p := fun k => way m h k ∉ l) k (by rw [ew]; exact hn)
  exact ⟨K, by unfold SetTable.turns; omega, h2, fun q hq => Classical.byContradiction fun z => h3 q hq z⟩
/-! ### a table -/
structure TabB (t : SetTable) (n : Nat) : Prop where
  up : Ris t.place.toList
  nodm : t.dummies = #[]
  cnt : t.place.size = n
  msk : Big t.mask
theorem TabB.fits {t : SetTable} {n : Nat} (T : TabB t n) (h : n ≤ t.mask) : t.fits n = true := by
  unfold SetTable.fits SetTable.fill
  rw [T.nodm, T.cnt]
  simp
  exact h
theorem TabB.odd {t : SetTable} {n : Nat} (T : TabB t n) : ¬ t.gaveWay = true := by
  unfold SetTable.gaveWay
  rcases T.msk with e | e | e | e | e <;> rw [e] <;> decide
theorem TabB.put {t : SetTable} {n : Nat} (T : TabB t n) {j : Nat} (hj : j ∉ t.place.toList) : TabB (t.put j).1 (n + 1) ∧ (t.put j).2 = SetTable.below t.place j ∧ (t.put j).1.mask = t.mask ∧ (t.put j).1.fill = n + 1 := by
  have hle : SetTable.below t.place j ≤ t.place.toList.length := by rw [Array.length_toList]; exact (below_cut T.up j).1
  have hc : (t.put j).1.place.size = n + 1 := by rw [← Array.length_toList, put_place, len_ins _ hle, Array.length_toList, T.cnt]
  have hd := put_dm T.nodm j
  refine ⟨⟨ris_insert T.up fun e => hj ?_, hd, hc, T.msk⟩, rfl, rfl, ?_⟩
  · exact List.mem_of_getElem? ((Array.getElem?_toList).trans e)
  · unfold SetTable.fill
    rw [hc, hd]
    rfl
/-! ### laid anew -/
/-- who sits where: n of them, each once -/
structure Seats (m n : Nat) (ow : Array (Option Nat)) : Prop where
  sz : ow.size = m + 1
  lt : ∀ j k, j ≤ m → oAt ow j = some k → k < n
  all : ∀ k, k < n → ∃ j, j ≤ m ∧ oAt ow j = some k
  ps : ∃ ps : List Nat, ps.length = n ∧ ∀ j, j ≤ m → oAt ow j ≠ none → j ∈ ps
theorem Seats.none (m : Nat) : Seats m 0 (Array.replicate (m + 1) none) :=
  ⟨Array.size_replicate, fun j k hj e => (by rw [oAt_init hj] at e; cases e), fun k hk => absurd hk (Nat.not_lt_zero k), [], rfl, fun j hj e => absurd (oAt_init hj) e⟩
/-- the next one finds a seat -/
theorem Seats.next {m n : Nat} {ow : Array (Option Nat)} (hm : Big m) (W : Seats m n ow) (hn : n ≤ m) (h : Int) : ∃ j, SetTable.layClean.free m ow (SetTable.turns m) (SetTable.bits h % (m + 1)) (SetTable.bits h) = some j ∧ Seats m (n + 1) (ow.setIfInBounds j (some n)) := by
  obtain ⟨ps, hp, hin⟩ := W.ps
  obtain ⟨j0, h0, hn0⟩ := st_missing ps (m + 1) (by omega)
  have free0 : oAt ow j0 = Option.none := Classical.byContradiction fun z => hn0 (hin j0 (Nat.le_of_lt_succ h0) z)
  obtain ⟨r, hr, er⟩ := runs hm h (Nat.le_of_lt_succ h0)
  have ew : way m h (off m (SetTable.bits h % (m + 1)) (SetTable.bits h) r) = j0 := by
    show (nth m _ _).j = j0
    rw [nth_off, itL_run]
    exact er
  obtain ⟨K, k1, k2, k3⟩ := st_least (p := fun k => oAt ow (way m h k) = Option.none) _ (show oAt ow (way m h (off m _ _ r)) = Option.none by rw [ew]; exact free0)
  have hjm := way_in m h K
  have hjs : way m h K < ow.size := by rw [W.sz]; exact Nat.lt_succ_of_le hjm
  refine ⟨way m h K, free_spec m ow (SetTable.turns m) r _ _ K (by unfold SetTable.turns; omega) k1 (fun k hk => ?_) (by rw [show oAt ow (nth m _ K).j = Option.none from k2]; rfl), ?_⟩
  · have z := k3 k hk
    cases e : oAt ow (nth m (runAt m (SetTable.bits h % (m + 1)) (SetTable.bits h)) k).j with
    | none => exact absurd e z
    | some _ => rfl
  · have same : oAt (ow.setIfInBounds (way m h K) (some n)) (way m h K) = some n := oAt_set_self _ hjs
    refine ⟨by rw [Array.size_setIfInBounds, W.sz], fun j k hj e => ?_, fun k hk => ?_, way m h K :: ps, by rw [List.length_cons, hp], fun j hj e => ?_⟩
    · by_cases c : j = way m h K
      · subst c
        rw [same] at e
        cases e
        exact Nat.lt_succ_self n
      · rw [oAt_set_ne _ c] at e
        exact Nat.lt_succ_of_lt (W.lt j k hj e)
    · by_cases c : k = n
      · subst c
        exact ⟨_, hjm, same⟩
      · obtain ⟨j, hj, e⟩ := W.all k (by omega)
        exact ⟨j, hj, by rw [oAt_set_ne _ (fun z => by rw [z, k2] at e; cases e)]; exact e⟩
    · by_cases c : j = way m h K
      · exact List.mem_cons.mpr (.inl c)
      · rw [oAt_set_ne _ c] at e
        exact List.mem_cons_of_mem _ (hin j hj e)
theorem seats_fold {m : Nat} (hm : Big m) : ∀ (hs : List Int) (n : Nat) (ow : Array (Option Nat)), Seats m n ow → n + hs.length ≤ m → ∃ ow', hs.foldl (stepF m) (some (ow, n)) = some (ow', n + hs.length) ∧ Seats m (n + hs.length) ow'
  | [], n, ow, W, _ => ⟨ow, rfl, W⟩
  | h :: hs, n, ow, W, hl => by
    have hl : n + (hs.length + 1) ≤ m := hl
    obtain ⟨j, e, W2⟩ := W.next hm (by omega) h
    obtain ⟨ow', e2, W3⟩ := seats_fold hm hs (n + 1) _ W2 (by omega)
    have el : n + 1 + hs.length = n + (h :: hs).length := by rw [List.length_cons]; omega
    rw [el] at e2 W3
    exact ⟨ow', by rw [List.foldl_cons, stepF_some e]; exact e2, W3⟩
theorem relaidB (t : SetTable) {hs : Array Int} {wanted M : Nat} (hw : SetTable.sizeAbove wanted - 1 = M) (hM : Big M) (hn : hs.size ≤ M) : ∃ t' order, t.relaid hs wanted = some (t', order) ∧ order.toList.Perm (List.range hs.size) ∧ TabB t' hs.size ∧ t'.mask = M := by
  obtain ⟨ow, e0, W⟩ := seats_fold hM hs.toList 0 _ (Seats.none M) (by rw [Array.length_toList]; omega)
  rw [Nat.zero_add, Array.length_toList] at e0 W
  have e1 : SetTable.layClean M hs = some ow := by rw [layClean_eq, e0]; rfl
  have up := ris_live (fun j => ow.getD j Option.none) (List.range (M + 1)) List.pairwise_lt_range
  have up1 : Ris ((liveOf M ow).map (·.1)) := up.1
  have nd : ((liveOf M ow).map (·.1)).Nodup := up1.imp fun h => Nat.ne_of_lt h
  obtain ⟨ps, p1, p2⟩ := W.ps
  have l1 : (liveOf M ow).length ≤ hs.size := by
    have := nat_nodup_len _ ps nd fun x hx => by
      obtain ⟨⟨y, k⟩, hq, rfl⟩ := List.mem_map.mp hx
      obtain ⟨b1, b2⟩ := (mem_live W.sz).1 hq
      exact p2 y b1 (by rw [b2]; exact fun z => nomatch z)
    rw [List.length_map] at this
    omega
  have cov : ∀ k, k < hs.size → k ∈ (liveOf M ow).map (·.2) := fun k hk => by
    obtain ⟨j, b1, b2⟩ := W.all k hk
    exact List.mem_map.mpr ⟨(j, k), (mem_live W.sz).2 ⟨b1, b2⟩, rfl⟩
  have l2 : (liveOf M ow).length = hs.size := by
    have := nat_nodup_len (List.range hs.size) _ List.nodup_range fun k hk => cov k (List.mem_range.mp hk)
    rw [List.length_map, List.length_range] at this
    omega
  refine ⟨tabOf t M ow, ((liveOf M ow).map (·.2)).toArray, by rw [relaid_eq, hw, e1]; rfl, perm_range _ _ (by rw [List.length_map]; exact l2) cov, ⟨up1, rfl, ?_, hM⟩, rfl⟩
  show ((liveOf M ow).map (·.1)).toArray.size = hs.size
  rw [List.size_toArray, List.length_map, l2]
/-- the entries in another order -/
theorem pick_all {α : Type} : ∀ l : List α, (List.range l.length).filterMap (fun i => l[i]?) = l := fun l => by
  refine List.ext_getElem? fun i => ?_
  have h : (List.range l.length).filterMap (fun i => l[i]?) = (List.range l.length).pmap (fun i h => l[i]'h) (fun i h => List.mem_range.mp h) := by
    have key : ∀ (r : List Nat) (hr : ∀ i ∈ r, i < l.length), r.filterMap (fun i => l[i]?) = r.pmap (fun i h => l[i]'h) hr := fun r => by
      induction r with
      | nil => intro _; rfl
      | cons i r ih => intro hr; rw [List.filterMap_cons_some (List.getElem?_eq_getElem (hr i List.mem_cons_self)), ih fun j hj => hr j (List.mem_cons_of_mem _ hj)]; rfl
    exact key _ _
  rw [h, List.getElem?_pmap]
  by_cases hi : i < l.length
  · rw [List.getElem?_eq_getElem hi]
    simp [hi]
  · rw [List.getElem?_eq_none (Nat.le_of_not_lt hi)]
    simp [hi]
theorem order_perm {α : Type} {es : Array α} {order : Array Nat} (hp : order.toList.Perm (List.range es.size)) : (order.filterMap (es[·]?)).toList.Perm es.toList := by
  rw [Array.toList_filterMap]
  have h := hp.filterMap fun i => es.toList[i]?
  rw [← Array.length_toList, pick_all] at h
  have ef : (fun i => es[i]?) = fun i => es.toList[i]? := funext fun i => Array.getElem?_toList.symm
  rw [ef]
  exact h
end BG

set_option Elab.async false
set_option linter.all false
set_option maxRecDepth 100000
set_option maxHeartbeats 1600000
set_option autoImplicit false
/-! BG2: adding a new tuple to such a set; set(list of different tuples); its length. -/
namespace BG
open PySem PySem.Spec PyProof.Rows L2
section
variable {P : Program} {w : World} {A : Around} {E : Value → Shared → Prop} {s : Shared} {a x : Addr} {k : List Int} {ks : List (Addr × List Int)} {es : Array (Int × Value)} {ep : Nat} {t : SetTable}
/-- each entry is one of these tuples -/
def Ent (P : Program) (w : World) (ks : List (Addr × List Int)) (es : Array (Int × Value)) : Prop := ∀ e ∈ es.toList, ∃ p ∈ ks, e = (thash P w p.2, Value.ref p.1)
structure SetBg (P : Program) (w : World) (h : Heap) (a : Addr) (ks : List (Addr × List Int)) (es : Array (Int × Value)) (ep : Nat) (t : SetTable) : Prop where
  ob : ∃ o, h.get? a = some o ∧ o.ExactSet ∧ o.data = .set es ep t
  ent : Ent P w ks es
  tab : TabB t es.size
  room : es.size * 5 < t.mask * 3
theorem SetBg.le (R : SetBg P w s.heap a ks es ep t) : es.size ≤ t.mask := by have := R.room; omega
theorem slot_of {n : Nat} (T : TabB t n) {j : Nat} (h : j ∈ t.place.toList) : ∃ i, i < n ∧ t.slot j = .live i ∧ t.place.toList[i]? = some j := by
  rcases slot_cases T.up T.nodm j with ⟨c, _⟩ | ⟨i, hi, e⟩
  · exact absurd h c
  · exact ⟨i, by rw [← T.cnt, ← Array.length_toList]; exact (List.getElem?_eq_some_iff.mp hi).1, e, hi⟩
theorem nth_dummy (m : Nat) : ∀ (n : Nat) (p : SetTable.Probe), p.dummy = none → (nth m p n).dummy = none
  | 0, _, h => h
  | n + 1, p, h => nth_dummy m n _ (by unfold adv; split <;> exact h)
/-- a search for what isn't there ends at the first empty place of the way -/
theorem searchB (R : SetBg P w s.heap a ks es ep t) (hT : ∀ p ∈ ks, IsT P w s.heap p.2 p.1) (hx : IsT P w s.heap k x) (hnew : ∀ p ∈ ks, p.2 ≠ k) (hu : A.units < cLine) {K : Nat} (hK : K < 10 * SetTable.turns t.mask) (out : way t.mask (thash P w k) K ∉ t.place.toList)
    (ins : ∀ c, c < K → way t.mask (thash P w k) c ∈ t.place.toList) {Q : SetFound → Shared → Prop} (hq : Q (.free (way t.mask (thash P w k) K) false) s) :
    ∀ (f c : Nat) (stand : Option SetTable.Probe), stand.getD (t.probeStart (thash P w k)) = nth t.mask (t.probeStart (thash P w k)) c → c ≤ K → K < c + f → wpAny (model P w) A (setSearchFrom a (.ref x) (thash P w k) true f stand) Q E s
  | 0, c, _, _, h1, h2 => absurd h2 (by omega)
  | f + 1, c, stand, est, h1, h2 => by
    obtain ⟨o, ho, hex, hd⟩ := R.ob
    have way_eq : ∀ q, (nth t.mask (t.probeStart (thash P w k)) q).j = way t.mask (thash P w k) q := fun q => rfl
    have step : ∀ q, nth t.mask (nth t.mask (t.probeStart (thash P w k)) c) q = nth t.mask (t.probeStart (thash P w k)) (c + q) := fun q => (nth_add t.mask c _ q).symm
    have G := go_spec t R.tab.up R.tab.nodm (fun i => (es[i]?.map (·.1)).getD 0) (thash P w k) (10 * SetTable.turns t.mask) (K - c) (nth t.mask (t.probeStart (thash P w k)) c) (nth_dummy _ _ _ rfl) (by omega) (fun q hq => by rw [step, way_eq]; exact ins _ (by omega)) (by rw [step, way_eq, Nat.add_sub_cancel' h1]; exact out)
    rw [setSearchFrom_succ]
    refine wpAny_bind (wpAny_setState_of ho hd (R.tab.fits R.le) ?_)
    dsimp only
    refine wp_if_neg R.tab.odd ?_
    try refine wpAny_bind (wpAny_pure ?_)
    rcases G with ⟨q, i, hq1, hi, _, _, e⟩ | ⟨_, e⟩
    · rw [step] at hi
      rw [step, step, way_eq] at e
      have e2 : t.probe (fun i => (es[i]?.map (·.1)).getD 0) (thash P w k) (stand.getD (t.probeStart (thash P w k))) = some (.candidate (way t.mask (thash P w k) (c + q)) i (nth t.mask (t.probeStart (thash P w k)) (c + (q + 1)))) := by rw [est]; exact e
      rw [e2]
      dsimp only
      have hil : i < es.size := by rw [← R.tab.cnt, ← Array.length_toList]; exact (List.getElem?_eq_some_iff.mp hi).1
      have hei : es[i]? = some es[i] := Array.getElem?_eq_getElem hil
      obtain ⟨p, hp, ep'⟩ := R.ent es[i] (Array.mem_toList_iff.mpr (Array.getElem_mem hil))
      rw [ep'] at hei
      have go : wpAny (model P w) A (searchRest a (.ref x) (thash P w k) true f es t (way t.mask (thash P w k) (c + q)) i (nth t.mask (t.probeStart (thash P w k)) (c + (q + 1)))) Q E s := by
        have ne := hnew p hp
        unfold searchRest
        rw [hei]
        dsimp only
        refine wpAny_bind (wpAny_holding (wpAny_eqBool_tuple hu (hT p hp) hx (wpAny_bind (wpAny_setState_of ho hd (R.tab.fits R.le) ?_))))
        dsimp only
        refine wp_if_neg (by simp [ne]) ?_
        try refine wpAny_bind (wpAny_pure ?_)
        rw [sameMem]
        dsimp only
        have hsl : t.slot (way t.mask (thash P w k) (c + q)) = .live i := slot_live R.tab.up hi
        simp only [if_true, hsl, hei]
        refine wpAny_bind (wpAny_isSame_ref_self (wpAny_bind (wpAny_pure ?_)))
        simp only [if_true]
        exact wp_if_neg (by simp [ne]) (searchB R hT hx hnew hu hK out ins hq f (c + (q + 1)) _ rfl (by omega) (by omega))
      by_cases hl : t.led = true
      · refine wp_if_neg (by simp [hl]) ?_
        try refine wpAny_bind (wpAny_pure ?_)
        exact go
      · refine wp_if_pos (by simp [hl]) (wpAny_bind (seen_tup hx (fun y hy => ?_) (wp_if_neg (by decide) ?_)))
        · obtain ⟨e0, he0, rfl⟩ := List.mem_map.mp hy
          have hm : e0 ∈ es.toList := by
            have : e0 ∈ es ∧ e0.1 = thash P w k := by simpa using he0
            exact Array.mem_toList_iff.mpr this.1
          obtain ⟨p0, h0, rfl⟩ := R.ent e0 hm
          exact ⟨p0.2, p0.1, rfl, hT p0 h0⟩
        · try refine wpAny_bind (wpAny_pure ?_)
          exact go
    · rw [step, Nat.add_sub_cancel' h1] at e
      have e2 : t.probe (fun i => (es[i]?.map (·.1)).getD 0) (thash P w k) (stand.getD (t.probeStart (thash P w k))) = some (.empty (way t.mask (thash P w k) K) none) := by rw [est]; exact e
      rw [e2]
      exact wpAny_pure hq
theorem ent_put {p : Nat} (h : Ent P w ks es) (x : Addr) (k : List Int) : Ent P w (ks ++ [(x, k)]) (SetTable.insertAt es p (thash P w k, Value.ref x)) := fun e he => by
  rw [SetTable.toList_insertAt] at he
  rcases mem_ins.1 he with z | z
  · exact ⟨(x, k), List.mem_append_right _ (List.mem_singleton.mpr rfl), z⟩
  · obtain ⟨q, hq, e2⟩ := h e z
    exact ⟨q, List.mem_append_left _ hq, e2⟩
/-- laid anew -/
theorem relayB {o : Obj} (ho : s.heap.get? a = some o) (hex : o.ExactSet) (hd : o.data = .set es ep t) (he : Ent P w ks es) (T : TabB t es.size) (hf : es.size ≤ t.mask) {wanted M : Nat} (hw : SetTable.sizeAbove wanted = M + 1) (hM : Big M) (hr : es.size * 5 < M * 3) {Q : Unit → Shared → Prop}
    (hQ : ∀ h' es' t', Heap.SameBut a s.heap h' → SetBg P w h' a ks es' (ep + 1) t' → es'.size = es.size → Q () { s with heap := h' }) : wpAny (model P w) A (setRelay a wanted) Q E s := by
  have hM2 : M ≤ 2047 := by rcases hM with e | e | e | e | e <;> omega
  obtain ⟨t', order, e, pm, T', em⟩ := relaidB t (hs := es.map (·.1)) (wanted := wanted) (M := M) (by omega) hM (by rw [Array.size_map]; omega)
  rw [Array.size_map] at pm T'
  have pe := order_perm pm
  have sz : (order.filterMap (es[·]?)).size = es.size := by have := pe.length_eq; rwa [Array.length_toList, Array.length_toList] at this
  rw [setRelay_eq]
  refine wpAny_bind (wpAny_setState_of ho hd (T.fits hf) ?_)
  dsimp only
  refine wp_if_neg (by rw [hw, sizeLine_eq]; omega) ?_
  try refine wpAny_bind (wpAny_pure ?_)
  rw [e]
  dsimp only
  refine wpAny_bind (wp_if_neg (by rw [sz]; simp) ?_)
  try refine wpAny_bind (wpAny_pure ?_)
  refine wpAny_pure ?_
  dsimp only
  refine wpAny_storeSet_of ho hd (hQ _ (order.filterMap (es[·]?)) t' (Heap.SameBut.update ..) ⟨⟨_, store_at ho hd, ⟨hex.1, hex.2.1, hex.2.2⟩, rfl⟩, fun e0 h0 => he e0 (pe.mem_iff.mp h0), by rw [sz]; exact T', by rw [sz, em]; exact hr⟩ sz) (by rw [sz, sizeLine_eq]; omega)
/-- a new one is added -/
theorem addB (R : SetBg P w s.heap a ks es ep t) (hT : ∀ p ∈ ks, IsT P w s.heap p.2 p.1) (hx : IsT P w s.heap k x) (hnew : ∀ p ∈ ks, p.2 ≠ k) (hu : A.units < cLine) (hn : es.size < 1000) {Q : Bool → Shared → Prop}
    (hQ : ∀ h' es' ep' t', Heap.SameBut a s.heap h' → SetBg P w h' a (ks ++ [(x, k)]) es' ep' t' → es'.size = es.size + 1 → Q true { s with heap := h' }) : wpAny (model P w) A (setAddHashed a (.ref x) (thash P w k)) Q E s := by
  obtain ⟨o, ho, hex, hd⟩ := R.ob
  have hfit := R.tab.fits R.le
  obtain ⟨K, hK, out, ins⟩ := firstOut R.tab.msk (thash P w k) (l := t.place.toList) (by rw [Array.length_toList, R.tab.cnt]; exact R.le)
  have hmask : t.mask ≤ 2047 := by rcases R.tab.msk with e | e | e | e | e <;> omega
  have hKb : K < 0 + 100000 := by unfold SetTable.turns at hK; omega
  unfold setAddHashed
  refine wpAny_holding ?_
  show wpAny _ _ (setAddHashedIn a (.ref x) (thash P w k) (99999 + 1)) _ _ s
  rw [setAddHashedIn_succ]
  refine wpAny_bind (wpAny_setState_of ho hd hfit ?_)
  dsimp only
  refine wp_if_neg (by simp [byScan, Value.scannable]) ?_
  try refine wpAny_bind (wpAny_pure ?_)
  unfold setSearch
  refine wpAny_bind (searchB R hT hx hnew hu hK out ins ?_ 100000 0 none rfl (Nat.zero_le K) hKb)
  dsimp only
  refine wpAny_bind (wpAny_setState_of ho hd hfit ?_)
  dsimp only
  obtain ⟨T1, e1, e2, e3⟩ := R.tab.put out
  generalize t.put (way t.mask (thash P w k) K) = tp at T1 e1 e2 e3 ⊢
  obtain ⟨t1, p⟩ := tp
  dsimp only at T1 e1 e2 e3 ⊢
  have en := ent_put (p := p) R.ent x k
  have sz : (SetTable.insertAt es p (thash P w k, Value.ref x)).size = es.size + 1 := by
    rw [← Array.length_toList, SetTable.toList_insertAt, len_ins _ (by rw [e1, Array.length_toList, ← R.tab.cnt]; exact (below_cut R.tab.up _).1), Array.length_toList]
  generalize SetTable.insertAt es p (thash P w k, Value.ref x) = es1 at en sz ⊢
  have hroom := R.room
  have rest : ∀ (b : Bool), wpAny (model P w) A (do
      let t2 := if b then t1 else { t1 with plain := false }
      storeSet a es1 t2
      if !false && t2.tooFull then setRelay a (SetTable.grown (es.size + 1))
      return true : Sem Bool) Q E s := fun b => by
    have T2 : TabB (if b then t1 else { t1 with plain := false }) (es.size + 1) := by
      cases b
      · exact ⟨T1.up, T1.nodm, T1.cnt, T1.msk⟩
      · exact T1
    have m2 : (if b then t1 else { t1 with plain := false }).mask = t.mask := by cases b <;> exact e2
    have f2 : (if b then t1 else { t1 with plain := false }).fill = es.size + 1 := by cases b <;> exact e3
    dsimp only
    generalize (if b then t1 else { t1 with plain := false }) = t2 at T2 m2 f2 ⊢
    refine wpAny_bind (wpAny_storeSet_of ho hd ?_ (by rw [sz, sizeLine_eq]; omega))
    have sb : Heap.SameBut a s.heap (s.heap.update a (Obj.putSet es1 t2)) := Heap.SameBut.update ..
    have ho1 := store_at (es' := es1) (t' := t2) ho hd
    generalize s.heap.update a (Obj.putSet es1 t2) = h1 at sb ho1 ⊢
    rw [← sz] at T2
    by_cases hf : t2.tooFull = true
    · have hfull : (es.size + 1) * 5 ≥ t2.mask * 3 := by
        unfold SetTable.tooFull at hf
        rw [decide_eq_true_eq, f2] at hf
        exact hf
      rw [m2] at hfull
      have big : ∃ M, SetTable.sizeAbove (SetTable.grown (es.size + 1)) = M + 1 ∧ Big M ∧ (es.size + 1) * 5 < M * 3 := by
        have cs : es.size = 4 ∨ es.size = 18 ∨ es.size = 76 ∨ es.size = 306 := by rcases R.tab.msk with e | e | e | e | e <;> rw [e] at hfull hroom <;> omega
        rcases cs with e | e | e | e <;> rw [e]
        · exact ⟨31, by decide +kernel, .inr (.inl rfl), by decide⟩
        · exact ⟨127, by decide +kernel, .inr (.inr (.inl rfl)), by decide⟩
        · exact ⟨511, by decide +kernel, .inr (.inr (.inr (.inl rfl))), by decide⟩
        · exact ⟨2047, by decide +kernel, .inr (.inr (.inr (.inr rfl))), by decide⟩
      obtain ⟨M, b1, b2, b3⟩ := big
      have fin : wpAny (model P w) A (setRelay a (SetTable.grown (es.size + 1))) (fun _ s' => wpAny (model P w) A (pure true) Q E s') E { s with heap := h1 } :=
        relayB (s := { s with heap := h1 }) ho1 ⟨hex.1, hex.2.1, hex.2.2⟩ rfl en T2 (by rw [sz, m2]; omega) b1 b2 (by rw [sz]; exact b3) fun h2 es2 t3 sb2 R2 z2 => wpAny_pure (hQ h2 es2 _ t3 (sb.trans sb2) R2 (z2.trans sz))
      first
        | (refine wpAny_bind ?_; refine wp_if_pos (by simp [hf]) ?_; exact fin)
        | (refine wp_if_pos (by simp [hf]) ?_; exact wpAny_bind fin)
    · have hnf : es1.size * 5 < t2.mask * 3 := by
        unfold SetTable.tooFull at hf
        rw [decide_eq_true_eq, f2] at hf
        rw [sz]
        omega
      have fin : wpAny (model P w) A (pure true) Q E { s with heap := h1 } := wpAny_pure (hQ h1 es1 _ t2 sb ⟨⟨_, ho1, ⟨hex.1, hex.2.1, hex.2.2⟩, rfl⟩, en, T2, hnf⟩ sz)
      first
        | (refine wp_if_neg (by simp [hf]) ?_; exact fin)
        | (refine wpAny_bind ?_; refine wp_if_neg (by simp [hf]) ?_; exact wpAny_pure fin)
  cases hpl : t1.plain with
  | true =>
    simp only [hpl, if_true]
    refine wpAny_bind (hashBy_tup hx ?_)
    exact rest true
  | false =>
    simp only [hpl, Bool.false_eq_true, if_false]
    refine wpAny_bind (wpAny_pure ?_)
    exact rest true
end
end BG

set_option Elab.async false
set_option linter.all false
set_option maxRecDepth 100000
set_option maxHeartbeats 3200000
set_option autoImplicit false
/-! BG3: set(list of different tuples), its length. -/
namespace BG
open PySem PySem.Spec PyProof.Rows L2
section
variable {P : Program} {w : World} {A : Around} {E : Value → Shared → Prop} {s : Shared}
abbrev KpH (h0 h : Heap) : Prop := ∀ b o, h0.get? b = some o → h.get? b = some o
theorem SetBg.mv {h h' : Heap} {a : Addr} {ks : List (Addr × List Int)} {es : Array (Int × Value)} {ep : Nat} {t : SetTable} (R : SetBg P w h a ks es ep t) (k : ∀ o, h.get? a = some o → h'.get? a = some o) : SetBg P w h' a ks es ep t :=
  ⟨let ⟨o, ho, r⟩ := R.ob; ⟨o, k o ho, r⟩, R.ent, R.tab, R.room⟩
/-- the set at S holds the first i of them -/
def Hd (P : Program) (w : World) (h : Heap) (S : Addr) (ks : List (Addr × List Int)) (i : Nat) : Prop := ∃ es ep t, SetBg P w h S (ks.take i) es ep t ∧ es.size = i
theorem loopB {I : Addr} {fp wr : List Addr} {G : Array GenState → Array GenState → Prop} {n : Nat} {Pv : Nat → Value → Prop} {St : Nat → Shared → Prop} {R : Result → Shared → Prop} (W : WalksS P w A.in1 I fp wr G n Pv St) (S : Addr) (hSf : S ∉ fp) (ks : List (Addr × List Int)) (hn : n = ks.length)
    (few : ks.length ≤ 1000) (nd : (ks.map (·.2)).Nodup) (hval : ∀ i v, Pv i v → ∃ p, ks[i]? = some p ∧ v = .ref p.1) (h0 : Heap) (hk : ∀ p ∈ ks, IsT P w h0 p.2 p.1) (fS : h0.get? S = none) (fw : ∀ b ∈ wr, h0.get? b = none) (hu : A.in1.units < cLine) :
    ∀ (m i : Nat) (s : Shared), i + m = n → St i s → KpH h0 s.heap → Hd P w s.heap S ks i → (∀ s', Moved (S :: wr) G s s' → Hd P w s'.heap S ks n → KpH h0 s'.heap → R (.ok (.ret .none)) s') → codeAny (model P w) A (.builtin "set.update.loop" ⟨[.ref S, .ref I], []⟩) R s := by
  have nSw : S ∉ wr := fun z => hSf (W.sub S z)
  have more : ∀ b ∈ wr, b ∈ S :: wr := fun b => List.mem_cons_of_mem S
  have kept : ∀ {s1 s2 : Shared}, Moved wr G s1 s2 → KpH h0 s1.heap → KpH h0 s2.heap := fun hm kp b o e => hm.heap b o (fun z => by rw [fw b z] at e; cases e) (kp b o e)
  intro m
  induction m with
  | zero =>
    intro i s hi hst kp hd hR
    obtain rfl : i = n := hi
    refine codeAny_builtin F.entry_set_update_loop ?_; rw [Around.under_plainId F.plain_set_update_loop _]
    show wpAny (model P w) A.in1 (pyNext (.ref I) >>= _) _ _ s
    refine wpAny_bind (W.done s _ _ hst fun s1 hm => wpAny_pure (hR s1 (hm.mono more) ?_ (kept hm kp)))
    obtain ⟨es, ep, t, r, z⟩ := hd
    exact ⟨es, ep, t, r.mv fun o e => hm.heap S o nSw e, z⟩
  | succ m ih =>
    intro i s hi hst kp hd hR
    have lt : i < n := by omega
    refine codeAny_builtin F.entry_set_update_loop ?_; rw [Around.under_plainId F.plain_set_update_loop _]
    show wpAny (model P w) A.in1 (pyNext (.ref I) >>= _) _ _ s
    refine wpAny_bind (W.item i s _ _ lt hst fun v s1 hP hst1 hm => ?_)
    obtain ⟨p, hp, rfl⟩ := hval i v hP
    obtain ⟨es, ep, t, r, z⟩ := hd
    have kp1 := kept hm kp
    have r1 : SetBg P w s1.heap S (ks.take i) es ep t := r.mv fun o e => hm.heap S o nSw e
    have at1 : ∀ q ∈ ks, IsT P w s1.heap q.2 q.1 := fun q hq => isT_keep (hk q hq) kp1
    have tk : ks.take (i + 1) = ks.take i ++ [(p.1, p.2)] := by rw [List.take_add_one, hp]; rfl
    have new : ∀ q ∈ ks.take i, q.2 ≠ p.2 := fun q hq e => by
      obtain ⟨j, hj, ej⟩ := List.getElem_of_mem hq
      rw [List.length_take] at hj
      have hj2 : j < ks.length := by omega
      obtain ⟨hi2, ei⟩ := List.getElem?_eq_some_iff.mp hp
      rw [List.getElem_take] at ej
      have := (List.pairwise_iff_getElem.mp nd) j i (by rw [List.length_map]; exact hj2) (by rw [List.length_map]; exact hi2) (by omega)
      rw [List.getElem_map, List.getElem_map, ej, ei] at this
      exact this e
    show wpAny (model P w) A.in1 (holding [Value.ref p.1] (setAdd S (.ref p.1)) >>= _) _ _ s1
    refine wpAny_bind (wpAny_holding ?_)
    unfold setAdd
    refine wpAny_holding (wpAny_bind (wpAny_pyHash_tuple hu (at1 p (List.mem_of_getElem? hp)) ?_))
    refine addB (s := { s1 with toks := s1.toks + (p.2.length + 1) }) r1 (fun q hq => at1 q (List.mem_of_mem_take hq)) (at1 p (List.mem_of_getElem? hp)) new hu (by omega) fun h2 es2 ep2 t2 sb r2 z2 => ?_
    have off : ∀ b o, b ≠ S → s1.heap.get? b = some o → h2.get? b = some o := fun b o hb e => (sb.2 b hb).trans e
    rw [← tk] at r2
    refine wpAny_pure ⟨plainId_quiet F.plain_set_update_loop _, ih (i + 1) _ (by omega) (W.frame _ s1 _ _ hst1 (Nat.le_add_right ..) fun b hb o e => off b o (fun c => hSf (c ▸ hb)) e) (fun b o e => off b o (fun c => by rw [c, fS] at e; cases e) (kp1 b o e)) ⟨es2, ep2, t2, r2, by omega⟩ fun s2 hm2 => hR s2 ?_⟩
    exact Moved.trans W.gtrans ((hm.mono more).then_heap (Nat.le_add_right ..) fun b o hb e => off b o (fun c => hb (c ▸ List.mem_cons_self)) e) hm2
/-- set(xs) -/
theorem call_setB {l : Addr} {items : Array Value} (ks : List (Addr × List Int)) {Q : Value → Shared → Prop} (hh : A.handled = none) (hl : s.heap.IsList l items) (hit : items.toList = ks.map fun p => Value.ref p.1) (hk : ∀ p ∈ ks, IsT P w s.heap p.2 p.1)
    (few : ks.length ≤ 1000) (nd : (ks.map (·.2)).Nodup) (hu : A.units + 3 < cLine) (h : ∀ (h' : Heap) (tk : Nat), Hd P w h' s.heap.objs.size ks ks.length → KpH s.heap h' → Q (.ref s.heap.objs.size) { s with heap := h', toks := tk }) :
    wpAny (model P w) A (call (.type "set") [.ref l]) Q E s := by
  have isz : items.size = ks.length := by rw [← Array.length_toList, hit, List.length_map]
  obtain ⟨c, tl, hmro⟩ := F.called_set.mro
  have made := F.called_set.made
  have sub := F.called_set.sub
  refine wpAny_call (codeAny_of_tree ?_); show wpAny _ _ (callAny (.type "set") _) _ _ _
  refine wpAny_pure ⟨Code.quiet_builtin _ (by decide +kernel), codeAny_builtin F.entry_type_call ?_⟩; rw [Around.under_plain (weight_type_call_type "set" [.ref l] []) rfl]
  have notTy := F.called_set.notType
  have can := F.called_set.canCreate
  have ct := F.typeCall_set_1 (.ref l)
  repeat (any_goals (first | assumption | wp_step))
  obtain ⟨nw, enw⟩ : ∃ nw : Bool → Obj, nw = fun led => { cls := .type "set", dict := none, data := .set #[] 0 (.fresh 0 0 led) } := ⟨_, rfl⟩
  refine codeAny_mono (code_set_new_1 (.ref l) (E := E) (Q₁ := fun obj s1 => ∃ led, obj = .ref s.heap.objs.size ∧ s1 = { s with heap := s.heap.push (nw led) }) fun led => ⟨led, rfl, by rw [enw]⟩) fun r s1 hr => ?_
  cases r with
  | error e => exact hr
  | ok fl =>
    cases fl with
    | ret obj =>
      obtain ⟨led, rfl, rfl⟩ := hr
      have gS : (s.heap.push (nw led)).get? s.heap.objs.size = some (nw led) := Heap.get?_push_size _ (by rw [enw]; rfl)
      have tS : Shared.TypeIs { s with heap := s.heap.push (nw led) } (.ref s.heap.objs.size) "set" := ⟨_, gS, by rw [enw]⟩
      have li := F.called_set.init.lookup
      have bi := F.called_set.init.bind (.ref s.heap.objs.size)
      have z1 : (s.heap.push (nw led)).objs.size = s.heap.objs.size + 1 := Heap.size_push ..
      rw [enw] at gS tS z1
      subst enw
      repeat (any_goals (first | assumption | wp_step))
      refine codeAny_mono (codeAny_call_builtin (R := wants (fun r s2 => r = .none ∧ ∃ h' tk, s2 = { s with heap := h', toks := tk } ∧ Hd P w h' s.heap.objs.size ks ks.length ∧ KpH s.heap h') E) F.called_set.init.plain F.entry_set_init (check_set_init_1 tS ?_)) fun r2 s2 hr2 => ?_
      · obtain ⟨⟨oc, od, odt, osl⟩, hol, hcl, nl, hdl⟩ := hl
        simp only at hcl hdl
        subst hcl hdl
        have gL : (s.heap.push { cls := .type "set", dict := none, data := .set #[] 0 (.fresh 0 0 led) }).get? l = some { cls := .type "list", dict := od, data := .seq items nl, slots := osl } := Heap.get?_push_of_some _ hol
        have x1 := F.sub_list_set
        have x2 := F.sub_list_frozenset
        have x3 : (Value.type "list" == Value.type "dict") = false := by decide
        have iL : (s.heap.push { cls := .type "set", dict := none, data := .set #[] 0 (.fresh 0 0 led) }).IsList l items := ⟨_, gL, rfl, nl, rfl⟩
        have lS : l < s.heap.objs.size := Heap.lt_size hol
        unfold Builtin.«set.__init__» noKeywords Builtin.Frozenset.updateFrom
        generalize hPI : pyIter = PI
        wp_walk
        subst hPI
        refine wpAny_pyIter_list iL (wpAny_bind (wpAny_runValue ?_))
        have off : ∀ b, s.heap.objs.size ≤ b → s.heap.get? b = none := fun b hb => by
          cases q : s.heap.get? b with
          | none => rfl
          | some o => exact absurd (Nat.lt_of_lt_of_le (Heap.lt_size q) hb) (Nat.lt_irrefl _)
        have le1 : s.heap.objs.size < (s.heap.push { cls := .type "set", dict := none, data := .set #[] 0 (.fresh 0 0 led) }).objs.size := by rw [Heap.size_push]; exact Nat.lt_succ_self _
        refine loopB ((Walks.list (show A.in1.in1.in1.handled = none by simp [hh]) _ l (Nat.ne_of_lt (Nat.lt_trans lS le1)) items).toS) s.heap.objs.size (fun z => by
            rcases List.mem_cons.mp z with z | z
            · exact absurd z (Nat.ne_of_lt le1)
            · exact absurd (List.mem_singleton.mp z) (Nat.ne_of_gt lS)) ks isz few nd (fun i v hv => ?_) s.heap hk (off _ (Nat.le_refl _)) (fun b hb => off b (by rw [List.mem_singleton.mp hb]; exact Nat.le_of_lt le1)) hu items.size 0 _ (Nat.zero_add _)
          ⟨⟨_, Heap.get?_push_size _ rfl, rfl, rfl⟩, iL.push _⟩ (fun b o e => Heap.get?_push_of_some _ (Heap.get?_push_of_some _ e)) ⟨#[], 0, .fresh 0 0 led, ⟨⟨_, Heap.get?_push_of_some _ gS, ⟨rfl, rfl, rfl⟩, rfl⟩, fun e he => by simp at he, ⟨List.Pairwise.nil, rfl, rfl, .inl rfl⟩, by show 0 * 5 < 7 * 3; decide⟩, rfl⟩ fun s3 hm hd kp => ?_
        · have q : items.toList[i]? = some v := by rw [Array.getElem?_toList]; exact hv
          rw [hit, List.getElem?_map] at q
          obtain ⟨p, e1, e2⟩ := Option.map_eq_some_iff.mp q
          exact ⟨p, e1, e2.symm⟩
        · obtain ⟨h3, g3, d3, tk3, os3⟩ := s3
          have e1 : g3 = s.gens := hm.gens
          have e2 : d3 = s.drawn := hm.drawn
          have e3 : os3 = s.os := hm.os
          subst e1 e2 e3
          rw [isz] at hd
          show wpAny _ _ _ _ _ _
          refine wpAny_pure ?_
          exact wpAny_pure ⟨rfl, h3, tk3, rfl, hd, kp⟩
      · cases r2 with
        | error e => exact hr2
        | ok fl2 =>
          cases fl2 with
          | ret r =>
            obtain ⟨rfl, h3, tk3, rfl, hd, kp⟩ := hr2
            repeat (any_goals (first | assumption | wp_step))
            exact h _ _ hd kp
          | _ => exact hr2.elim
    | _ => exact hr.elim
end
end BG
namespace DL
open PySem PySem.Spec PyProof.Rows L2 LB BG
section
variable {X : Cx}
def tLenSetB (K : PySem.W.Frag) (ta : TE) : TE := fun σ H Q => ta σ H fun x H1 => ∃ (l : Addr) (ks : List (Addr × List Int)), x = V.ref l ∧ SqL K H1 l (ks.map fun p => V.ref p.1) ∧ (∀ p ∈ ks, SqT K H1 p.1 (p.2.map V.int)) ∧ ks.length ≤ 1000 ∧ (ks.map (·.2)).Nodup ∧ Q (.int (ks.length : Nat)) H1
theorem pe_lenSetB {a : Expr} {ta : TE} {p p2 q pos : Pos} {k : Nat} (hX : XO k X) (hg : Gl X "len") (hg2 : Gl X "set") (ha : PE X a ta)
    (na : starEach [a] X.env = (false, eval a X.env) :: starEach [] X.env := by rfl) : PE X (.Call (.Name "len" p) [.Call (.Name "set" p2) [a] [] q] [] pos) (tLenSetB X.K ta) := by
  refine ⟨fun pins s σ H Q I h => Call_ (ld_blt I hg hX.bi.len PySem.boot_len ?_)⟩
  refine PyProof.Rows.callWith_builtin1 (PyProof.Rows.args_cons (Call_ (ld_blt I hg2 hX.bi.set PyProof.Rows.boot_set ?_)) rfl) rfl rfl
  refine PyProof.Rows.callWith_type1 (PyProof.Rows.args_cons (thn (ha.run pins s σ H _ I h) fun v s1 ⟨x, H1, I1, r1, l, ks, ex, hq, hk, few, nd, q1⟩ => PyProof.Rows.args_nil ?_) na) na rfl
  subst ex
  cases r1
  obtain ⟨its, r, pl, hz⟩ := I1.list hq
  refine call_setB ks (I1.ok.hd hX.calm) pl.isList (by simpa using refs_of_vals r) (fun p hp => I1.isT (hk p hp)) few nd (by have := hX.hu64; omega) fun h' tk ⟨es, ep, t, R, z⟩ kp => PyProof.Rows.args_nil ?_
  obtain ⟨o, ho, hex, hd⟩ := R.ob
  have I2 : Inv X pins σ H1 { s1 with heap := h', toks := tk } := I1.kept kp
  exact call_len_set ho hex hd (R.tab.fits (SetBg.le (s := { s1 with heap := h' }) R)) (by rw [z]; omega) ⟨.int (ks.length : Nat), H1, I2.tok _, ⟨_, by rw [z]⟩, q1⟩
theorem rows_da {F : Hp} : ∀ {L : List (List Int)} {vs : List V}, DaL F (L.map fun l => PyData.tuple (l.map .int)) vs → ∃ ks : List (Addr × List Int), vs = ks.map (fun p => V.ref p.1) ∧ ks.map (·.2) = L ∧ ∀ p ∈ ks, TupF F p.1 (p.2.map V.int)
  | [], _, h => ⟨[], h, rfl, fun _ z => nomatch z⟩
  | l :: L, _, ⟨v, ws, e, ⟨a, us, ea, tf, _, dl⟩, b⟩ => by
    obtain ⟨ks, h1, h2, h3⟩ := rows_da (L := L) b
    have eu := dl.ints
    subst eu ea
    refine ⟨(a, l) :: ks, by rw [e, h1]; rfl, by rw [List.map_cons, h2], fun p hp => ?_⟩
    rcases List.mem_cons.mp hp with z | z
    · rw [z]; exact tf
    · exact h3 p z
variable {g : Gh} {ρ ρ1 : List Sl} {a : Expr} {p p2 q pos : Pos} {k : Nat} {ra : R}
/-- len(set(xs)), xs a list of different tuples of ints -/
theorem de_lenSetL {L : List (List Int)} (hX : XO k X) (ha : DE g X a ρ (.d (.list (L.map iT))) ρ1) (few : L.length ≤ 1000) (nd : L.Nodup) (hg : Gl X "len" := by rfl) (hg2 : Gl X "set" := by rfl)
    (na : starEach [a] X.env = (false, eval a X.env) :: starEach [] X.env := by rfl) : DE g X (.Call (.Name "len" p) [.Call (.Name "set" p2) [a] [] q] [] pos) ρ (.d (.int (L.length : Nat))) ρ1 :=
  pe_mono (pe_lenSetB hX hg hg2 ha na) fun σ H Q ⟨F, S, kq⟩ => ⟨F, S, fun v F1 H1 S1 k1 ⟨l, vs, e1, tf, z, dl⟩ => by
    obtain ⟨ks, h1, h2, h3⟩ := rows_da (F := F1) (L := L) dl
    subst e1 h1
    have hl : ks.length = L.length := by rw [← h2, List.length_map]
    exact ⟨l, ks, rfl, SqL.of (S1.st.sub _ _ tf), fun p hp => ((h3 p hp).mono S1.st.sub).sq, by omega, by rw [h2]; exact nd, kq _ F1 H1 S1 k1 (by rw [hl]; rfl)⟩⟩
end
end DL

namespace K03
open PySem PySem.Spec PyProof.Rows L2 LB DL
def top (i : Nat) : Stmt := PySem.Challenge.pw_latebuffer_k03_whole_streams_and_latenes.main.body.getD i (.Pass ⟨0, 0, 0, 0⟩)
section
variable {P : Program} {w : World} {K : PySem.W.Frag} {mg : Str → Option Value} {base : Heap}
theorem is_integer_ok (B : Bi mg) (T : Top K mg "is_integer" (top 7) ["value"]) : Dn P w K mg base 1 "is_integer" p_is_integer :=
  T.okP (N := ["value"]) B ⟨rfl, rfl, rfl, by decide +kernel, rfl, by decide +kernel, by decide +kernel⟩ (fun ds r ⟨d, e, _⟩ => by rw [e]; rfl) fun f cdv A outer s H E g ds r hX h => by
    obtain ⟨d, rfl, rfl⟩ := h
    exact dss_ret (de_and (de_isi hX (da_cons (de_var 0 rfl) (da_cons (de_ty hX.bi.int (by decide +kernel)) da_nil)) (by decide)) fun _ => de_one (de_notv (de_isi hX (da_cons (de_var 0 rfl) (da_cons (de_ty hX.bi.bool (by decide +kernel)) da_nil)) (by decide)))) rfl

-- args: is_integer
theorem in_range_ok (B : Bi mg) (T : Top K mg "in_range" (top 8) ["value", "low", "high"]) (D1 : Dn P w K mg base 1 "is_integer" p_is_integer) : Dn P w K mg base 2 "in_range" p_in_range :=
  T.okP (N := ["value", "low", "high"]) B ⟨rfl, rfl, rfl, by decide +kernel, rfl, by decide +kernel, by decide +kernel⟩ (fun ds r ⟨_, _, _, e, _⟩ => by rw [e]; rfl) fun f cdv A outer s H E g ds r hX h => by
    obtain ⟨v, lo, hi, rfl, rfl⟩ := h
    exact dss_ret (de_and (k := true) (de_callP [.int v] D1 hX (by decide) (da_cons (de_var 0 rfl) da_nil) ⟨_, rfl, by rw [isInt_int]⟩) fun _ => de_one (de_chLeLe (de_var 1 rfl) (de_var 0 rfl) (de_var 2 rfl))) (by rw [Bool.true_and])

-- args: MAX_TIME=1000000 in_range
theorem is_item_ok (B : Bi mg) (T : Top K mg "is_item" (top 9) ["value"]) (G : GlI mg "MAX_TIME" 1000000) (D1 : Dn P w K mg base 2 "in_range" p_in_range) : Dn P w K mg base 3 "is_item" p_is_item :=
  T.okP (N := ["value"]) B ⟨rfl, rfl, rfl, by decide +kernel, rfl, by decide +kernel, by decide +kernel⟩ (fun ds r ⟨_, e, _⟩ => by rw [e]; rfl) fun f cdv A outer s H E g ds r hX h => by
    obtain ⟨v, rfl, rfl⟩ := h
    exact dss_ret (de_callP [.int v, .int 0, .int 1000000] D1 hX (by decide) (da_cons (de_var 0 rfl) (da_cons de_int (da_cons (de_gl G) da_nil))) ⟨_, _, _, rfl, rfl⟩) rfl

-- args: MAX_ITEMS=40 is_item
theorem is_stream_ok (B : Bi mg) (T : Top K mg "is_stream" (top 10) ["value"]) (G : GlI mg "MAX_ITEMS" 40) (D1 : Dn P w K mg base 3 "is_item" p_is_item) : Dn P w K mg base 4 "is_stream" p_is_stream :=
  T.okP (N := ["value", "item"]) B ⟨rfl, rfl, rfl, by decide +kernel, rfl, by decide +kernel, by decide +kernel⟩ (fun ds r ⟨_, _, e, _⟩ => by rw [e]; rfl) fun f cdv A outer s H E g ds r hX h => by
    obtain ⟨xs, V, rfl, rfl⟩ := h
    have t1 : isI "tuple" (.tuple (xs.map .int)) = true := isI_tup _
    have t2 : decide ((40 : Int) < ((xs.length : Nat) : Int)) = false := decide_eq_false (by have := V.len; omega)
    refine dss_ifF (PW.pt (dw_orF (dt_k (by rw [t1]; rfl) (dt_not (dt_val (de_isi hX (da_cons (de_var 0 rfl) (da_cons (de_ty hX.bi.tuple (by decide +kernel)) da_nil)) (by decide)))))
      (dw_orF (dt_k t2 (dt_gt (de_len (n := (xs.length : Nat)) hX (da_cons (de_var 0 rfl) da_nil) rfl (by rw [List.length_map])) (de_gl G))) (dw_or1 (dt_not (k := true) (dt_val (de_k ?_ (de_all (bs := xs.map fun _ => true) hX (da_cons (de_new
      (dlcM [("item", 1)] PyData.int xs (fun _ => .bool true) hX (di_tup (de_var 0 rfl)) rfl (blk_mk (by kernel_rfl)) (fun s H C cl fp => dg_name 1 hX.nd) (by decide) fun x hx => turn_nameM (Nat.le_of_ble_eq_true rfl) (by decide) fun g' s H C cl fp =>
        de_callP (X := blkOf _ _ s H C cl fp) [.int x] D1 (hX.blk s H _ _ fp) (by decide) (da_cons (de_var 1 rfl) da_nil) ⟨_, rfl, ?_⟩).df) da_nil) rfl (by rw [List.map_map]; rfl))))))))) ?_
    · simp
    · have := V.rng x hx
      simp [this.1, this.2]
    · refine dss_ret (de_eq hX (de_lenSet (ns := xs) hX (de_var 0 rfl) rfl (by have := V.len; omega)) (de_len (n := (xs.length : Nat)) hX (da_cons (de_var 0 rfl) da_nil) rfl (by rw [List.length_map])) rfl rfl shp_int shp_int (emb_int _ _)) ?_
      have := (dd_len xs).mpr V.nd
      simp [this]

-- args: is_stream
theorem check_stream_ok (B : Bi mg) (T : Top K mg "check_stream" (top 11) ["stream"]) (D1 : Dn P w K mg base 4 "is_stream" p_is_stream) : Dn P w K mg base 5 "check_stream" p_check_stream :=
  T.okP (N := ["stream"]) B ⟨rfl, rfl, rfl, by decide +kernel, rfl, by decide +kernel, by decide +kernel⟩ (fun ds r ⟨_, _, e, _⟩ => by rw [e]; rfl) fun f cdv A outer s H E g ds r hX h => by
    obtain ⟨xs, V, rfl, rfl⟩ := h
    exact dss_ifF (dt_not (k := true) (dt_val (de_callP [iT xs] D1 hX (by decide) (da_cons (de_var 0 rfl) da_nil) ⟨xs, V, rfl, rfl⟩))) (dss_nil rfl)

abbrev p_lateness_ofO : RR := rP fun ds r => ∃ xs : List Int, xs.length ≤ 1000 ∧ ds = [iT xs] ∧ r = .o (.lst ((ltn xs).map .int))
theorem lateness_of_ok (B : Bi mg) (T : Top K mg "lateness_of" (top 12) ["stream"]) : Dn P w K mg base 1 "lateness_of" p_lateness_ofO :=
  T.okP (N := ["stream", "index", "item", "other"]) B ⟨rfl, rfl, rfl, by decide +kernel, rfl, by decide +kernel, by decide +kernel⟩ (fun ds r ⟨_, _, e, _⟩ => by rw [e]; rfl) fun f cdv A outer s H E g ds r hX h => by
    obtain ⟨xs, hl, rfl, rfl⟩ := h
    refine dss_retF (df_k ?_ (dlcM [("index", 1), ("item", 2)] (fun p : Int × Nat => PyData.tuple [.int (p.2 : Nat), .int p.1]) xs.zipIdx (fun p => .int (gt p.1 (xs.take p.2) : Nat)) hX (di_enum hX (da_cons ((de_var 0 rfl)) da_nil) rfl) ?_ (blk_mk (by kernel_rfl))
      (fun s H C cl fp => dg_pair (hX.blk s H _ _ fp) (dg_name 1 hX.nd) (dg_name 2 hX.nd)) (by decide) fun x hx => turn_pairM (Nat.le_of_ble_eq_true rfl) (Nat.le_of_ble_eq_true rfl) (by decide) (by decide) fun g' s H C cl fp =>
        de_len (X := blkOf _ _ s H C cl fp) (hX.blk s H _ _ fp) (da_cons ((de_new (dlc [("other", 3)] PyData.int (xs.take x.2) (fun y => decide (x.1 < y)) PyData.int (hX.blk s H _ _ fp) (di_tup (de_sl (de_var 0 rfl) do_none (do_some (de_var 1 rfl)) rfl)) ?_ (blk_mk (by kernel_rfl))
          (fun s H C cl fp => dg_name 3 hX.nd) (by decide) fun y hy => turn_name (Nat.le_of_ble_eq_true rfl) (by decide) (fun g2 s2 H2 C2 cl2 fp2 => dts_one (dt_gt (de_var 3 rfl) (de_var 2 rfl))) fun _ g2 s2 H2 C2 cl2 fp2 => (de_var 3 rfl)).df)) da_nil) rfl ?_).df) rfl
    · show Ow.lst _ = Ow.lst _
      unfold ltn
      rw [List.map_map]
      rfl
    · rw [enumD_map]
    · rw [cutP_map, cutP_toN]
    · rw [List.length_map]
      rfl

-- args: check_stream lateness_of
abbrev p_latenessO : RR := rP fun ds r => ∃ xs : List Int, VS xs ∧ ds = [iT xs] ∧ r = .o (.lst ((ltn xs).map .int))
theorem lateness_ok (B : Bi mg) (T : Top K mg "lateness" (top 13) ["stream"]) (D1 : Dn P w K mg base 5 "check_stream" p_check_stream) (D2 : Dn P w K mg base 1 "lateness_of" p_lateness_ofO) : Dn P w K mg base 6 "lateness" p_latenessO :=
  T.okP (N := ["stream"]) B ⟨rfl, rfl, rfl, by decide +kernel, rfl, by decide +kernel, by decide +kernel⟩ (fun ds r ⟨_, _, e, _⟩ => by rw [e]; rfl) fun f cdv A outer s H E g ds r hX h => by
    obtain ⟨xs, V, rfl, rfl⟩ := h
    exact dss_expr (de_callP [iT xs] D1 hX (by decide) (da_cons ((de_var 0 rfl)) da_nil) ⟨xs, V, rfl, rfl⟩) (dss_retF (df_callP [iT xs] D2 hX (by decide) (da_cons ((de_var 0 rfl)) da_nil) ⟨xs, by have := V.len; omega, rfl, rfl⟩) rfl)

theorem is_ascending_ok (B : Bi mg) (T : Top K mg "is_ascending" (top 14) ["value"]) : Dn P w K mg base 1 "is_ascending" p_is_ascending :=
  T.okP (N := ["value", "item", "following"]) B ⟨rfl, rfl, rfl, by decide +kernel, rfl, by decide +kernel, by decide +kernel⟩ (fun ds r ⟨_, _, _, e, _⟩ => by rw [e]; rfl) fun f cdv A outer s H E g ds r hX h => by
    obtain ⟨xs, hl, hp, rfl, rfl⟩ := h
    refine dss_ret (de_k ?_ (de_all (bs := (xs.zip (xs.drop 1)).map fun _ => true) hX (da_cons (de_new (dlcM [("item", 1), ("following", 2)] (fun p : Int × Int => PyData.tuple [.int p.1, .int p.2]) (xs.zip (xs.drop 1)) (fun _ => .bool true) hX
      (di_zip hX (da_cons ((de_var 0 rfl)) (da_cons (de_sl (es := (xs.drop 1).map .int) (de_var 0 rfl) (do_some de_int) do_none (by rw [cutP_map]; congr 1; exact cutP_fromN xs 1)) da_nil)) rfl rfl) ?_ (blk_mk (by kernel_rfl)) (fun s H C cl fp => dg_pair (hX.blk s H _ _ fp) (dg_name 1 hX.nd) (dg_name 2 hX.nd)) (by decide) fun p hm => turn_pairM (Nat.le_of_ble_eq_true rfl) (Nat.le_of_ble_eq_true rfl) (by decide) (by decide) fun g' s H C cl fp =>
        de_k (by rw [decide_eq_true (zip_next hp p hm)]) (de_lt (de_var 1 rfl) (de_var 2 rfl))).df) da_nil) rfl (by rw [List.map_map]; rfl))) rfl
    · simp
    · unfold zipD
      rw [List.zip_map, List.map_map]
      rfl

theorem build_ok (B : Bi mg) (T : Top K mg "build" (top 15) ["items", "rows"]) : Dn P w K mg base 1 "build" p_build :=
  T.okP (N := ["items", "rows", "stream", "item", "late"]) B ⟨rfl, rfl, rfl, by decide +kernel, rfl, by decide +kernel, by decide +kernel⟩ (fun ds r ⟨_, _, _, _, e, _⟩ => by rw [e]; rfl) fun f cdv A outer s H E g ds r hX h => by
    obtain ⟨items, rows, hl, hr, rfl, rfl⟩ := h
    refine dss_new 2 hX.nd (df_lst (ds := []) da_nil) fun p2 => ?_
    refine dss_for (fun p : Int × Nat => PyData.tuple [.int p.1, .int (p.2 : Nat)]) (items.zip rows).reverse (fun pre ρ => ∃ t3 t4, ρ = [.dat (iT items), .dat (iL (rows.map fun n : Nat => (n : Int))), .own p2 (.lst ((bldP pre).map .int)), t3, t4]) hX
      (di_list (de_new (df_rev (de_new (df_listZip hX (da_cons ((de_var 0 rfl)) (da_cons ((de_var 1 rfl)) da_nil)) rfl rfl)) rfl))) ?_ (dg_pair hX (dg_name 3 hX.nd) (dg_name 4 hX.nd)) ⟨.any, .any, rfl⟩ ?_ ?_
    · rw [List.map_reverse]
      congr 1
      unfold zipD
      rw [List.map_map, List.zip_map, List.map_map]
      rfl
    · rintro pre ⟨x, l⟩ post ρi e ⟨t3, t4, rfl⟩
      refine ⟨_, rfl, ?_⟩
      have hm : (x, l) ∈ items.zip rows := List.mem_reverse.mp (by rw [e]; simp)
      have hl2 : l ≤ 1000 := hr l (List.of_mem_zip hm).2
      have hp : pre.length ≤ 1000 := by
        have := congrArg List.length e
        rw [List.length_reverse, List.length_zip, List.length_append] at this
        omega
      refine dss_expr (de_insert (j := l) (de_own 2 rfl) rfl (da_cons ((de_var 4 rfl)) (da_cons ((de_var 3 rfl)) da_nil)) rfl (by rw [List.length_map, bldP_len]; omega) (by omega)) (dss_nil ⟨.dat (.int x), .dat (.int (l : Nat)), ?_⟩)
      rw [bldP_snoc]
      have e3 : (insI l x (bldP pre)).map PyData.int = ((bldP pre).map .int).take l ++ [.int x] ++ ((bldP pre).map .int).drop l := by
        unfold insI
        rw [List.map_append, List.map_cons, List.map_take, List.map_drop, List.append_assoc]
        rfl
      rw [e3]
      rfl
    · rintro ρ' ⟨t3, t4, rfl⟩
      rw [bldP_eq]
      exact dss_ret (de_tuple hX (da_cons ((de_own 2 rfl)) da_nil) rfl) rfl

-- args: in_range
theorem is_lateness_ok (B : Bi mg) (T : Top K mg "is_lateness" (top 16) ["items", "value"]) (D1 : Dn P w K mg base 2 "in_range" p_in_range) : Dn P w K mg base 3 "is_lateness" p_is_lateness :=
  T.okP (N := ["items", "value", "index", "late"]) B ⟨rfl, rfl, rfl, by decide +kernel, rfl, by decide +kernel, by decide +kernel⟩ (fun ds r ⟨_, _, _, _, _, e, _⟩ => by rw [e]; rfl) fun f cdv A outer s H E g ds r hX h => by
    obtain ⟨items, rows, hl, hr, hok, rfl, rfl⟩ := h
    refine dss_ifF (dt_w (dw_orF (dt_k (b := !isI "list" (iL (rows.map fun n : Nat => (n : Int)))) (by rw [show isI "list" (iL (rows.map fun n : Nat => (n : Int))) = true from by simp [isI, tyN]]; rfl) (dt_not (dt_val (de_isi (T := "list") hX (da_cons ((de_var 1 rfl)) (da_cons ((de_ty hX.bi.list (by decide +kernel))) da_nil)) (by decide)))))
      (dw_or1 (dt_k (b := !true) rfl (dt_ne hX (de_len (n := (rows.length : Nat)) hX (da_cons ((de_var 1 rfl)) da_nil) rfl (by rw [List.length_map, List.length_map])) (de_len (n := (items.length : Nat)) hX (da_cons ((de_var 0 rfl)) da_nil) rfl (by rw [List.length_map])) rfl rfl shp_int shp_int ((emb_int _ _).trans (decide_eq_true (by rw [hr])))))))) ?_
    refine dss_ret (de_k ?_ (de_all (bs := rows.zipIdx.map fun _ => true) hX (da_cons (de_new (dlcM [("index", 2), ("late", 3)] (fun p : Nat × Nat => PyData.tuple [.int (p.2 : Nat), .int (p.1 : Nat)]) rows.zipIdx (fun _ => .bool true) hX
      (di_enum hX (da_cons ((de_var 1 rfl)) da_nil) rfl) ?_ (blk_mk (by kernel_rfl)) (fun s H C cl fp => dg_pair (hX.blk s H _ _ fp) (dg_name 2 hX.nd) (dg_name 3 hX.nd)) (by decide) fun p hm => turn_pairM (Nat.le_of_ble_eq_true rfl) (Nat.le_of_ble_eq_true rfl) (by decide) (by decide) fun g' s H C cl fp =>
        de_callP (X := blkOf _ _ s H C cl fp) [.int (p.1 : Nat), .int 0, .int (((items.length : Nat) : Int) - 1 - (p.2 : Nat))] D1 (hX.blk s H _ _ fp) (by decide) (da_cons ((de_var 3 rfl)) (da_cons (de_int) (da_cons (de_sub (X := blkOf _ _ s H C cl fp) (de_sub (X := blkOf _ _ s H C cl fp) (de_len (X := blkOf _ _ s H C cl fp) (n := (items.length : Nat)) (hX.blk s H _ _ fp) (da_cons ((de_var 0 rfl)) da_nil) rfl (by rw [List.length_map])) de_int) (de_var 2 rfl)) da_nil))) ⟨_, _, _, rfl, ?_⟩).df) da_nil) rfl (by rw [List.map_map]; rfl))) rfl
    · simp
    · rw [List.map_map, enumD_map]
      rfl
    · have h1 := rowOk_at hok p.2 p.1 (List.mem_zipIdx_iff_getElem?.mp hm)
      rw [decide_eq_true (show (0 : Int) ≤ ((p.1 : Nat) : Int) from by omega), decide_eq_true (show ((p.1 : Nat) : Int) ≤ ((items.length : Nat) : Int) - 1 - ((p.2 : Nat) : Int) from by omega)]
      rfl

-- args: is_stream is_ascending is_lateness build
theorem stream_of_ok (B : Bi mg) (T : Top K mg "stream_of" (top 17) ["items", "rows"]) (D1 : Dn P w K mg base 4 "is_stream" p_is_stream) (D2 : Dn P w K mg base 1 "is_ascending" p_is_ascending) (D3 : Dn P w K mg base 3 "is_lateness" p_is_lateness) (D4 : Dn P w K mg base 1 "build" p_build) : Dn P w K mg base 5 "stream_of" p_stream_of :=
  T.okP (N := ["items", "rows"]) B ⟨rfl, rfl, rfl, by decide +kernel, rfl, by decide +kernel, by decide +kernel⟩ (fun ds r ⟨_, _, _, _, _, _, e, _⟩ => by rw [e]; rfl) fun f cdv A outer s H E g ds r hX h => by
    obtain ⟨items, rows, V, hp, hr, hok, rfl, rfl⟩ := h
    have hl := V.len
    refine dss_ifF (dt_w (dw_orF (dt_not (k := true) (dt_val (de_callP [iT items] D1 hX (by decide) (da_cons ((de_var 0 rfl)) da_nil) ⟨items, V, rfl, rfl⟩))) (dw_or1 (dt_not (k := true) (dt_val (de_callP [iT items] D2 hX (by decide) (da_cons ((de_var 0 rfl)) da_nil) ⟨items, by omega, hp, rfl, rfl⟩)))))) ?_
    refine dss_ifF (dt_not (k := true) (dt_val (de_callP [iT items, iL (rows.map fun n : Nat => (n : Int))] D3 hX (by decide) (da_cons ((de_var 0 rfl)) (da_cons ((de_var 1 rfl)) da_nil)) ⟨items, rows, by omega, hr, hok, rfl, rfl⟩))) ?_
    refine dss_ret (de_callP [iT items, iL (rows.map fun n : Nat => (n : Int))] D4 hX (by decide) (da_cons ((de_var 0 rfl)) (da_cons ((de_var 1 rfl)) da_nil)) ⟨items, rows, by omega, fun l hm => ?_, rfl, rfl⟩) rfl
    obtain ⟨i, hi⟩ := List.mem_iff_getElem?.mp hm
    have := rowOk_at hok i l hi
    omega

-- args: check_stream lateness_of
theorem disorder_ok (B : Bi mg) (T : Top K mg "disorder" (top 18) ["stream"]) (D1 : Dn P w K mg base 5 "check_stream" p_check_stream) (D2 : Dn P w K mg base 1 "lateness_of" p_lateness_ofO) : Dn P w K mg base 6 "disorder" p_disorder :=
  T.okP (N := ["stream"]) B ⟨rfl, rfl, rfl, by decide +kernel, rfl, by decide +kernel, by decide +kernel⟩ (fun ds r ⟨_, _, e, _⟩ => by rw [e]; rfl) fun f cdv A outer s H E g ds r hX h => by
    obtain ⟨xs, V, rfl, rfl⟩ := h
    exact dss_expr (de_callP [iT xs] D1 hX (by decide) (da_cons ((de_var 0 rfl)) da_nil) ⟨xs, V, rfl, rfl⟩) (dss_ret (de_sum (ns := ltn xs) hX (da_cons (de_new (df_callP [iT xs] D2 hX (by decide) (da_cons ((de_var 0 rfl)) da_nil) ⟨xs, by have := V.len; omega, rfl, rfl⟩)) da_nil) rfl) rfl)

theorem _law_well_ok (B : Bi mg) (T : Top K mg "_law_well" (top 20) ["cell", "turn"]) : Dn P w K mg base 1 "_law_well" p__law_well :=
  T.okP (N := ["cell", "turn"]) B ⟨rfl, rfl, rfl, by decide +kernel, rfl, by decide +kernel, by decide +kernel⟩ (fun ds r ⟨_, _, e, _⟩ => by rw [e]; rfl) fun f cdv A outer s H E g ds r hX h => by
    obtain ⟨c, t, rfl, rfl⟩ := h
    refine dss_ifR (dt_ge (de_var 0 rfl) (de_pow (i := 10) (j := 18) (by unfold CPow; decide) de_int de_int)) (fun hk => ?_) fun hk => ?_
    · have hk' : (10 : Int) ^ 18 ≤ c := of_decide_eq_true hk
      refine dss_retF (df_lst (ds := [.int (c - 10 ^ 18), .int (c % 2305843009213693951), .int t]) (da_cons (de_sub (de_var 0 rfl) (de_pow (i := 10) (j := 18) (by unfold CPow; decide) de_int de_int)) (da_cons (de_mod (by decide) (de_var 0 rfl) de_int) (da_cons (de_var 1 rfl) da_nil)))) ?_
      unfold wellR
      rw [if_pos hk']
      rfl
    · have hk' : ¬ (10 : Int) ^ 18 ≤ c := of_decide_eq_false hk
      refine dss_retF (df_lst (ds := [.int 0, .int (c % 2305843009213693951), .int t]) (da_cons de_int (da_cons (de_mod (by decide) (de_var 0 rfl) de_int) (da_cons (de_var 1 rfl) da_nil)))) ?_
      unfold wellR
      rw [if_neg hk']
      rfl

theorem _law_take_ok (B : Bi mg) (T : Top K mg "_law_take" (top 21) ["bag", "many"]) : Dn P w K mg base 1 "_law_take" p__law_take :=
  T.okB (N := ["bag", "many", "found", "p", "n"]) B ⟨rfl, rfl, rfl, by decide +kernel, rfl, by decide +kernel, by decide +kernel⟩ (fun o ds r o' ⟨_, _, _, _, _, ⟨_, _, _, e, _⟩, _⟩ => by rw [e]; rfl) fun f cdv A outer s H E g p o ds r o' hX h => by
    obtain ⟨n, b, d, b', hb, ⟨m, hm, hm2, rfl, rfl, rfl⟩, rfl, rfl, rfl⟩ := h
    obtain ⟨b0, b1, b2⟩ := b
    obtain ⟨h1, h2⟩ : 0 ≤ b2 ∧ b2 + ((n + 1 : Nat) : Int) < 2 ^ 60 := hb
    have hlog : m.natAbs.log2 < 9000 := by
      have : m.natAbs < 2 ^ 300 := by omega
      by_cases h0 : m.natAbs = 0
      · rw [h0]; decide
      · have := (Nat.log2_lt h0).mpr this
        omega
    refine dss_ifR (dt_gt (de_ix (de_own 0 rfl) de_int rfl rfl) de_int) (fun hk => ?_) fun hk => ?_
    · have hk' : 0 < b0 := of_decide_eq_true hk
      refine dss_set 2 hX.nd (de_mod hm (de_ix (de_own 0 rfl) de_int rfl rfl) (de_var 1 rfl)) ?_
      refine dss_seti (i := 0) (de_fdiv ⟨hm, hlog⟩ (de_ix (de_own 0 rfl) de_int rfl rfl) (de_var 1 rfl)) (de_own 0 rfl) de_int rfl rfl ?_
      refine dss_ret (de_var 2 rfl) ⟨?_, ?_⟩
      · unfold takeR
        rw [if_pos hk']
      · unfold takeB
        rw [if_pos hk']
        rfl
    · have hk' : ¬ 0 < b0 := of_decide_eq_false hk
      refine dss_seti (i := 0) (de_add (de_ix (de_own 0 rfl) de_int rfl rfl) de_int) (de_own 0 rfl) de_int rfl rfl ?_
      refine dss_set 3 hX.nd de_int ?_
      refine dss_set 4 hX.nd (de_mod (by decide) (de_add (de_ix (de_own 0 rfl) de_int rfl rfl) (de_mulS (.inl (by decide)) de_int (de_ix (de_own 0 rfl) de_int rfl rfl))) (de_var 3 rfl)) ?_
      have r1 : 0 ≤ (b1 + 1000003 * (b2 + 1)) % 2305843009213693951 ∧ (b1 + 1000003 * (b2 + 1)) % 2305843009213693951 < 2305843009213693951 := ⟨Int.emod_nonneg _ (by decide), Int.emod_lt_of_pos _ (by decide)⟩
      refine dss_set 4 hX.nd (de_mod (by decide) (de_add (de_add (de_mulS (.inl ⟨by omega, by omega⟩) (de_var 4 rfl) (de_var 4 rfl)) (de_mulS (.inl (by decide)) de_int (de_pow (i := b2 + 1) (j := 2) ⟨by decide, by decide, by omega⟩ (de_ix (de_own 0 rfl) de_int rfl rfl) de_int))) de_int) (de_var 3 rfl)) ?_
      have r2 : 0 ≤ drawR (b0, b1, b2) ∧ drawR (b0, b1, b2) < 2305843009213693951 := ⟨Int.emod_nonneg _ (by decide), Int.emod_lt_of_pos _ (by decide)⟩
      refine dss_ret (de_mod hm (de_fdiv ⟨by decide, by decide⟩ (de_mod (by decide) (de_pow (i := drawR (b0, b1, b2)) ⟨by decide, by decide, by omega⟩ (de_var 4 rfl) de_int) (de_var 3 rfl)) de_int) (de_var 1 rfl)) ⟨?_, ?_⟩
      · unfold takeR
        rw [if_neg hk']
        rfl
      · unfold takeB
        rw [if_neg hk']
        rfl

-- args: _law_well
theorem _law_bags_ok (B : Bi mg) (T : Top K mg "_law_bags" (top 22) ["script", "most"]) (D1 : Dn P w K mg base 1 "_law_well" p__law_well) : DnB P w K mg base 2 :=
  T.dnB fun f fd Fn => bags_ok B Fn ⟨rfl, rfl, rfl, by decide +kernel, rfl, by decide +kernel, by decide +kernel⟩ rfl D1 fun cdv A outer s H E => ⟨⟨.inl rfl, .inl rfl, rfl, (blk_mk (by kernel_rfl))⟩, fun s' H' C cl fp => ⟨⟨rfl, rfl⟩, rfl⟩, rfl⟩

theorem _law_same_step (B : Bi mg) (T : Top K mg "_law_same" (top 23) ["a", "b"]) (n : Nat) (IH : ∀ m, n = m + 1 → Dn P w K mg base n "_law_same" (p_same m)) : Dn P w K mg base (n + 1) "_law_same" (p_same n) :=
  T.okP (N := ["a", "b", "x", "y"]) B ⟨rfl, rfl, rfl, by decide +kernel, rfl, by decide +kernel, by decide +kernel⟩ (fun ds r ⟨_, _, e, _⟩ => by rw [e]; rfl) fun f cdv A outer s H E g ds r hX h => by
    obtain ⟨a, b, rfl, ha, hb, rfl⟩ := h
    have na := sh_nd ha
    have nb := sh_nd hb
    refine dss_ifR (PW.pt (dw_or (PW.pt (dw_and (dt_val (de_isi (T := "list") hX (da_cons (de_var 0 rfl) (da_cons (de_ty hX.bi.list (by decide +kernel)) da_nil)) (by decide))) fun _ => dw_and1 (dt_val (de_isi (T := "list") hX (da_cons (de_var 1 rfl) (da_cons (de_ty hX.bi.list (by decide +kernel)) da_nil)) (by decide))))) fun _ =>
      dw_or1 (PW.pt (dw_and (dt_val (de_isi (T := "tuple") hX (da_cons (de_var 0 rfl) (da_cons (de_ty hX.bi.tuple (by decide +kernel)) da_nil)) (by decide))) fun _ => dw_and1 (dt_val (de_isi (T := "tuple") hX (da_cons (de_var 1 rfl) (da_cons (de_ty hX.bi.tuple (by decide +kernel)) da_nil)) (by decide))))))) (fun hk => ?_) fun h1 => ?_
    · obtain ⟨xs, ys, e1, e2, e3, e4, hs, he⟩ : ∃ xs ys : List Pd, seqo [.dat a, .dat b, .any, .any] (.d a) = some xs ∧ seqo [.dat a, .dat b, .any, .any] (.d b) = some ys ∧ seqD (.d a) = some xs ∧ seqD (.d b) = some ys ∧
          (∀ d ∈ xs, ∀ e ∈ ys, ∃ m, n = m + 1 ∧ Sh m d ∧ Sh m e) ∧ sm a b = (decide ((xs.length : Int) = ys.length) && (xs.zip ys).all fun p => sm p.1 p.2) := by
        rcases Bool.or_eq_true_iff.mp hk with z | z
        · obtain ⟨z1, z2⟩ := Bool.and_eq_true_iff.mp z
          obtain ⟨xs, rfl⟩ := same_isL z1 na
          obtain ⟨ys, rfl⟩ := same_isL z2 nb
          obtain ⟨m, em, hm⟩ := sh_list_inv ha
          obtain ⟨m2, em2, hm2⟩ := sh_list_inv hb
          exact ⟨xs, ys, rfl, rfl, rfl, rfl, fun d hd e he => ⟨m, em, hm d hd, (show m2 = m by omega) ▸ hm2 e he⟩, sm_list xs ys⟩
        · obtain ⟨z1, z2⟩ := Bool.and_eq_true_iff.mp z
          obtain ⟨xs, rfl⟩ := same_isT z1 na
          obtain ⟨ys, rfl⟩ := same_isT z2 nb
          obtain ⟨m, em, hm⟩ := sh_tuple_inv ha
          obtain ⟨m2, em2, hm2⟩ := sh_tuple_inv hb
          exact ⟨xs, ys, rfl, rfl, rfl, rfl, fun d hd e he => ⟨m, em, hm d hd, (show m2 = m by omega) ▸ hm2 e he⟩, sm_tuple xs ys⟩
      exact dss_ret (de_and (de_eq hX (de_len (n := (xs.length : Nat)) hX (da_cons (de_var 0 rfl) da_nil) e1 rfl) (de_len (n := (ys.length : Nat)) hX (da_cons (de_var 1 rfl) da_nil) e2 rfl) rfl rfl shp_int shp_int (emb_int _ _)) fun _ =>
          de_one (de_all (bs := (xs.zip ys).map fun p => sm p.1 p.2) hX (da_cons (de_new (dlcM [("x", 2), ("y", 3)] (fun p : Pd × Pd => PyData.tuple [p.1, p.2]) (xs.zip ys) (fun p => .bool (sm p.1 p.2)) hX (di_zip hX (da_cons (de_var 0 rfl) (da_cons (de_var 1 rfl) da_nil)) e3 e4) rfl (blk_mk (by kernel_rfl))
            (fun s H C cl fp => dg_pair (hX.blk s H _ _ fp) (dg_name 2 hX.nd) (dg_name 3 hX.nd)) (by decide) fun x hx => turn_pairM (Nat.le_of_ble_eq_true rfl) (Nat.le_of_ble_eq_true rfl) (by decide) (by decide) fun g' s H C cl fp =>
              let ⟨m, em, h1, h2⟩ := hs x.1 (List.of_mem_zip hx).1 x.2 (List.of_mem_zip hx).2
              de_callP (X := blkOf _ _ s H C cl fp) [x.1, x.2] (IH m em) (hX.blk s H _ _ fp) (Nat.le_refl _) (da_cons (de_var 2 rfl) (da_cons (de_var 3 rfl) da_nil)) ⟨_, _, rfl, h1, h2, rfl⟩).df) da_nil) rfl (by rw [List.map_map]; rfl))) (by rw [he, List.all_map]; rfl)
    · refine dss_ifR (PW.pt (dw_or (dt_val (de_isiT (Ts := ["bool", "list", "tuple"]) hX (de_var 0 rfl) (da_cons (de_ty hX.bi.bool (by decide +kernel)) (da_cons (de_ty hX.bi.list (by decide +kernel)) (da_cons (de_ty hX.bi.tuple (by decide +kernel)) da_nil))) (by decide))) fun _ =>
        dw_or1 (dt_val (de_isiT (Ts := ["bool", "list", "tuple"]) hX (de_var 1 rfl) (da_cons (de_ty hX.bi.bool (by decide +kernel)) (da_cons (de_ty hX.bi.list (by decide +kernel)) (da_cons (de_ty hX.bi.tuple (by decide +kernel)) da_nil))) (by decide))))) (fun hk => ?_) fun h2 => ?_
      · exact dss_ret (de_and (de_isi (T := "bool") hX (da_cons (de_var 0 rfl) (da_cons (de_ty hX.bi.bool (by decide +kernel)) da_nil)) (by decide)) fun k1 => de_and (de_isi (T := "bool") hX (da_cons (de_var 1 rfl) (da_cons (de_ty hX.bi.bool (by decide +kernel)) da_nil)) (by decide)) fun k2 =>
          de_one (de_eq hX (de_var 0 rfl) (de_var 1 rfl) rfl rfl ((isI_flat (by decide) k1 ha).shaped (by decide)) ((isI_flat (by decide) k2 hb).shaped (by decide)) (same_eqv (by decide) k1 k2 na nb))) (by rw [same_fin h1 na nb hk])
      · obtain ⟨h2a, h2b⟩ := Bool.or_eq_false_iff.mp h2
        refine dss_ifR (PW.pt (dw_or (dt_val (de_isi (T := "int") hX (da_cons (de_var 0 rfl) (da_cons (de_ty hX.bi.int (by decide +kernel)) da_nil)) (by decide))) fun _ => dw_or1 (dt_val (de_isi (T := "int") hX (da_cons (de_var 1 rfl) (da_cons (de_ty hX.bi.int (by decide +kernel)) da_nil)) (by decide))))) (fun hk => ?_) fun h3 => ?_
        · exact dss_ret (de_and (de_isi (T := "int") hX (da_cons (de_var 0 rfl) (da_cons (de_ty hX.bi.int (by decide +kernel)) da_nil)) (by decide)) fun k1 => de_and (de_isi (T := "int") hX (da_cons (de_var 1 rfl) (da_cons (de_ty hX.bi.int (by decide +kernel)) da_nil)) (by decide)) fun k2 =>
            de_one (de_eq hX (de_var 0 rfl) (de_var 1 rfl) rfl rfl ((isI_flat (by decide) k1 ha).shaped (by decide)) ((isI_flat (by decide) k2 hb).shaped (by decide)) (same_eqvI h2a h2b k1 k2 na nb))) (by rw [same_fin2 h2 na nb hk])
        · refine dss_ifR (PW.pt (dw_or (dt_val (de_isi (T := "str") hX (da_cons (de_var 0 rfl) (da_cons (de_ty hX.bi.str (by decide +kernel)) da_nil)) (by decide))) fun _ => dw_or1 (dt_val (de_isi (T := "str") hX (da_cons (de_var 1 rfl) (da_cons (de_ty hX.bi.str (by decide +kernel)) da_nil)) (by decide))))) (fun hk => ?_) fun h4 => ?_
          · exact dss_ret (de_and (de_isi (T := "str") hX (da_cons (de_var 0 rfl) (da_cons (de_ty hX.bi.str (by decide +kernel)) da_nil)) (by decide)) fun k1 => de_and (de_isi (T := "str") hX (da_cons (de_var 1 rfl) (da_cons (de_ty hX.bi.str (by decide +kernel)) da_nil)) (by decide)) fun k2 =>
              de_one (de_eq hX (de_var 0 rfl) (de_var 1 rfl) rfl rfl ((isI_flat (by decide) k1 ha).shaped (by decide)) ((isI_flat (by decide) k2 hb).shaped (by decide)) (same_eqv (by decide) k1 k2 na nb))) (by rw [same_fin3 h2 h3 na nb hk])
          · exact dss_ret (de_and (de_isN (de_var 0 rfl) de_non) fun _ => de_one (de_isN (de_var 1 rfl) de_non)) (by rw [same_fin4 h2 h3 h4 na nb])
theorem _law_same_ok (B : Bi mg) (T : Top K mg "_law_same" (top 23) ["a", "b"]) : ∀ n, Dn P w K mg base (n + 1) "_law_same" (p_same n)
  | 0 => _law_same_step B T 0 fun m e => by cases e
  | n + 1 => _law_same_step B T (n + 1) fun m e => by cases e; exact _law_same_ok B T n

-- args: _law_take
theorem _law_items_ok (B : Bi mg) (T : Top K mg "_law_items" (top 24) ["bag", "most"]) (D1 : Dn P w K mg base 1 "_law_take" p__law_take) : Dn P w K mg base 2 "_law_items" p__law_items :=
  T.okB (N := ["bag", "most", "times", "found", "turn"]) B ⟨rfl, rfl, rfl, by decide +kernel, rfl, by decide +kernel, by decide +kernel⟩ (fun o ds r o' ⟨_, _, _, _, _, ⟨_, _, _, e, _⟩, _⟩ => by rw [e]; rfl) fun f cdv A outer s H E g p o ds r o' hX h => by
    obtain ⟨n, b, d, b', hb, ⟨most, hm1, hm2, rfl, rfl, rfl⟩, rfl, rfl, rfl⟩ := h
    have hi := takeR_rng b (m := 3) (by decide)
    have hpk := pickT_pos (i := takeR b 3) hm1
    have hpl := pickT_le (most := most) (i := takeR b 3) (by omega)
    have hb1 : okB (n + 49) (takeB b 3) := (hb.mono (by omega)).take
    have hb2 : okB (n + 48) (takeB (takeB b 3) (most + 1)) := (hb1.mono (by omega)).take
    have hN := itemsP_n (most := most) (b := takeB b 3)
    have hN2 := takeR_rng (takeB b 3) (m := (most : Int) + 1) (by omega)
    refine dss_set 2 hX.nd (d := .int (pickT most (takeR b 3))) (de_ix (ds := [.int most, .int 200, .int (10 ^ 6 + 1)]) (de_new (df_lst (ds := [.int most, .int 200, .int (10 ^ 6 + 1)]) (da_cons (de_var 1 rfl) (da_cons de_int (da_cons (de_add (de_pow (i := 10) (j := 6) (by unfold CPow; decide) de_int de_int) de_int) da_nil)))))
      (de_callB' (i := 0) [.int 3] D1 hX (by decide) (da_cons (de_own 0 rfl) (da_cons de_int da_nil)) rfl ⟨n + 49, b, _, _, hb.mono (by omega), ⟨3, by decide, by decide, rfl, rfl, rfl⟩, rfl, rfl, rfl⟩) rfl ?_) ?_
    · have : takeR b 3 = 0 ∨ takeR b 3 = 1 ∨ takeR b 3 = 2 := by omega
      rcases this with e | e | e <;> rw [e] <;> rfl
    refine dss_new 3 hX.nd (df_dict hX) fun q0 => ?_
    refine dss_for (fun i : Nat => PyData.int i) (List.range (takeR (takeB b 3) (most + 1)).toNat) (fun pre ρ => ∃ q t, ρ = [.own p (bgO (drawN (pickT most (takeR b 3)) pre.length (takeB (takeB b 3) (most + 1))).2), .dat (.int most), .dat (.int (pickT most (takeR b 3))), .own q (.dK (kvI (once (drawN (pickT most (takeR b 3)) pre.length (takeB (takeB b 3) (most + 1))).1))), t]) hX
      (di_range1 hX (da_cons (de_callB' (i := 0) [.int ((most : Int) + 1)] D1 hX (by decide) (da_cons (de_own 0 rfl) (da_cons (de_add (de_var 1 rfl) de_int) da_nil)) rfl ⟨n + 48, takeB b 3, _, _, hb1, ⟨(most : Int) + 1, by omega, by omega, rfl, rfl, rfl⟩, rfl, rfl, rfl⟩) da_nil) ⟨by omega, by omega⟩) (rngD_map _) (dg_name 4 hX.nd) ⟨q0, .any, rfl⟩ ?_ ?_
    · rintro pre x post ρi e ⟨q, t, rfl⟩
      have hpl2 : pre.length < most := by
        have := congrArg List.length e
        rw [List.length_range, List.length_append, List.length_cons] at this
        omega
      have hbp : okB (n + 1) (drawN (pickT most (takeR b 3)) pre.length (takeB (takeB b 3) (most + 1))).2 := drawN_ok (hb2.mono (by omega))
      refine ⟨_, rfl, ?_⟩
      refine dss_put (ky := Sum.inl (takeR (drawN (pickT most (takeR b 3)) pre.length (takeB (takeB b 3) (most + 1))).2 (pickT most (takeR b 3)))) hX de_bl (de_own 3 rfl) (de_callB' (i := 0) [.int (pickT most (takeR b 3))] D1 hX (by decide) (da_cons (de_own 0 rfl) (da_cons (de_var 2 rfl) da_nil)) rfl
        ⟨n, _, _, _, hbp, ⟨_, hpk, by omega, rfl, rfl, rfl⟩, rfl, rfl, rfl⟩) rfl rfl ?_ (dss_nil ⟨q, .dat (.int x), ?_⟩) rfl
      · rw [kvI_len]
        have h1 := (once_ok (drawN (pickT most (takeR b 3)) pre.length (takeB (takeB b 3) (most + 1))).1).2.2
        rw [drawN_len] at h1
        omega
      · rw [kvI_put, List.length_append, List.length_singleton, drawN_succ, once_snoc]
        rfl
    · rintro ρ' ⟨q, t, rfl⟩
      rw [List.length_range]
      have h1 := (once_ok (drawN (pickT most (takeR b 3)) (takeR (takeB b 3) (most + 1)).toNat (takeB (takeB b 3) (most + 1))).1).2.2
      rw [drawN_len] at h1
      exact dss_ret (de_tuple hX (da_cons (de_new (df_sortedD hX (de_own 3 rfl) rfl (kvI_keys _) (by omega))) da_nil) rfl) ⟨rfl, rfl⟩

-- args: _law_take _law_items
theorem _law_stream_ok (B : Bi mg) (T : Top K mg "_law_stream" (top 25) ["bag", "most"]) (D1 : Dn P w K mg base 1 "_law_take" p__law_take) (D2 : Dn P w K mg base 2 "_law_items" p__law_items) : Dn P w K mg base 3 "_law_stream" p__law_stream :=
  T.okB (N := ["bag", "most", "items", "way", "stream", "index", "item", "late"]) B ⟨rfl, rfl, rfl, by decide +kernel, rfl, by decide +kernel, by decide +kernel⟩ (fun o ds r o' ⟨_, _, _, _, _, ⟨_, _, _, e, _⟩, _⟩ => by rw [e]; rfl) fun f cdv A outer s H E g p o ds r o' hX h => by
    obtain ⟨n, b, d, b', hb, ⟨most, hm1, hm2, rfl, rfl, rfl⟩, rfl, rfl, rfl⟩ := h
    have it := itemsP_it (b := b) hm1 hm2
    have il := it.len
    have hb1 : okB (n + 50) (itemsP most b).2 := itemsP_ok hm2 (hb.mono (by omega))
    have hb2 : okB (n + 49) (takeB (itemsP most b).2 4) := (hb1.mono (by omega)).take
    have hw := takeR_rng (itemsP most b).2 (m := 4) (by decide)
    refine dss_set 2 hX.nd (de_callB' (i := 0) [.int most] D2 hX (by decide) (da_cons (de_own 0 rfl) (da_cons (de_var 1 rfl) da_nil)) rfl ⟨n + 50, b, _, _, hb.mono (by omega), ⟨most, hm1, hm2, rfl, rfl, rfl⟩, rfl, rfl, rfl⟩) ?_
    refine dss_par2 3 4 hX (dp_cons (dr_d (de_callB' (i := 0) [.int 4] D1 hX (by decide) (da_cons (de_own 0 rfl) (da_cons de_int da_nil)) rfl ⟨n + 49, (itemsP most b).2, _, _, hb1.mono (by omega), ⟨4, by decide, by decide, rfl, rfl, rfl⟩, rfl, rfl, rfl⟩)) fun _ => dp_cons (dr_o (df_lst (ds := []) da_nil)) fun _ => dp_nil) fun s1 s2 e1 ⟨q0, e2⟩ => ?_
    subst e1 e2
    generalize hway : takeR (itemsP most b).2 4 = way at hw
    refine dss_for (fun q : Int × Nat => PyData.tuple [.int (q.2 : Nat), .int q.1]) (itemsP most b).1.reverse.zipIdx
      (fun pre ρ => ∃ q t1 t2 t3, ρ = [.own p (bgO (strS way (takeB (itemsP most b).2 4) pre).2), .dat (.int most), .dat (iT (itemsP most b).1), .dat (.int way), .own q (.lst ((strS way (takeB (itemsP most b).2 4) pre).1.map .int)), t1, t2, t3]) hX
      (di_enum hX (da_cons (de_rev (de_var 2 rfl)) da_nil) rfl) (by rw [← List.map_reverse, enumD_map]) (dg_pair hX (dg_name 5 hX.nd) (dg_name 6 hX.nd)) ⟨q0, .any, .any, .any, rfl⟩ ?_ ?_
    · rintro pre ⟨x, ix⟩ post ρi e ⟨q, t1, t2, t3, rfl⟩
      have hlen := congrArg List.length e
      rw [List.length_zipIdx, List.length_reverse, List.length_append, List.length_cons] at hlen
      have hix : ix < 41 := by
        have : (x, ix) ∈ (itemsP most b).1.reverse.zipIdx := by rw [e]; exact List.mem_append_right _ List.mem_cons_self
        have := List.snd_lt_of_mem_zipIdx this
        rw [List.length_reverse] at this
        omega
      have so := strS_ok way (takeB (itemsP most b).2 4) pre
      have hbp : okB (n + 1) (strS way (takeB (itemsP most b).2 4) pre).2 := so.2 (n + 1) (hb2.mono (by omega))
      have hsl : (strS way (takeB (itemsP most b).2 4) pre).1.length = pre.length := by rw [so.1.length_eq, List.length_map]
      have hmp := mWay_pos way ix
      have hml : mWay way ix ≤ 41 := by unfold mWay; split; omega; split; decide; split <;> decide
      have ht := takeR_rng (strS way (takeB (itemsP most b).2 4) pre).2 hmp
      have hlw : 0 ≤ lateW way ix (strS way (takeB (itemsP most b).2 4) pre).2 ∧ lateW way ix (strS way (takeB (itemsP most b).2 4) pre).2 ≤ 41 := by
        unfold lateW; split <;> omega
      refine ⟨_, rfl, ?_⟩
      refine dss_set 7 hX.nd (d := .int (lateW way ix (strS way (takeB (itemsP most b).2 4) pre).2)) (ρ1 := [.own p (bgO (takeB (strS way (takeB (itemsP most b).2 4) pre).2 (mWay way ix))), .dat (.int most), .dat (iT (itemsP most b).1), .dat (.int way), .own q (.lst ((strS way (takeB (itemsP most b).2 4) pre).1.map .int)), .dat (.int ix), .dat (.int x), t3]) ?_ ?_
      · by_cases hz : way = 0
        · have em : mWay way ix = (ix : Int) + 1 := if_pos hz
          refine de_ifE (k := true) (dt_k (by rw [hz]; rfl) (dt_eq hX (de_var 3 rfl) de_int rfl rfl shp_int shp_int (emb_int _ _))) (fun _ => ?_) (fun z => by cases z)
          refine de_callB' (i := 0) [.int ((ix : Int) + 1)] D1 hX (by decide) (da_cons (de_own 0 rfl) (da_cons (de_add (de_var 5 rfl) de_int) da_nil)) rfl ⟨n, _, _, _, hbp, ⟨(ix : Int) + 1, by omega, by omega, rfl, ?_, by rw [em]⟩, rfl, rfl, rfl⟩
          unfold lateW
          rw [if_pos hz, em]
        · refine de_ifE (k := false) (dt_k (decide_eq_false hz) (dt_eq hX (de_var 3 rfl) de_int rfl rfl shp_int shp_int (emb_int _ _))) (fun z => by cases z) (fun _ => ?_)
          refine de_k ?_ (de_min2 (i := (ix : Int)) (j := takeR (strS way (takeB (itemsP most b).2 4) pre).2 (mWay way ix)) hX (da_cons (de_var 5 rfl) (da_cons (de_callB' (i := 0) [.int (mWay way ix)] D1 hX (by decide) (da_cons (de_own 0 rfl) (da_cons (de_ix (ds := [.int 1, .int 3, .int 9, .int 20]) (de_new (df_lst (ds := [.int 1, .int 3, .int 9, .int 20]) (da_cons de_int (da_cons de_int (da_cons de_int (da_cons de_int da_nil)))))) (de_var 3 rfl) rfl ?_) da_nil)) rfl
            ⟨n, _, _, _, hbp, ⟨_, hmp, by omega, rfl, rfl, rfl⟩, rfl, rfl, rfl⟩) da_nil)))
          · unfold lateW
            rw [if_neg hz]
          · have : way = 1 ∨ way = 2 ∨ way = 3 := by omega
            rcases this with w | w | w <;> subst w <;> rfl
      · refine dss_expr (de_insert (j := (lateW way ix (strS way (takeB (itemsP most b).2 4) pre).2).toNat) (ds := (strS way (takeB (itemsP most b).2 4) pre).1.map .int) (d := .int x) (de_own 4 rfl) rfl (da_cons (de_k (by rw [Int.toNat_of_nonneg hlw.1]) (de_var 7 rfl)) (da_cons (de_var 6 rfl) da_nil)) rfl (by rw [List.length_map]; omega) (by omega)) (dss_nil ⟨q, .dat (.int ix), .dat (.int x), .dat (.int (lateW way ix (strS way (takeB (itemsP most b).2 4) pre).2)), ?_⟩)
        rw [strS_snoc]
        show _ = [Sl.own p (bgO (takeB (strS way (takeB (itemsP most b).2 4) pre).2 (mWay way ix))), _, _, _, Sl.own q (.lst ((setIn (strS way (takeB (itemsP most b).2 4) pre).1 (lateW way ix (strS way (takeB (itemsP most b).2 4) pre).2).toNat x).map .int)), _, _, _]
        unfold setIn
        rw [List.map_append, List.map_append, List.map_take, List.map_drop]
        rfl
    · rintro ρ' ⟨q, t1, t2, t3, rfl⟩
      subst hway
      exact dss_ret (de_tuple hX (da_cons (de_own 4 rfl) da_nil) rfl) ⟨rfl, rfl⟩

theorem _law_late_ok (B : Bi mg) (T : Top K mg "_law_late" (top 26) ["stream", "item"]) : Dn P w K mg base 1 "_law_late" p__law_late :=
  T.okP (N := ["stream", "item", "before", "other"]) B ⟨rfl, rfl, rfl, by decide +kernel, rfl, by decide +kernel, by decide +kernel⟩ (fun ds r ⟨_, _, _, _, e, _⟩ => by rw [e]; rfl) fun f cdv A outer s H E g ds r hX h => by
    obtain ⟨xs, x, hl, hx, rfl, rfl⟩ := h
    refine dss_set 2 hX.nd (d := iT (xs.take (xs.idxOf x))) (de_sl (de_var 0 rfl) do_none (do_some (de_index (de_var 0 rfl) rfl (de_var 1 rfl) hx)) (by rw [cutP_map, cutP_toN])) ?_
    refine dss_ret (de_len hX (da_cons (de_new (dlc [("other", 3)] PyData.int (xs.take (xs.idxOf x)) (fun y => decide (x < y)) PyData.int hX (di_tup (de_var 2 rfl)) rfl (blk_mk (by kernel_rfl)) (fun s H C cl fp => dg_name 3 hX.nd) (by decide) fun y hy =>
      turn_name (Nat.le_of_ble_eq_true rfl) (by decide) (fun g2 s2 H2 C2 cl2 fp2 => dts_one (dt_gt (de_var 3 rfl) (de_var 1 rfl))) fun _ g2 s2 H2 C2 cl2 fp2 => de_var 3 rfl).df) da_nil) rfl ?_) rfl
    rw [List.length_map]
    rfl

-- args: _law_late
theorem _law_ages_ok (B : Bi mg) (T : Top K mg "_law_ages" (top 27) ["stream"]) (D1 : Dn P w K mg base 1 "_law_late" p__law_late) : Dn P w K mg base 2 "_law_ages" p__law_ages :=
  T.okP (N := ["stream", "item"]) B ⟨rfl, rfl, rfl, by decide +kernel, rfl, by decide +kernel, by decide +kernel⟩ (fun ds r ⟨_, _, e, _⟩ => by rw [e]; rfl) fun f cdv A outer s H E g ds r hX h => by
    obtain ⟨xs, hl, rfl, rfl⟩ := h
    refine dss_ret (de_k ?_ (de_new (dlcM [("item", 1)] PyData.int (srt xs) (fun x => .int (lateI xs x : Nat)) hX (di_list (de_new (df_sorted (ns := xs) hX (da_cons (de_var 0 rfl) da_nil) rfl rfl))) rfl (blk_mk (by kernel_rfl)) (fun s H C cl fp => dg_name 1 hX.nd) (by decide) fun x hx =>
      turn_nameM (Nat.le_of_ble_eq_true rfl) (by decide) fun g' s H C cl fp => de_callP (X := blkOf _ _ s H C cl fp) [iT xs, .int x] D1 (hX.blk s H _ _ fp) (by decide) (da_cons (de_var 0 rfl) (da_cons (de_var 1 rfl) da_nil)) ⟨xs, x, hl, mem_srt.mp hx, rfl, rfl⟩).df)) rfl
    show PyData.list _ = PyData.list _
    unfold ages
    rw [List.map_map]
    rfl

abbrev p__law_build : RR := rP fun ds r => ∃ (items : List Int) (rows : List Nat), items.length ≤ 1000 ∧ rows.length = items.length ∧ ds = [iT items, iL (rows.map fun n : Nat => (n : Int))] ∧ r = .d (iT (bldR items rows))
theorem _law_build_ok (B : Bi mg) (T : Top K mg "_law_build" (top 28) ["items", "rows"]) : Dn P w K mg base 1 "_law_build" p__law_build :=
  T.okP (N := ["items", "rows", "stream", "index", "late"]) B ⟨rfl, rfl, rfl, by decide +kernel, rfl, by decide +kernel, by decide +kernel⟩ (fun ds r ⟨_, _, _, _, e, _⟩ => by rw [e]; rfl) fun f cdv A outer s H E g ds r hX h => by
    obtain ⟨items, rows, hl, hr, rfl, rfl⟩ := h
    refine dss_set 2 hX.nd (de_tup (ds := []) da_nil) ?_
    have hrg : RgC ((items.length : Int) - 1) (-1) (-1) items.length := by
      have := RgC.neg (i := (items.length : Int) - 1) (j := -1) (by omega) (by omega) (by decide) (by decide)
      rwa [show ((items.length : Int) - 1 - -1).toNat = items.length by omega] at this
    refine dss_for (fun j : Nat => PyData.int ((items.length : Int) - 1 + (j : Nat) * (-1))) (List.range items.length) (fun pre ρ => ∃ t3 t4, ρ = [.dat (iT items), .dat (iL (rows.map fun n : Nat => (n : Int))), .dat (iT (bldR (items.drop (items.length - pre.length)) (rows.drop (items.length - pre.length)))), t3, t4]) hX
      (di_range3 (m := (items.length : Int) - 1) (n := -1) (c := -1) hX (da_cons (de_sub (de_len (n := (items.length : Nat)) hX (da_cons ((de_var 0 rfl)) da_nil) rfl (by rw [List.length_map])) de_int) (da_cons (de_neg) (da_cons (de_neg) da_nil))) hrg (by omega)) rfl (dg_name 3 hX.nd) ⟨.any, .any, ?_⟩ ?_ ?_
    · rw [List.length_nil, Nat.sub_zero, List.drop_length, ← hr, List.drop_length]
      rfl
    · rintro pre j post ρi e ⟨t3, t4, rfl⟩
      have hj : j = pre.length ∧ pre.length < items.length := by
        have h1 : (List.range items.length)[pre.length]? = some j := by rw [e, List.getElem?_append_right (Nat.le_refl _), Nat.sub_self]; rfl
        obtain ⟨h2, h3⟩ := List.getElem?_eq_some_iff.mp h1
        rw [List.getElem_range] at h3
        exact ⟨h3.symm, by simpa using h2⟩
      obtain ⟨i, hi⟩ : ∃ i : Nat, i = items.length - 1 - pre.length := ⟨_, rfl⟩
      have hii : (items.length : Int) - 1 + (j : Nat) * (-1) = (i : Int) := by omega
      have hd1 : items.length - pre.length = i + 1 := by omega
      have hd2 : items.length - (pre ++ [j]).length = i := by rw [List.length_append]; show _ - (_ + 1) = _; omega
      have x1 : items[i]? = some (items[i]'(by omega)) := List.getElem?_eq_getElem _
      have l1 : rows[i]? = some (rows[i]'(by omega)) := List.getElem?_eq_getElem _
      generalize items[i]'(by omega) = x at x1
      generalize rows[i]'(by omega) = l at l1
      refine ⟨_, rfl, ?_⟩
      rw [hii, hd1]
      have hbl := bldR_drop x1 l1
      have hbn : (bldR (items.drop (i + 1)) (rows.drop (i + 1))).length ≤ 1000 := by
        rw [(bldR_perm (by rw [List.length_drop, List.length_drop, hr])).length_eq, List.length_drop]
        omega
      generalize bldR (items.drop (i + 1)) (rows.drop (i + 1)) = bl at hbl hbn ⊢
      refine dss_set 4 hX.nd (de_ix (d := .int (l : Nat)) (de_var 1 rfl) (de_var 3 rfl) rfl (atI_nat (by rw [List.getElem?_map, List.getElem?_map, l1]; rfl))) ?_
      refine dss_set 2 hX.nd (d := iT (insI l x bl)) (de_k ?_ (de_cat (ds := (bl.map .int).take l ++ [.int x]) (es := (bl.map .int).drop l) (de_cat (ds := (bl.map .int).take l) (es := [.int x]) (de_sl (de_var 2 rfl) do_none (do_some (de_var 4 rfl)) (cutP_toN _ _)) (de_tup (ds := [.int x]) (da_cons (de_ix (d := .int x) (de_var 0 rfl) (de_var 3 rfl) rfl (atI_nat (by rw [List.getElem?_map, x1]; rfl))) da_nil)) ?_) (de_sl (de_var 2 rfl) (do_some (de_var 4 rfl)) do_none (cutP_fromN _ _)) ?_)) (dss_nil ⟨.dat (.int (i : Nat)), .dat (.int (l : Nat)), ?_⟩)
      · unfold insI
        show PyData.tuple _ = PyData.tuple _
        rw [List.map_append, List.map_cons, List.map_take, List.map_drop, List.append_assoc]
        rfl
      · rw [List.length_take, List.length_map]
        show min l bl.length + 1 ≤ 16777216
        omega
      · rw [List.length_append, List.length_take, List.length_drop, List.length_map]
        show min l bl.length + 1 + (bl.length - l) ≤ 16777216
        omega
      · rw [hd2, hbl]
        rfl
    · rintro ρ' ⟨t3, t4, rfl⟩
      rw [List.length_range, Nat.sub_self]
      exact dss_ret (de_var 2 rfl) rfl

-- args: _law_build
abbrev rwD (row : List Nat) : Pd := iL (row.map fun n : Nat => (n : Int))
theorem rwD_snoc (row : List Nat) (l : Nat) : PyData.list ((row.map fun n : Nat => (n : Int)).map .int ++ [.int (l : Nat)]) = rwD (row ++ [l]) := by
  show _ = PyData.list (((row ++ [l]).map fun n : Nat => (n : Int)).map .int)
  rw [List.map_append, List.map_append]
  rfl
theorem lng_snoc (n i : Nat) (rows : List (List Nat)) (row : List Nat) : lng n i (rows ++ [row]) = lng n i rows ++ (List.range (n - i)).map fun late => row ++ [late] := by
  unfold lng
  rw [List.flatMap_append]
  simp
abbrev p__law_orders : RR := rP fun ds r => ∃ items : List Int, items.length ≤ 6 ∧ ds = [iT items] ∧ r = .d (.list ((ordR items).map iT))
theorem _law_orders_ok (B : Bi mg) (T : Top K mg "_law_orders" (top 29) ["items"]) (D1 : Dn P w K mg base 1 "_law_build" p__law_build) : Dn P w K mg base 2 "_law_orders" p__law_orders :=
  T.okP (N := ["items", "found", "rows", "index", "longer", "row", "late"]) B ⟨rfl, rfl, rfl, by decide +kernel, rfl, by decide +kernel, by decide +kernel⟩ (fun ds r ⟨_, _, e, _⟩ => by rw [e]; rfl) fun f cdv A outer s H E g ds r hX h => by
    obtain ⟨items, hl, rfl, rfl⟩ := h
    refine dss_new 1 hX.nd (df_lst (ds := []) da_nil) fun p1 => ?_
    refine dss_set 2 hX.nd (de_new (df_lst (ds := [.list []]) (da_cons (de_new (df_lst (ds := []) da_nil)) da_nil))) ?_
    refine dss_for (fun i : Nat => PyData.int (i : Nat)) (List.range items.length) (fun pre ρ => ∃ t3 t4 t5, ρ = [.dat (iT items), .own p1 (.lst []), .dat (.list ((rowsL items.length pre.length).map rwD)), t3, t4, t5, .any]) hX
      (di_range1 hX (da_cons (de_len (n := (items.length : Nat)) hX (da_cons ((de_var 0 rfl)) da_nil) rfl (by rw [List.length_map])) da_nil) ⟨by omega, by omega⟩) (rngD_map _) (dg_name 3 hX.nd) ⟨.any, .any, .any, rfl⟩ ?_ ?_
    · rintro pre i post ρi e ⟨t3, t4, t5, rfl⟩
      have hi : i = pre.length ∧ pre.length < items.length := by
        have h1 : (List.range items.length)[pre.length]? = some i := by rw [e, List.getElem?_append_right (Nat.le_refl _), Nat.sub_self]; rfl
        obtain ⟨h2, h3⟩ := List.getElem?_eq_some_iff.mp h1
        rw [List.getElem_range] at h3
        exact ⟨h3.symm, by simpa using h2⟩
      obtain ⟨rfl, hlt⟩ := hi
      refine ⟨_, rfl, ?_⟩
      refine dss_set 4 hX.nd (de_new (df_lst (ds := []) da_nil)) ?_
      have few1 : (rowsL items.length (pre.length + 1)).length ≤ 720 := rowsL_few hl (by omega)
      refine dss_for rwD (rowsL items.length pre.length) (fun pre2 ρ => ∃ t5, ρ = [.dat (iT items), .own p1 (.lst []), .dat (.list ((rowsL items.length pre.length).map rwD)), .dat (.int (pre.length : Nat)), .dat (.list ((lng items.length pre.length pre2).map rwD)), t5, .any]) hX
        (di_list (de_var 2 rfl)) rfl (dg_name 5 hX.nd) ⟨t5, rfl⟩ ?_ ?_
      · rintro pre2 row post2 ρi2 e2 ⟨t5, rfl⟩
        have hrl : row.length = pre.length := (rowsL_mem (n := items.length) (by rw [e2]; simp)).1
        have hb : (lng items.length pre.length pre2).length + (items.length - pre.length) ≤ 720 := by
          have h1 : rowsL items.length (pre.length + 1) = lng items.length pre.length (pre2 ++ [row]) ++ lng items.length pre.length post2 := by
            show lng _ _ _ = _
            rw [e2]
            unfold lng
            rw [← List.flatMap_append, List.append_assoc]
            rfl
          rw [h1, lng_snoc, List.length_append, List.length_append, List.length_map, List.length_range] at few1
          omega
        refine ⟨_, rfl, ?_⟩
        refine dss_set 4 hX.nd (d := .list ((lng items.length pre.length (pre2 ++ [row])).map rwD)) (de_k ?_ (de_new (df_cat (es := ((List.range (items.length - pre.length)).map fun late => rwD (row ++ [late]))) (de_var 4 rfl) (de_new (dlcM [("late", 6)] (fun l : Nat => PyData.int (l : Nat)) (List.range (items.length - pre.length)) (fun late => rwD (row ++ [late])) hX
          (di_range1 (n := (items.length : Int) - (pre.length : Int)) hX (da_cons (de_sub (de_len (n := (items.length : Nat)) hX (da_cons ((de_var 0 rfl)) da_nil) rfl (by rw [List.length_map])) (de_var 3 rfl)) da_nil) ⟨by omega, by omega⟩) ?_ (blk_mk (by kernel_rfl)) (fun s H C cl fp => dg_name 6 hX.nd) (by decide) fun x hx => turn_nameM (Nat.le_of_ble_eq_true rfl) (by decide) fun g' s H C cl fp =>
            de_k (rwD_snoc row x) (de_new (df_cat (X := blkOf _ _ s H C cl fp) (de_var 5 rfl) (de_new (df_lst (ds := [.int (x : Nat)]) (da_cons ((de_var 6 rfl)) da_nil))) rfl rfl ?_))).df) rfl rfl ?_))) (dss_nil ⟨.dat (rwD row), rfl⟩)
        · rw [lng_snoc, List.map_append, List.map_map]
          rfl
        · rw [show ((items.length : Int) - (pre.length : Int)).toNat = items.length - pre.length by omega]
          exact rngD_map _
        · rw [List.length_map, List.length_map, hrl]
          show pre.length + 1 ≤ 16777216
          omega
        · rw [List.length_map, List.length_map, List.length_range]
          omega
      · rintro ρ' ⟨t5, rfl⟩
        refine dss_set 2 hX.nd (de_var 4 rfl) (dss_nil ⟨.dat (.int (pre.length : Nat)), .dat (.list ((lng items.length pre.length (rowsL items.length pre.length)).map rwD)), t5, ?_⟩)
        rw [List.length_append]
        rfl
    · rintro ρ' ⟨t3, t4, t5, rfl⟩
      rw [List.length_range]
      have few : (rowsL items.length items.length).length ≤ 720 := rowsL_few hl hl
      refine dss_for rwD (rowsL items.length items.length) (fun pre ρ => ∃ t5, ρ = [.dat (iT items), .own p1 (.lst ((pre.map (bldR items)).map iT)), .dat (.list ((rowsL items.length items.length).map rwD)), t3, t4, t5, .any]) hX (di_list (de_var 2 rfl)) rfl (dg_name 5 hX.nd) ⟨t5, rfl⟩ ?_ ?_
      · rintro pre row post ρi e ⟨t5, rfl⟩
        have hrl : row.length = items.length := (rowsL_mem (n := items.length) (by rw [e]; simp)).1
        have hpl : pre.length ≤ 720 := by rw [e, List.length_append] at few; omega
        refine ⟨_, rfl, ?_⟩
        refine dss_expr (de_append (i := 1) (d := iT (bldR items row)) (de_own 1 rfl) rfl (de_callP [iT items, rwD row] D1 hX (by decide) (da_cons ((de_var 0 rfl)) (da_cons ((de_var 5 rfl)) da_nil)) ⟨items, row, by omega, hrl, rfl, rfl⟩) rfl (by rw [List.length_map, List.length_map]; omega)) (dss_nil ⟨.dat (rwD row), ?_⟩)
        rw [List.map_append, List.map_append]
        rfl
      · rintro ρ' ⟨t5, rfl⟩
        exact dss_ret (de_new (df_ownv 1 rfl)) rfl

-- args: _law_take disorder
abbrev p__law_swapped : RR := rBag 1 fun ds b d b' => ∃ xs : List Int, VS xs ∧ 1 < xs.length ∧ ds = [iT xs] ∧ d = .bool true ∧ b' = takeB b ((xs.length : Int) - 1)
theorem _law_swapped_right_ok (B : Bi mg) (T : Top K mg "_law_swapped_right" (top 30) ["bag", "stream"]) (D1 : Dn P w K mg base 1 "_law_take" p__law_take) (D2 : Dn P w K mg base 6 "disorder" p_disorder) : Dn P w K mg base 7 "_law_swapped_right" p__law_swapped :=
  T.okB (N := ["bag", "stream", "at", "other", "step"]) B ⟨rfl, rfl, rfl, by decide +kernel, rfl, by decide +kernel, by decide +kernel⟩ (fun o ds r o' ⟨_, _, _, _, _, ⟨_, _, _, e, _⟩, _⟩ => by rw [e]; rfl) fun f cdv A outer s H E g p o ds r o' hX h => by
    obtain ⟨n, b, d, b', hb, ⟨xs, V, hl1, rfl, rfl, rfl⟩, rfl, rfl, rfl⟩ := h
    have hl := V.len
    have hr := takeR_rng b (m := (xs.length : Int) - 1) (by omega)
    obtain ⟨i, hi⟩ : ∃ i : Nat, takeR b ((xs.length : Int) - 1) = (i : Int) := ⟨(takeR b ((xs.length : Int) - 1)).toNat, by omega⟩
    refine dss_set 2 hX.nd (d := .int (i : Nat)) (de_k (by rw [hi]) (de_take (m := (xs.length : Int) - 1) D1 hX (de_sub (de_len (n := (xs.length : Nat)) hX (da_cons ((de_var 1 rfl)) da_nil) rfl (by rw [List.length_map])) de_int) rfl (hb.mono (by omega)) ⟨by omega, by omega⟩ (de_own 0 rfl))) ?_
    have h1 : i + 1 < xs.length := by omega
    have e1 : xs = xs.take i ++ xs[i] :: xs[i + 1] :: xs.drop (i + 2) := by
      conv => lhs; rw [← List.take_append_drop i xs]
      rw [List.drop_eq_getElem_cons (show i < xs.length by omega), List.drop_eq_getElem_cons h1]
    have x1 : xs[i]? = some xs[i] := List.getElem?_eq_getElem _
    have x2 : xs[i + 1]? = some xs[i + 1] := List.getElem?_eq_getElem _
    generalize xs[i] = a at e1 x1
    generalize xs[i + 1] = c at e1 x2
    have hne : a ≠ c := fun z => by
      have := V.nd
      rw [e1, z] at this
      have := (List.nodup_append.mp this).2.1
      simp at this
    have hlt : (xs.take i).length = i := by rw [List.length_take]; omega
    have i1 : ((i : Nat) : Int) + 1 = ((i + 1 : Nat) : Int) := rfl
    have i2 : ((i : Nat) : Int) + 2 = ((i + 2 : Nat) : Int) := rfl
    refine dss_set 3 hX.nd (d := iT (xs.take i ++ c :: a :: xs.drop (i + 2))) (de_k ?_ (de_cat (ds := (xs.map .int).take i ++ [.int c, .int a]) (es := (xs.map .int).drop (i + 2)) (de_cat (ds := (xs.map .int).take i) (es := [.int c, .int a]) (de_sl (de_var 1 rfl) do_none (do_some (de_var 2 rfl)) (cutP_toN _ _)) (de_tup (ds := [.int c, .int a]) (da_cons (de_ix (d := .int c) (de_var 1 rfl) (de_k (by rw [← i1]) (de_add (de_var 2 rfl) de_int)) rfl (atI_nat (by rw [List.getElem?_map, x2]; rfl))) (da_cons (de_ix (d := .int a) (de_var 1 rfl) (de_var 2 rfl) rfl (atI_nat (by rw [List.getElem?_map, x1]; rfl))) da_nil))) ?_) (de_sl (de_var 1 rfl) (do_some (de_k (by rw [← i2]) (de_add (de_var 2 rfl) de_int))) do_none (cutP_fromN _ _)) ?_)) ?_
    · show PyData.tuple _ = PyData.tuple _
      rw [List.map_append, List.map_cons, List.map_cons, List.map_take, List.map_drop, List.append_assoc]
      rfl
    · rw [List.length_take, List.length_map]
      show min i xs.length + 2 ≤ 16777216
      omega
    · rw [List.length_append, List.length_take, List.length_drop, List.length_map]
      show min i xs.length + 2 + (xs.length - (i + 2)) ≤ 16777216
      omega
    refine dss_set 4 hX.nd (d := .int (if c < a then -1 else 1)) (de_ifE (k := decide (c < a)) (dt_gt (de_ix (d := .int a) (de_var 1 rfl) (de_var 2 rfl) rfl (atI_nat (by rw [List.getElem?_map, x1]; rfl))) (de_ix (d := .int c) (de_var 1 rfl) (de_k (by rw [← i1]) (de_add (de_var 2 rfl) de_int)) rfl (atI_nat (by rw [List.getElem?_map, x2]; rfl)))) (fun z => de_k (by rw [if_pos (of_decide_eq_true z)]) de_neg) (fun z => de_k (by rw [if_neg (of_decide_eq_false z)]) de_int)) ?_
    have pm : (xs.take i ++ c :: a :: xs.drop (i + 2)).Perm xs := by
      conv => rhs; rw [e1]
      exact (List.Perm.swap a c _).append_left _
    have hsw := inv_swap (xs.take i) (xs.drop (i + 2)) hne
    rw [← e1] at hsw
    refine dss_ret (de_eq hX (de_callP [iT (xs.take i ++ c :: a :: xs.drop (i + 2))] D2 hX (by decide) (da_cons ((de_var 3 rfl)) da_nil) ⟨_, V.perm pm, rfl, rfl⟩) (de_add (de_callP [iT xs] D2 hX (by decide) (da_cons ((de_var 1 rfl)) da_nil) ⟨xs, V, rfl, rfl⟩) (de_var 4 rfl)) rfl rfl shp_int shp_int ((emb_int _ _).trans (decide_eq_true hsw))) ⟨rfl, rfl⟩

-- args: _law_bags _law_items _law_orders _law_stream _law_ages _law_late _law_same lateness disorder stream_of _law_swapped_right
theorem law_all {f : Addr} {fd : FuncData} (B : Bi mg) (Fn : Fun K "law" "law" (top 31) f fd) (D0 : DnB P w K mg base 2) (D1 : Dn P w K mg base 2 "_law_items" p__law_items) (D2 : Dn P w K mg base 2 "_law_orders" p__law_orders) (D3 : Dn P w K mg base 3 "_law_stream" p__law_stream) (D4 : Dn P w K mg base 2 "_law_ages" p__law_ages) (D6 : Dn P w K mg base 1 "_law_late" p__law_late)
    (D5 : ∀ n, Dn P w K mg base (n + 1) "_law_same" (p_same n)) (D7 : Dn P w K mg base 6 "lateness" p_latenessO) (D8 : Dn P w K mg base 6 "disorder" p_disorder) (D9 : Dn P w K mg base 5 "stream_of" p_stream_of) (D10 : Dn P w K mg base 7 "_law_swapped_right" p__law_swapped) : FnOk P w K mg base CX0 9 f fd ["script"] (spLaw K 63) := by
  refine law_ok (N := ["script", "bag", "items", "orders", "stream", "rows", "pairs", "told", "item"]) (m := 6) (ib := 1) (k := 8) B Fn ⟨rfl, rfl, rfl, by decide +kernel, rfl, by decide +kernel, by decide +kernel⟩ rfl (let ⟨f, fd, ps, a, b⟩ := D0.ex; ⟨f, fd, ps, a.mono (by decide), b⟩) rfl (by decide) (by decide)
    (fun cdv A outer s H E => ⟨rfl, .inl rfl, (by first | exact .inl rfl | exact .inr rfl), rfl, rfl, rfl⟩) (fun cdv A outer s H E g p ns b hX hb => ?_) fun cdv A outer s H E g hX => dss_ret de_bl rfl
  obtain ⟨b0, eb, hok⟩ := bag_of (by decide) hb
  rw [eb]
  have hI := itemsP_it (b := b0) (most := 6) (by decide) (by decide)
  have hokI : okB 900000 (itemsP 6 b0).2 := itemsP_ok (by decide) (hok.mono (by decide))
  refine dss_set 2 hX.nd (de_callB' (i := 1) [.int 6] D1 hX (by decide) (da_cons ((de_own 1 rfl)) (da_cons (de_int) da_nil)) rfl ⟨900000, b0, _, _, hok.mono (by decide), ⟨6, by decide, by decide, rfl, rfl, rfl⟩, rfl, rfl, rfl⟩) ?_
  generalize (itemsP 6 b0).1 = its at hI
  generalize (itemsP 6 b0).2 = b1 at hokI
  have hIl := hI.len
  have VI : VS its := ⟨by omega, hI.rng, hI.nd⟩
  have hsI : srt its = its := (srt_unique (List.Perm.refl its) hI.pw).symm
  have hpw : its.Pairwise (· < ·) := by rw [← hsI]; exact srt_lt hI.nd
  have few := ordR_few hIl
  have hS := streamP_vs (b := b1) (most := 40) (by decide) (by decide)
  have hokS : okB 500000 (streamP 40 b1).2 := streamP_ok (by decide) (by decide) (hokI.mono (by decide))
  refine dss_set 3 hX.nd (de_callP [iT its] D2 hX (by decide) (da_cons ((de_var 2 rfl)) da_nil) ⟨its, hIl, rfl, rfl⟩) ?_
  refine dss_ifF (dt_k (b := !true) rfl (dt_ne hX (de_lenSetL hX (de_var 3 rfl) (by omega) (ordR_nodup hpw)) (de_len (n := ((ordR its).length : Nat)) hX (da_cons ((de_var 3 rfl)) da_nil) rfl (by rw [List.length_map])) rfl rfl shp_int shp_int ((emb_int _ _).trans (decide_eq_true rfl)))) ?_
  refine dss_for iT (ordR its) (fun pre ρ => ∃ t, ρ = [.any, .own p (bgO b1), .dat (iT its), .dat (.list ((ordR its).map iT)), t, .any, .any, .any, .any]) hX (di_list (de_var 3 rfl)) rfl (dg_name 4 hX.nd) ⟨.any, rfl⟩ ?_ ?_
  · rintro pre st post ρi e ⟨t, rfl⟩
    have hm : st ∈ ordR its := by rw [e]; simp
    have pm := ordR_perm hm
    have hst : srt st = its := (srt_unique pm.symm hI.pw).symm
    obtain ⟨bl, ok⟩ := bld_ages hpw pm
    have hag : ages st = (its.map (lateI st)).map fun n : Nat => (n : Int) := by unfold ages; rw [hst, List.map_map]; rfl
    have hsl : st.length ≤ 1000 := by rw [pm.length_eq]; omega
    refine ⟨_, rfl, ?_⟩
    refine dss_ifF (PW.pt (dw_orF (dt_k (b := !true) rfl (dt_ne hX (de_tuple (ds := (srt st).map .int) hX (da_cons (de_new (df_sorted (ns := st) hX (da_cons ((de_var 4 rfl)) da_nil) rfl rfl)) da_nil) rfl) (de_var 2 rfl) rfl rfl shp_iT shp_iT (eqv_iT.trans (decide_eq_true hst))))
      (dw_or1 (dt_k (b := !true) rfl (dt_ne hX (de_callP [iT its, iL ((its.map (lateI st)).map fun n : Nat => (n : Int))] D9 hX (by decide) (da_cons ((de_var 2 rfl)) (da_cons (de_k (congrArg iL hag) (de_callP [iT st] D4 hX (by decide) (da_cons ((de_var 4 rfl)) da_nil) ⟨st, hsl, rfl, rfl⟩)) da_nil)) ⟨its, its.map (lateI st), VI, hpw, List.length_map _, ok, rfl, rfl⟩) (de_var 4 rfl) rfl rfl shp_iT shp_iT (eqv_iT.trans (decide_eq_true bl))))))) (dss_nil ⟨_, rfl⟩)
  rintro ρ' ⟨t, rfl⟩
  refine dss_set 4 hX.nd (de_callB' (i := 1) [.int 40] D3 hX (by decide) (da_cons ((de_own 1 rfl)) (da_cons (de_int) da_nil)) rfl ⟨500000, b1, _, _, hokI.mono (by decide), ⟨40, by decide, by decide, rfl, rfl, rfl⟩, rfl, rfl, rfl⟩) ?_
  generalize (streamP 40 b1).1 = xs at hS
  generalize (streamP 40 b1).2 = b2 at hokS
  have hl := hS.len
  have hnd := hS.nd
  refine dss_newLc 5 (dlc_k (o' := .lst ((ltn xs).map .int)) (by rw [ltn_eq hnd, List.map_map]; rfl) (dlcM [("item", 8)] PyData.int xs (fun x => .int (lateI xs x : Nat)) hX (di_tup (de_var 4 rfl)) rfl (blk_mk (by kernel_rfl)) (fun s H C cl fp => dg_name 8 hX.nd) (by decide) fun x hx =>
    turn_nameM (Nat.le_of_ble_eq_true rfl) (by decide) fun g' s H C cl fp => de_callP (X := blkOf _ _ s H C cl fp) [iT xs, .int x] D6 (hX.blk s H _ _ fp) (by decide) (da_cons ((de_var 4 rfl)) (da_cons ((de_var 8 rfl)) da_nil)) ⟨xs, x, by omega, hx, rfl, rfl⟩)) fun p5 => ?_
  have sh2 : Sh 2 (.list [iL (ltn xs), .int (ltn xs).sum]) := sh_list (n := 1) fun d hd => by
    rcases List.mem_cons.mp hd with z | z
    · rw [z]; exact sh_iL
    · rw [List.mem_singleton.mp z]; exact sh_int
  refine dss_ifF (ρ1 := [.any, .own p (bgO b2), .dat (iT its), .dat (.list ((ordR its).map iT)), .dat (iT xs), .dat (iL (ltn xs)), .any, .any, .any]) (dt_not (k := true) (dt_val (de_callP [.list [iL (ltn xs), .int (ltn xs).sum], .list [iL (ltn xs), .int (ltn xs).sum]] (D5 2) hX (by decide) (da_cons (de_new (df_lst (ds := [iL (ltn xs), .int (ltn xs).sum]) (da_cons (de_new (df_callP [iT xs] D7 hX (by decide) (da_cons ((de_var 4 rfl)) da_nil) ⟨xs, hS, rfl, rfl⟩)) (da_cons (de_callP [iT xs] D8 hX (by decide) (da_cons ((de_var 4 rfl)) da_nil) ⟨xs, hS, rfl, rfl⟩) da_nil)))) (da_cons (de_new (df_lst (ds := [iL (ltn xs), .int (ltn xs).sum]) (da_cons (de_frzv 5 rfl) (da_cons (de_sum (ns := ltn xs) hX (da_cons ((de_var 5 rfl)) da_nil) rfl) da_nil)))) da_nil)) ⟨_, _, rfl, sh2, sh2, by rw [sm_self]⟩))) ?_
  obtain ⟨bl, ok⟩ := bld_ages (srt_lt hnd) (srt_perm xs).symm
  have hag : ages xs = ((srt xs).map (lateI xs)).map fun n : Nat => (n : Int) := by unfold ages; rw [List.map_map]; rfl
  refine dss_ifF (dt_not (k := true) (dt_val (de_callP [iT xs, iT xs] (D5 1) hX (by decide) (da_cons (de_k (congrArg iT bl) (de_callP [iT (srt xs), iL (((srt xs).map (lateI xs)).map fun n : Nat => (n : Int))] D9 hX (by decide) (da_cons (de_tuple (ds := (srt xs).map .int) hX (da_cons (de_new (df_sorted (ns := xs) hX (da_cons ((de_var 4 rfl)) da_nil) rfl rfl)) da_nil) rfl) (da_cons (de_k (congrArg iL hag) (de_callP [iT xs] D4 hX (by decide) (da_cons ((de_var 4 rfl)) da_nil) ⟨xs, by omega, rfl, rfl⟩)) da_nil)) ⟨srt xs, (srt xs).map (lateI xs), hS.perm (srt_perm xs), srt_lt hnd, List.length_map _, ok, rfl, rfl⟩)) (da_cons ((de_var 4 rfl)) da_nil)) ⟨_, _, rfl, sh_iT, sh_iT, by rw [sm_self]⟩))) ?_
  obtain ⟨b3, hb3⟩ : ∃ b3, b3 = if 1 < xs.length then takeB b2 ((xs.length : Int) - 1) else b2 := ⟨_, rfl⟩
  refine dss_ifF (ρ1 := [.any, .own p (bgO b3), .dat (iT its), .dat (.list ((ordR its).map iT)), .dat (iT xs), .dat (iL (ltn xs)), .any, .any, .any]) ?_ ?_
  · by_cases hc : 1 < xs.length
    · rw [if_pos hc] at hb3
      subst hb3
      exact PW.pt (dw_andT (dt_k (decide_eq_true (show (1 : Int) < (xs.length : Nat) by omega)) (dt_gt (de_len (n := (xs.length : Nat)) hX (da_cons ((de_var 4 rfl)) da_nil) rfl (by rw [List.length_map])) de_int)) (dw_and1 (dt_not (k := true) (dt_val (de_callB' (i := 1) [iT xs] D10 hX (by decide) (da_cons ((de_own 1 rfl)) (da_cons ((de_var 4 rfl)) da_nil)) rfl ⟨400000, b2, _, _, hokS.mono (by decide), ⟨xs, hS, hc, rfl, rfl, rfl⟩, rfl, rfl, rfl⟩)))))
    · rw [if_neg hc] at hb3
      subst hb3
      exact PW.pt (dw_andF (dt_k (decide_eq_false (show ¬ (1 : Int) < (xs.length : Nat) by omega)) (dt_gt (de_len (n := (xs.length : Nat)) hX (da_cons ((de_var 4 rfl)) da_nil) rfl (by rw [List.length_map])) de_int)))
  have hml : CMul (xs.length : Nat) ((xs.length : Int) - 1) := by unfold CMul; omega
  refine dss_set 6 hX.nd (de_fdiv (i := (xs.length : Int) * ((xs.length : Int) - 1)) (j := 2) (by unfold CDivW; decide) (de_mulS hml (de_len (n := (xs.length : Nat)) hX (da_cons ((de_var 4 rfl)) da_nil) rfl (by rw [List.length_map])) (de_sub (de_len (n := (xs.length : Nat)) hX (da_cons ((de_var 4 rfl)) da_nil) rfl (by rw [List.length_map])) de_int)) de_int) ?_
  have hpr := inv_pairs hnd
  refine dss_ifF (dt_k (b := !true) rfl (dt_ne hX (de_add (de_callP [iT xs.reverse] D8 hX (by decide) (da_cons (de_k (by rw [← List.map_reverse]) (de_rev (de_var 4 rfl))) da_nil) ⟨xs.reverse, hS.perm (List.reverse_perm xs), rfl, rfl⟩) (de_sum (ns := ltn xs) hX (da_cons ((de_var 5 rfl)) da_nil) rfl)) (de_var 6 rfl) rfl rfl shp_int shp_int ((emb_int _ _).trans (decide_eq_true hpr)))) ?_
  refine dss_new 7 hX.nd (df_callP [iT xs] D7 hX (by decide) (da_cons ((de_var 4 rfl)) da_nil) ⟨xs, hS, rfl, rfl⟩) fun p7 => ?_
  refine dss_expr (de_append (i := 7) (d := .none) (de_own 7 rfl) rfl de_non rfl (by rw [List.length_map, ltn_length]; omega)) ?_
  exact dss_ifF (dt_k (b := !true) rfl (dt_ne hX (de_new (df_callP [iT xs] D7 hX (by decide) (da_cons ((de_var 4 rfl)) da_nil) ⟨xs, hS, rfl, rfl⟩)) (de_var 5 rfl) rfl rfl shp_iL shp_iL (eqv_iL.trans (decide_eq_true rfl)))) (dss_nil rfl)

end
theorem all_mk {l : PySem.W.OpenLaw} {w : World} {K : PySem.W.Frag} {h : Heap} {mg : Str → Option Value} {fa : Addr} (X : K.In h) (G : h.Ns mainGlobals mg) (hfa : mg "law" = some (.ref fa))
    (G_MAX_TIME : GlI mg "MAX_TIME" 1000000)
    (G_MAX_ITEMS : GlI mg "MAX_ITEMS" 40)
    {f0 : Addr} {oc0 : Value} {od0 an0 : Option Addr} {kV0 dc0 pm0 cd0 ct0 : Value} {sl0 : Array (Option Value)}
    (a0 : PySem.W.nsIn K mainGlobals "is_integer" = some (some (.ref f0))) (l0 : K.lookup f0 = some ⟨oc0, od0, .func (PySem.W.fnOf "is_integer" "is_integer" (defArgs (top 7)) (defBody (top 7)) (defScope (top 7)) .none kV0 dc0 pm0 an0 cd0 ct0), sl0⟩) (c0 : PySem.W.codeIn K cd0 "is_integer" = true) (k0 : PySem.W.keepIn K (.ref f0) = true)
    {f1 : Addr} {oc1 : Value} {od1 an1 : Option Addr} {kV1 dc1 pm1 cd1 ct1 : Value} {sl1 : Array (Option Value)}
    (a1 : PySem.W.nsIn K mainGlobals "in_range" = some (some (.ref f1))) (l1 : K.lookup f1 = some ⟨oc1, od1, .func (PySem.W.fnOf "in_range" "in_range" (defArgs (top 8)) (defBody (top 8)) (defScope (top 8)) .none kV1 dc1 pm1 an1 cd1 ct1), sl1⟩) (c1 : PySem.W.codeIn K cd1 "in_range" = true) (k1 : PySem.W.keepIn K (.ref f1) = true)
    {f2 : Addr} {oc2 : Value} {od2 an2 : Option Addr} {kV2 dc2 pm2 cd2 ct2 : Value} {sl2 : Array (Option Value)}
    (a2 : PySem.W.nsIn K mainGlobals "is_item" = some (some (.ref f2))) (l2 : K.lookup f2 = some ⟨oc2, od2, .func (PySem.W.fnOf "is_item" "is_item" (defArgs (top 9)) (defBody (top 9)) (defScope (top 9)) .none kV2 dc2 pm2 an2 cd2 ct2), sl2⟩) (c2 : PySem.W.codeIn K cd2 "is_item" = true) (k2 : PySem.W.keepIn K (.ref f2) = true)
    {f3 : Addr} {oc3 : Value} {od3 an3 : Option Addr} {kV3 dc3 pm3 cd3 ct3 : Value} {sl3 : Array (Option Value)}
    (a3 : PySem.W.nsIn K mainGlobals "is_stream" = some (some (.ref f3))) (l3 : K.lookup f3 = some ⟨oc3, od3, .func (PySem.W.fnOf "is_stream" "is_stream" (defArgs (top 10)) (defBody (top 10)) (defScope (top 10)) .none kV3 dc3 pm3 an3 cd3 ct3), sl3⟩) (c3 : PySem.W.codeIn K cd3 "is_stream" = true) (k3 : PySem.W.keepIn K (.ref f3) = true)
    {f4 : Addr} {oc4 : Value} {od4 an4 : Option Addr} {kV4 dc4 pm4 cd4 ct4 : Value} {sl4 : Array (Option Value)}
    (a4 : PySem.W.nsIn K mainGlobals "check_stream" = some (some (.ref f4))) (l4 : K.lookup f4 = some ⟨oc4, od4, .func (PySem.W.fnOf "check_stream" "check_stream" (defArgs (top 11)) (defBody (top 11)) (defScope (top 11)) .none kV4 dc4 pm4 an4 cd4 ct4), sl4⟩) (c4 : PySem.W.codeIn K cd4 "check_stream" = true) (k4 : PySem.W.keepIn K (.ref f4) = true)
    {f5 : Addr} {oc5 : Value} {od5 an5 : Option Addr} {kV5 dc5 pm5 cd5 ct5 : Value} {sl5 : Array (Option Value)}
    (a5 : PySem.W.nsIn K mainGlobals "lateness_of" = some (some (.ref f5))) (l5 : K.lookup f5 = some ⟨oc5, od5, .func (PySem.W.fnOf "lateness_of" "lateness_of" (defArgs (top 12)) (defBody (top 12)) (defScope (top 12)) .none kV5 dc5 pm5 an5 cd5 ct5), sl5⟩) (c5 : PySem.W.codeIn K cd5 "lateness_of" = true) (k5 : PySem.W.keepIn K (.ref f5) = true)
    {f6 : Addr} {oc6 : Value} {od6 an6 : Option Addr} {kV6 dc6 pm6 cd6 ct6 : Value} {sl6 : Array (Option Value)}
    (a6 : PySem.W.nsIn K mainGlobals "lateness" = some (some (.ref f6))) (l6 : K.lookup f6 = some ⟨oc6, od6, .func (PySem.W.fnOf "lateness" "lateness" (defArgs (top 13)) (defBody (top 13)) (defScope (top 13)) .none kV6 dc6 pm6 an6 cd6 ct6), sl6⟩) (c6 : PySem.W.codeIn K cd6 "lateness" = true) (k6 : PySem.W.keepIn K (.ref f6) = true)
    {f7 : Addr} {oc7 : Value} {od7 an7 : Option Addr} {kV7 dc7 pm7 cd7 ct7 : Value} {sl7 : Array (Option Value)}
    (a7 : PySem.W.nsIn K mainGlobals "is_ascending" = some (some (.ref f7))) (l7 : K.lookup f7 = some ⟨oc7, od7, .func (PySem.W.fnOf "is_ascending" "is_ascending" (defArgs (top 14)) (defBody (top 14)) (defScope (top 14)) .none kV7 dc7 pm7 an7 cd7 ct7), sl7⟩) (c7 : PySem.W.codeIn K cd7 "is_ascending" = true) (k7 : PySem.W.keepIn K (.ref f7) = true)
    {f8 : Addr} {oc8 : Value} {od8 an8 : Option Addr} {kV8 dc8 pm8 cd8 ct8 : Value} {sl8 : Array (Option Value)}
    (a8 : PySem.W.nsIn K mainGlobals "build" = some (some (.ref f8))) (l8 : K.lookup f8 = some ⟨oc8, od8, .func (PySem.W.fnOf "build" "build" (defArgs (top 15)) (defBody (top 15)) (defScope (top 15)) .none kV8 dc8 pm8 an8 cd8 ct8), sl8⟩) (c8 : PySem.W.codeIn K cd8 "build" = true) (k8 : PySem.W.keepIn K (.ref f8) = true)
    {f9 : Addr} {oc9 : Value} {od9 an9 : Option Addr} {kV9 dc9 pm9 cd9 ct9 : Value} {sl9 : Array (Option Value)}
    (a9 : PySem.W.nsIn K mainGlobals "is_lateness" = some (some (.ref f9))) (l9 : K.lookup f9 = some ⟨oc9, od9, .func (PySem.W.fnOf "is_lateness" "is_lateness" (defArgs (top 16)) (defBody (top 16)) (defScope (top 16)) .none kV9 dc9 pm9 an9 cd9 ct9), sl9⟩) (c9 : PySem.W.codeIn K cd9 "is_lateness" = true) (k9 : PySem.W.keepIn K (.ref f9) = true)
    {f10 : Addr} {oc10 : Value} {od10 an10 : Option Addr} {kV10 dc10 pm10 cd10 ct10 : Value} {sl10 : Array (Option Value)}
    (a10 : PySem.W.nsIn K mainGlobals "stream_of" = some (some (.ref f10))) (l10 : K.lookup f10 = some ⟨oc10, od10, .func (PySem.W.fnOf "stream_of" "stream_of" (defArgs (top 17)) (defBody (top 17)) (defScope (top 17)) .none kV10 dc10 pm10 an10 cd10 ct10), sl10⟩) (c10 : PySem.W.codeIn K cd10 "stream_of" = true) (k10 : PySem.W.keepIn K (.ref f10) = true)
    {f11 : Addr} {oc11 : Value} {od11 an11 : Option Addr} {kV11 dc11 pm11 cd11 ct11 : Value} {sl11 : Array (Option Value)}
    (a11 : PySem.W.nsIn K mainGlobals "disorder" = some (some (.ref f11))) (l11 : K.lookup f11 = some ⟨oc11, od11, .func (PySem.W.fnOf "disorder" "disorder" (defArgs (top 18)) (defBody (top 18)) (defScope (top 18)) .none kV11 dc11 pm11 an11 cd11 ct11), sl11⟩) (c11 : PySem.W.codeIn K cd11 "disorder" = true) (k11 : PySem.W.keepIn K (.ref f11) = true)
    {f12 : Addr} {oc12 : Value} {od12 an12 : Option Addr} {kV12 dc12 pm12 cd12 ct12 : Value} {sl12 : Array (Option Value)}
    (a12 : PySem.W.nsIn K mainGlobals "_law_well" = some (some (.ref f12))) (l12 : K.lookup f12 = some ⟨oc12, od12, .func (PySem.W.fnOf "_law_well" "_law_well" (defArgs (top 20)) (defBody (top 20)) (defScope (top 20)) .none kV12 dc12 pm12 an12 cd12 ct12), sl12⟩) (c12 : PySem.W.codeIn K cd12 "_law_well" = true) (k12 : PySem.W.keepIn K (.ref f12) = true)
    {f13 : Addr} {oc13 : Value} {od13 an13 : Option Addr} {kV13 dc13 pm13 cd13 ct13 : Value} {sl13 : Array (Option Value)}
    (a13 : PySem.W.nsIn K mainGlobals "_law_take" = some (some (.ref f13))) (l13 : K.lookup f13 = some ⟨oc13, od13, .func (PySem.W.fnOf "_law_take" "_law_take" (defArgs (top 21)) (defBody (top 21)) (defScope (top 21)) .none kV13 dc13 pm13 an13 cd13 ct13), sl13⟩) (c13 : PySem.W.codeIn K cd13 "_law_take" = true) (k13 : PySem.W.keepIn K (.ref f13) = true)
    {f14 : Addr} {oc14 : Value} {od14 an14 : Option Addr} {kV14 dc14 pm14 cd14 ct14 : Value} {sl14 : Array (Option Value)}
    (a14 : PySem.W.nsIn K mainGlobals "_law_bags" = some (some (.ref f14))) (l14 : K.lookup f14 = some ⟨oc14, od14, .func (PySem.W.fnOf "_law_bags" "_law_bags" (defArgs (top 22)) (defBody (top 22)) (defScope (top 22)) .none kV14 dc14 pm14 an14 cd14 ct14), sl14⟩) (c14 : PySem.W.codeIn K cd14 "_law_bags" = true) (k14 : PySem.W.keepIn K (.ref f14) = true)
    {f15 : Addr} {oc15 : Value} {od15 an15 : Option Addr} {kV15 dc15 pm15 cd15 ct15 : Value} {sl15 : Array (Option Value)}
    (a15 : PySem.W.nsIn K mainGlobals "_law_same" = some (some (.ref f15))) (l15 : K.lookup f15 = some ⟨oc15, od15, .func (PySem.W.fnOf "_law_same" "_law_same" (defArgs (top 23)) (defBody (top 23)) (defScope (top 23)) .none kV15 dc15 pm15 an15 cd15 ct15), sl15⟩) (c15 : PySem.W.codeIn K cd15 "_law_same" = true) (k15 : PySem.W.keepIn K (.ref f15) = true)
    {f16 : Addr} {oc16 : Value} {od16 an16 : Option Addr} {kV16 dc16 pm16 cd16 ct16 : Value} {sl16 : Array (Option Value)}
    (a16 : PySem.W.nsIn K mainGlobals "_law_items" = some (some (.ref f16))) (l16 : K.lookup f16 = some ⟨oc16, od16, .func (PySem.W.fnOf "_law_items" "_law_items" (defArgs (top 24)) (defBody (top 24)) (defScope (top 24)) .none kV16 dc16 pm16 an16 cd16 ct16), sl16⟩) (c16 : PySem.W.codeIn K cd16 "_law_items" = true) (k16 : PySem.W.keepIn K (.ref f16) = true)
    {f17 : Addr} {oc17 : Value} {od17 an17 : Option Addr} {kV17 dc17 pm17 cd17 ct17 : Value} {sl17 : Array (Option Value)}
    (a17 : PySem.W.nsIn K mainGlobals "_law_stream" = some (some (.ref f17))) (l17 : K.lookup f17 = some ⟨oc17, od17, .func (PySem.W.fnOf "_law_stream" "_law_stream" (defArgs (top 25)) (defBody (top 25)) (defScope (top 25)) .none kV17 dc17 pm17 an17 cd17 ct17), sl17⟩) (c17 : PySem.W.codeIn K cd17 "_law_stream" = true) (k17 : PySem.W.keepIn K (.ref f17) = true)
    {f18 : Addr} {oc18 : Value} {od18 an18 : Option Addr} {kV18 dc18 pm18 cd18 ct18 : Value} {sl18 : Array (Option Value)}
    (a18 : PySem.W.nsIn K mainGlobals "_law_late" = some (some (.ref f18))) (l18 : K.lookup f18 = some ⟨oc18, od18, .func (PySem.W.fnOf "_law_late" "_law_late" (defArgs (top 26)) (defBody (top 26)) (defScope (top 26)) .none kV18 dc18 pm18 an18 cd18 ct18), sl18⟩) (c18 : PySem.W.codeIn K cd18 "_law_late" = true) (k18 : PySem.W.keepIn K (.ref f18) = true)
    {f19 : Addr} {oc19 : Value} {od19 an19 : Option Addr} {kV19 dc19 pm19 cd19 ct19 : Value} {sl19 : Array (Option Value)}
    (a19 : PySem.W.nsIn K mainGlobals "_law_ages" = some (some (.ref f19))) (l19 : K.lookup f19 = some ⟨oc19, od19, .func (PySem.W.fnOf "_law_ages" "_law_ages" (defArgs (top 27)) (defBody (top 27)) (defScope (top 27)) .none kV19 dc19 pm19 an19 cd19 ct19), sl19⟩) (c19 : PySem.W.codeIn K cd19 "_law_ages" = true) (k19 : PySem.W.keepIn K (.ref f19) = true)
    {f20 : Addr} {oc20 : Value} {od20 an20 : Option Addr} {kV20 dc20 pm20 cd20 ct20 : Value} {sl20 : Array (Option Value)}
    (a20 : PySem.W.nsIn K mainGlobals "_law_build" = some (some (.ref f20))) (l20 : K.lookup f20 = some ⟨oc20, od20, .func (PySem.W.fnOf "_law_build" "_law_build" (defArgs (top 28)) (defBody (top 28)) (defScope (top 28)) .none kV20 dc20 pm20 an20 cd20 ct20), sl20⟩) (c20 : PySem.W.codeIn K cd20 "_law_build" = true) (k20 : PySem.W.keepIn K (.ref f20) = true)
    {f21 : Addr} {oc21 : Value} {od21 an21 : Option Addr} {kV21 dc21 pm21 cd21 ct21 : Value} {sl21 : Array (Option Value)}
    (a21 : PySem.W.nsIn K mainGlobals "_law_orders" = some (some (.ref f21))) (l21 : K.lookup f21 = some ⟨oc21, od21, .func (PySem.W.fnOf "_law_orders" "_law_orders" (defArgs (top 29)) (defBody (top 29)) (defScope (top 29)) .none kV21 dc21 pm21 an21 cd21 ct21), sl21⟩) (c21 : PySem.W.codeIn K cd21 "_law_orders" = true) (k21 : PySem.W.keepIn K (.ref f21) = true)
    {f22 : Addr} {oc22 : Value} {od22 an22 : Option Addr} {kV22 dc22 pm22 cd22 ct22 : Value} {sl22 : Array (Option Value)}
    (a22 : PySem.W.nsIn K mainGlobals "_law_swapped_right" = some (some (.ref f22))) (l22 : K.lookup f22 = some ⟨oc22, od22, .func (PySem.W.fnOf "_law_swapped_right" "_law_swapped_right" (defArgs (top 30)) (defBody (top 30)) (defScope (top 30)) .none kV22 dc22 pm22 an22 cd22 ct22), sl22⟩) (c22 : PySem.W.codeIn K cd22 "_law_swapped_right" = true) (k22 : PySem.W.keepIn K (.ref f22) = true)
    {f23 : Addr} {oc23 : Value} {od23 an23 : Option Addr} {kV23 dc23 pm23 cd23 ct23 : Value} {sl23 : Array (Option Value)}
    (a23 : PySem.W.nsIn K mainGlobals "law" = some (some (.ref f23))) (l23 : K.lookup f23 = some ⟨oc23, od23, .func (PySem.W.fnOf "law" "law" (defArgs (top 31)) (defBody (top 31)) (defScope (top 31)) .none kV23 dc23 pm23 an23 cd23 ct23), sl23⟩) (c23 : PySem.W.codeIn K cd23 "law" = true) (k23 : PySem.W.keepIn K (.ref f23) = true)
    (z_len : PySem.W.nsIn K mainGlobals "len" = some none) (z_tuple : PySem.W.nsIn K mainGlobals "tuple" = some none) (z_list : PySem.W.nsIn K mainGlobals "list" = some none) (z_dict : PySem.W.nsIn K mainGlobals "dict" = some none) (z_set : PySem.W.nsIn K mainGlobals "set" = some none) (z_sorted : PySem.W.nsIn K mainGlobals "sorted" = some none) (z_range : PySem.W.nsIn K mainGlobals "range" = some none) (z_enumerate : PySem.W.nsIn K mainGlobals "enumerate" = some none) (z_zip : PySem.W.nsIn K mainGlobals "zip" = some none) (z_min : PySem.W.nsIn K mainGlobals "min" = some none) (z_max : PySem.W.nsIn K mainGlobals "max" = some none) (z_sum : PySem.W.nsIn K mainGlobals "sum" = some none) (z_all : PySem.W.nsIn K mainGlobals "all" = some none) (z_isinstance : PySem.W.nsIn K mainGlobals "isinstance" = some none) (z_int : PySem.W.nsIn K mainGlobals "int" = some none) (z_bool : PySem.W.nsIn K mainGlobals "bool" = some none) (z_str : PySem.W.nsIn K mainGlobals "str" = some none)
    : ∃ fd : FuncData, (∀ (s : Shared) (v : Value), BindsTo s fd ⟨[v], []⟩ [("script", v)]) ∧ ∀ base : Heap, K.In base → base.Ns mainGlobals mg → FnOk l.prog w K mg base CX0 9 fa fd ["script"] (spLaw K 63) := by
  have B : Bi mg := ⟨PySem.W.mg_none_of X G z_len, PySem.W.mg_none_of X G z_tuple, PySem.W.mg_none_of X G z_list, PySem.W.mg_none_of X G z_dict, PySem.W.mg_none_of X G z_set, PySem.W.mg_none_of X G z_sorted, PySem.W.mg_none_of X G z_range, PySem.W.mg_none_of X G z_enumerate, PySem.W.mg_none_of X G z_zip, PySem.W.mg_none_of X G z_min, PySem.W.mg_none_of X G z_max, PySem.W.mg_none_of X G z_sum, PySem.W.mg_none_of X G z_all, PySem.W.mg_none_of X G z_isinstance, PySem.W.mg_none_of X G z_int, PySem.W.mg_none_of X G z_bool, PySem.W.mg_none_of X G z_str⟩
  have T_is_integer : Top K mg "is_integer" (top 7) ["value"] := top_mk X G a0 l0 c0 k0 fun _ _ _ _ _ _ us hl => match us, hl with | [_], _ => rfl
  have T_in_range : Top K mg "in_range" (top 8) ["value", "low", "high"] := top_mk X G a1 l1 c1 k1 fun _ _ _ _ _ _ us hl => match us, hl with | [_, _, _], _ => rfl
  have T_is_item : Top K mg "is_item" (top 9) ["value"] := top_mk X G a2 l2 c2 k2 fun _ _ _ _ _ _ us hl => match us, hl with | [_], _ => rfl
  have T_is_stream : Top K mg "is_stream" (top 10) ["value"] := top_mk X G a3 l3 c3 k3 fun _ _ _ _ _ _ us hl => match us, hl with | [_], _ => rfl
  have T_check_stream : Top K mg "check_stream" (top 11) ["stream"] := top_mk X G a4 l4 c4 k4 fun _ _ _ _ _ _ us hl => match us, hl with | [_], _ => rfl
  have T_lateness_of : Top K mg "lateness_of" (top 12) ["stream"] := top_mk X G a5 l5 c5 k5 fun _ _ _ _ _ _ us hl => match us, hl with | [_], _ => rfl
  have T_lateness : Top K mg "lateness" (top 13) ["stream"] := top_mk X G a6 l6 c6 k6 fun _ _ _ _ _ _ us hl => match us, hl with | [_], _ => rfl
  have T_is_ascending : Top K mg "is_ascending" (top 14) ["value"] := top_mk X G a7 l7 c7 k7 fun _ _ _ _ _ _ us hl => match us, hl with | [_], _ => rfl
  have T_build : Top K mg "build" (top 15) ["items", "rows"] := top_mk X G a8 l8 c8 k8 fun _ _ _ _ _ _ us hl => match us, hl with | [_, _], _ => rfl
  have T_is_lateness : Top K mg "is_lateness" (top 16) ["items", "value"] := top_mk X G a9 l9 c9 k9 fun _ _ _ _ _ _ us hl => match us, hl with | [_, _], _ => rfl
  have T_stream_of : Top K mg "stream_of" (top 17) ["items", "rows"] := top_mk X G a10 l10 c10 k10 fun _ _ _ _ _ _ us hl => match us, hl with | [_, _], _ => rfl
  have T_disorder : Top K mg "disorder" (top 18) ["stream"] := top_mk X G a11 l11 c11 k11 fun _ _ _ _ _ _ us hl => match us, hl with | [_], _ => rfl
  have T__law_well : Top K mg "_law_well" (top 20) ["cell", "turn"] := top_mk X G a12 l12 c12 k12 fun _ _ _ _ _ _ us hl => match us, hl with | [_, _], _ => rfl
  have T__law_take : Top K mg "_law_take" (top 21) ["bag", "many"] := top_mk X G a13 l13 c13 k13 fun _ _ _ _ _ _ us hl => match us, hl with | [_, _], _ => rfl
  have T__law_bags : Top K mg "_law_bags" (top 22) ["script", "most"] := top_mk X G a14 l14 c14 k14 fun _ _ _ _ _ _ us hl => match us, hl with | [_, _], _ => rfl
  have T__law_same : Top K mg "_law_same" (top 23) ["a", "b"] := top_mk X G a15 l15 c15 k15 fun _ _ _ _ _ _ us hl => match us, hl with | [_, _], _ => rfl
  have T__law_items : Top K mg "_law_items" (top 24) ["bag", "most"] := top_mk X G a16 l16 c16 k16 fun _ _ _ _ _ _ us hl => match us, hl with | [_, _], _ => rfl
  have T__law_stream : Top K mg "_law_stream" (top 25) ["bag", "most"] := top_mk X G a17 l17 c17 k17 fun _ _ _ _ _ _ us hl => match us, hl with | [_, _], _ => rfl
  have T__law_late : Top K mg "_law_late" (top 26) ["stream", "item"] := top_mk X G a18 l18 c18 k18 fun _ _ _ _ _ _ us hl => match us, hl with | [_, _], _ => rfl
  have T__law_ages : Top K mg "_law_ages" (top 27) ["stream"] := top_mk X G a19 l19 c19 k19 fun _ _ _ _ _ _ us hl => match us, hl with | [_], _ => rfl
  have T__law_build : Top K mg "_law_build" (top 28) ["items", "rows"] := top_mk X G a20 l20 c20 k20 fun _ _ _ _ _ _ us hl => match us, hl with | [_, _], _ => rfl
  have T__law_orders : Top K mg "_law_orders" (top 29) ["items"] := top_mk X G a21 l21 c21 k21 fun _ _ _ _ _ _ us hl => match us, hl with | [_], _ => rfl
  have T__law_swapped_right : Top K mg "_law_swapped_right" (top 30) ["bag", "stream"] := top_mk X G a22 l22 c22 k22 fun _ _ _ _ _ _ us hl => match us, hl with | [_, _], _ => rfl
  have e := hfa.symm.trans (PySem.W.mg_of X G a23)
  cases e
  refine ⟨PySem.W.fnOf "law" "law" (defArgs (top 31)) (defBody (top 31)) (defScope (top 31)) .none kV23 dc23 pm23 an23 cd23 ct23, fun s v => .of_eq rfl, fun base _ _ => ?_⟩
  have D_is_integer := is_integer_ok (P := l.prog) (w := w) (base := base) B T_is_integer 
  have D_in_range := in_range_ok (P := l.prog) (w := w) (base := base) B T_in_range D_is_integer
  have D_is_item := is_item_ok (P := l.prog) (w := w) (base := base) B T_is_item G_MAX_TIME D_in_range
  have D_is_stream := is_stream_ok (P := l.prog) (w := w) (base := base) B T_is_stream G_MAX_ITEMS D_is_item
  have D_check_stream := check_stream_ok (P := l.prog) (w := w) (base := base) B T_check_stream D_is_stream
  have D_lateness_of := lateness_of_ok (P := l.prog) (w := w) (base := base) B T_lateness_of 
  have D_lateness := lateness_ok (P := l.prog) (w := w) (base := base) B T_lateness D_check_stream D_lateness_of
  have D_is_ascending := is_ascending_ok (P := l.prog) (w := w) (base := base) B T_is_ascending 
  have D_build := build_ok (P := l.prog) (w := w) (base := base) B T_build 
  have D_is_lateness := is_lateness_ok (P := l.prog) (w := w) (base := base) B T_is_lateness D_in_range
  have D_stream_of := stream_of_ok (P := l.prog) (w := w) (base := base) B T_stream_of D_is_stream D_is_ascending D_is_lateness D_build
  have D_disorder := disorder_ok (P := l.prog) (w := w) (base := base) B T_disorder D_check_stream D_lateness_of
  have D__law_well := _law_well_ok (P := l.prog) (w := w) (base := base) B T__law_well 
  have D__law_take := _law_take_ok (P := l.prog) (w := w) (base := base) B T__law_take 
  have D__law_bags := _law_bags_ok (P := l.prog) (w := w) (base := base) B T__law_bags D__law_well
  have D__law_same := _law_same_ok (P := l.prog) (w := w) (base := base) B T__law_same 
  have D__law_items := _law_items_ok (P := l.prog) (w := w) (base := base) B T__law_items D__law_take
  have D__law_stream := _law_stream_ok (P := l.prog) (w := w) (base := base) B T__law_stream D__law_take D__law_items
  have D__law_late := _law_late_ok (P := l.prog) (w := w) (base := base) B T__law_late 
  have D__law_ages := _law_ages_ok (P := l.prog) (w := w) (base := base) B T__law_ages D__law_late
  have D__law_build := _law_build_ok (P := l.prog) (w := w) (base := base) B T__law_build 
  have D__law_orders := _law_orders_ok (P := l.prog) (w := w) (base := base) B T__law_orders D__law_build
  have D__law_swapped_right := _law_swapped_right_ok (P := l.prog) (w := w) (base := base) B T__law_swapped_right D__law_take D_disorder
  exact law_all B (fun_mk (st := top 31) l23 c23 k23) D__law_bags D__law_items D__law_orders D__law_stream D__law_ages D__law_late D__law_same D_lateness D_disorder D_stream_of D__law_swapped_right
end K03

open PySem PySem.W PyProof.Rows in
set_option maxRecDepth 100000 in
set_option maxHeartbeats 0 in
theorem PySem.Challenge.cw_latebuffer_k03_whole_streams_and_latenes_holds : PySem.Challenge.rw_latebuffer_k03_whole_streams_and_latenes.Holds := by
  w_on; o_law; k_head; (case hw => w_witness2)
  k_fill
  refine DL.walk_ofX (l := PySem.Challenge.rw_latebuffer_k03_whole_streams_and_latenes) (n := 63) (k := 9) (x := "script") (CX := fun _ => L2.CX0) (sp := fun w => DL.spLaw _ 63) rfl (by decide) rfl ⟨rfl, by decide, by decide⟩ (fun w h Y => PySem.W.kIn_of Y) ?F (fun _ _ a ns hl _ hS => ⟨a, ns, rfl, hS, hl, fun _ => rfl⟩) fun _ _ _ _ _ z => z
  case F =>
    intro w mg fa h KX G hmg L
    refine' K03.all_mk KX G hmg (DL.gl_loose L (by simp)) (DL.gl_mk KX G ?g_MAX_ITEMS) ?a0 ?l0 ?c0 ?k0 ?a1 ?l1 ?c1 ?k1 ?a2 ?l2 ?c2 ?k2 ?a3 ?l3 ?c3 ?k3 ?a4 ?l4 ?c4 ?k4 ?a5 ?l5 ?c5 ?k5 ?a6 ?l6 ?c6 ?k6 ?a7 ?l7 ?c7 ?k7 ?a8 ?l8 ?c8 ?k8 ?a9 ?l9 ?c9 ?k9 ?a10 ?l10 ?c10 ?k10 ?a11 ?l11 ?c11 ?k11 ?a12 ?l12 ?c12 ?k12 ?a13 ?l13 ?c13 ?k13 ?a14 ?l14 ?c14 ?k14 ?a15 ?l15 ?c15 ?k15 ?a16 ?l16 ?c16 ?k16 ?a17 ?l17 ?c17 ?k17 ?a18 ?l18 ?c18 ?k18 ?a19 ?l19 ?c19 ?k19 ?a20 ?l20 ?c20 ?k20 ?a21 ?l21 ?c21 ?k21 ?a22 ?l22 ?c22 ?k22 ?a23 ?l23 ?c23 ?k23 ?z_len ?z_tuple ?z_list ?z_dict ?z_set ?z_sorted ?z_range ?z_enumerate ?z_zip ?z_min ?z_max ?z_sum ?z_all ?z_isinstance ?z_int ?z_bool ?z_str
    (case g_MAX_ITEMS => k_is)
    (case a0 => k_is)
    (case l0 => k_is)
    (case c0 => k_is)
    (case k0 => k_is)
    (case a1 => k_is)
    (case l1 => k_is)
    (case c1 => k_is)
    (case k1 => k_is)
    (case a2 => k_is)
    (case l2 => k_is)
    (case c2 => k_is)
    (case k2 => k_is)
    (case a3 => k_is)
    (case l3 => k_is)
    (case c3 => k_is)
    (case k3 => k_is)
    (case a4 => k_is)
    (case l4 => k_is)
    (case c4 => k_is)
    (case k4 => k_is)
    (case a5 => k_is)
    (case l5 => k_is)
    (case c5 => k_is)
    (case k5 => k_is)
    (case a6 => k_is)
    (case l6 => k_is)
    (case c6 => k_is)
    (case k6 => k_is)
    (case a7 => k_is)
    (case l7 => k_is)
    (case c7 => k_is)
    (case k7 => k_is)
    (case a8 => k_is)
    (case l8 => k_is)
    (case c8 => k_is)
    (case k8 => k_is)
    (case a9 => k_is)
    (case l9 => k_is)
    (case c9 => k_is)
    (case k9 => k_is)
    (case a10 => k_is)
    (case l10 => k_is)
    (case c10 => k_is)
    (case k10 => k_is)
    (case a11 => k_is)
    (case l11 => k_is)
    (case c11 => k_is)
    (case k11 => k_is)
    (case a12 => k_is)
    (case l12 => k_is)
    (case c12 => k_is)
    (case k12 => k_is)
    (case a13 => k_is)
    (case l13 => k_is)
    (case c13 => k_is)
    (case k13 => k_is)
    (case a14 => k_is)
    (case l14 => k_is)
    (case c14 => k_is)
    (case k14 => k_is)
    (case a15 => k_is)
    (case l15 => k_is)
    (case c15 => k_is)
    (case k15 => k_is)
    (case a16 => k_is)
    (case l16 => k_is)
    (case c16 => k_is)
    (case k16 => k_is)
    (case a17 => k_is)
    (case l17 => k_is)
    (case c17 => k_is)
    (case k17 => k_is)
    (case a18 => k_is)
    (case l18 => k_is)
    (case c18 => k_is)
    (case k18 => k_is)
    (case a19 => k_is)
    (case l19 => k_is)
    (case c19 => k_is)
    (case k19 => k_is)
    (case a20 => k_is)
    (case l20 => k_is)
    (case c20 => k_is)
    (case k20 => k_is)
    (case a21 => k_is)
    (case l21 => k_is)
    (case c21 => k_is)
    (case k21 => k_is)
    (case a22 => k_is)
    (case l22 => k_is)
    (case c22 => k_is)
    (case k22 => k_is)
    (case a23 => k_is)
    (case l23 => k_is)
    (case c23 => k_is)
    (case k23 => k_is)
    (case z_len => k_is)
    (case z_tuple => k_is)
    (case z_list => k_is)
    (case z_dict => k_is)
    (case z_set => k_is)
    (case z_sorted => k_is)
    (case z_range => k_is)
    (case z_enumerate => k_is)
    (case z_zip => k_is)
    (case z_min => k_is)
    (case z_max => k_is)
    (case z_sum => k_is)
    (case z_all => k_is)
    (case z_isinstance => k_is)
    (case z_int => k_is)
    (case z_bool => k_is)
    (case z_str => k_is)
