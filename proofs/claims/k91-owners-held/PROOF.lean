import PyProof.Rows.All
import Wide.All
import OpenK.AllK
import Wide.FinOn
import HandS.ForMost
import HandS.ForExc
import HandS.HeadHook1
import HandS.TupAny
import HandS.TupMul
import HandS.Style
import KE.DataEq
import KE.DataCmp
import KE.DataIsa
import KE.DataAny
import KE.DataMinMax
import KE.DataFind
import KE.SortData
import KE.KTupSum
import HandS.SortInts
import HandS.CallSlots
import HandS.NoneIn
import HandS.SetKeys
import HandS.TupSets
import HandS.Set
import KE.KeyNested
import HandS.SetFor
import PyProof.WalksMore
import PyProof.Transfer
import HandS.IsInst
import HandS.Conv
import HandS.Defaults
import HandS.Ends
import HandS.ExcOwn
import HandS.More
import HandS.Zip
import HandS.Iter
import HandS.ExcIs
import HandS.HeadHook2
import HandS.Sort
import KE.KDictList
import HandS.DictEq
import KE.KDictItemsList
import KE.DatumMoreOrd
import KE.GoesNew
import KE.GoesMore
import KE.KStateDown
import Lean
import HandS.Base
import HandS.Call
import HandS.Words
import HandS.WordsExc
import HandS.Head0
import HandS.Head1
import HandS.Head2
import HandS.HeadEnd
import PyProof.ExcBaseAll.ValueError
import PySem.Challenge.RW_visitrows_k91_whole_owners_held
set_option Elab.async false
set_option linter.all false
set_option maxRecDepth 100000
set_option maxHeartbeats 4000000
/-! VR0: frozen data and owned trees over HandS's abstract heap. -/
namespace VR
open PySem PySem.Spec PyProof.Rows L2

/-- a dict's key: a number or a text, or a flat tuple of such -/
abbrev DK := Sum Key (List Key)

/-- what stands at an owned address: a list; a dict by its keys (lk: locked, while it is walked); an object by its fields -/
inductive NK where
  | lst
  | dct (ks : List DK) (lk : Bool) (tk : Bool)
  | obj (c : Str) (fs : List Str)

/-- a value: frozen data, a caught error, or an owned tree -/
inductive T where
  | dat (d : PyData)
  | exc (c : Str)
  | fdc (ks : List Key) (ds : List PyData)
  | node (k : NK) (ts : List T)

mutual
def T.frz : T → Option PyData
  | .dat d => some d
  | .exc _ => none
  | .fdc _ _ => none
  | .node k ts => match k with
    | .lst => (frzAll ts).map .list
    | _ => none
def frzAll : List T → Option (List PyData)
  | [] => some []
  | t :: ts => match t.frz, frzAll ts with
    | some d, some ds => some (d :: ds)
    | _, _ => none
end

theorem frzAll_cons {t : T} {ts : List T} {ds : List PyData} (h : frzAll (t :: ts) = some ds) : ∃ d r, ds = d :: r ∧ t.frz = some d ∧ frzAll ts = some r := by
  rw [frzAll] at h
  split at h
  · rename_i d r h1 h2
    exact ⟨d, r, (Option.some.inj h).symm, h1, h2⟩
  · cases h
theorem frzAll_dat : ∀ ds : List PyData, frzAll (ds.map T.dat) = some ds
  | [] => by rw [List.map_nil, frzAll]
  | d :: ds => by rw [List.map_cons, frzAll, T.frz, frzAll_dat ds]

/-! ### frozen data -/
mutual
/-- v is the data d in the heap; its lists are tracked, its tuples tracked or the module's -/
inductive Dq (K : PySem.W.Frag) (H : Hp) : V → PyData → Prop
  | non : Dq K H .non .none
  | bl (b : Bool) : Dq K H (.bl b) (.bool b)
  | int (i : Int) : Dq K H (.int i) (.int i)
  | str (x : Str) : Dq K H (.str x) (.str x)
  | lst {a : Addr} {xs : List V} {ds : List PyData} : SqL K H a xs → DqAll K H xs ds → Dq K H (.ref a) (.list ds)
  | tup {a : Addr} {xs : List V} {ds : List PyData} : H a = some (.tup xs) → DqAll K H xs ds → Dq K H (.ref a) (.tuple ds)
inductive DqAll (K : PySem.W.Frag) (H : Hp) : List V → List PyData → Prop
  | nil : DqAll K H [] []
  | cons {v : V} {vs : List V} {d : PyData} {ds : List PyData} : Dq K H v d → DqAll K H vs ds → DqAll K H (v :: vs) (d :: ds)
end
section
variable {K : PySem.W.Frag} {G G' H : Hp}
theorem same_rd {a : Addr} {u : HO} (e : Same G G') (h : Rd G a u) : Rd G' a u := by
  rcases h with h | ⟨o, h⟩
  · exact .inl (e _ _ h)
  · exact .inr ⟨o, e _ _ h⟩
theorem same_sqL {a : Addr} {xs : List V} (e : Same G G') (h : SqL K G a xs) : SqL K G' a xs := by
  rcases h with h | h
  · exact .inl (same_rd e h)
  · exact .inr h
theorem same_sqT {a : Addr} {xs : List V} (e : Same G G') (h : SqT K G a xs) : SqT K G' a xs := by
  rcases h with h | h
  · exact .inl (same_rd e h)
  · exact .inr h
mutual
theorem dp_mono (e : Same G G') : ∀ (d : PyData) (v : V), Dq K G v d → Dq K G' v d
  | .none, _, h => by cases h; exact .non
  | .bool _, _, h => by cases h; exact .bl _
  | .int _, _, h => by cases h; exact .int _
  | .str _, _, h => by cases h; exact .str _
  | .list ds, _, h => by
    cases h with
    | lst h1 h2 => exact .lst (same_sqL e h1) (dpAll_mono e ds _ h2)
  | .tuple ds, _, h => by
    cases h with
    | tup h1 h2 => exact .tup (e _ _ h1) (dpAll_mono e ds _ h2)
  | .dict _, _, h => by cases h
theorem dpAll_mono (e : Same G G') : ∀ (ds : List PyData) (vs : List V), DqAll K G vs ds → DqAll K G' vs ds
  | [], _, h => by cases h; exact .nil
  | d :: ds, _, h => by
    cases h with
    | cons h1 h2 => exact .cons (dp_mono e d _ h1) (dpAll_mono e ds _ h2)
end
mutual
theorem dq_dp : ∀ (d : PyData) (v : V), Dq K G v d → Dp K G v d
  | .none, _, h => by cases h; exact .non
  | .bool _, _, h => by cases h; exact .bl _
  | .int _, _, h => by cases h; exact .int _
  | .str _, _, h => by cases h; exact .str _
  | .list ds, _, h => by
    cases h with
    | lst h1 h2 => exact .lst h1 (dqAll_dp ds _ h2)
  | .tuple ds, _, h => by
    cases h with
    | tup h1 h2 => exact .tup (SqT.of h1) (dqAll_dp ds _ h2)
  | .dict _, _, h => by cases h
theorem dqAll_dp : ∀ (ds : List PyData) (vs : List V), DqAll K G vs ds → DpAll K G vs ds
  | [], _, h => by cases h; exact .nil
  | d :: ds, _, h => by
    cases h with
    | cons h1 h2 => exact .cons (dq_dp d _ h1) (dqAll_dp ds _ h2)
end
theorem dpAll_len : ∀ {vs : List V} {ds : List PyData}, DqAll K G vs ds → vs.length = ds.length
  | _, _, .nil => rfl
  | _, _, .cons _ h => congrArg Nat.succ (dpAll_len h)
theorem dpAll_at : ∀ {vs : List V} {ds : List PyData}, DqAll K G vs ds → ∀ {i : Nat} {v : V}, vs[i]? = some v → ∃ d, ds[i]? = some d ∧ Dq K G v d
  | _, _, .nil, i, v, h => by simp at h
  | _, _, .cons h1 h2, 0, v, h => by
    simp at h
    subst h
    exact ⟨_, rfl, h1⟩
  | _, _, .cons h1 h2, i + 1, v, h => by
    obtain ⟨d, e1, e2⟩ := dpAll_at h2 (i := i) (v := v) (by simpa using h)
    exact ⟨d, by simpa using e1, e2⟩
theorem dpAll_at' {vs : List V} {ds : List PyData} (h : DqAll K G vs ds) {i : Nat} {d : PyData} (e : ds[i]? = some d) : ∃ v, vs[i]? = some v ∧ Dq K G v d := by
  have hl := dpAll_len h
  have hi : i < vs.length := by
    rw [hl]
    exact (List.getElem?_eq_some_iff.mp e).1
  obtain ⟨d', e1, e2⟩ := dpAll_at h (List.getElem?_eq_getElem hi)
  rw [e] at e1
  cases e1
  exact ⟨_, List.getElem?_eq_getElem hi, e2⟩
theorem dpAll_of : ∀ {vs : List V} {ds : List PyData}, vs.length = ds.length → (∀ (i : Nat) (v : V) (d : PyData), vs[i]? = some v → ds[i]? = some d → Dq K G v d) → DqAll K G vs ds
  | [], [], _, _ => .nil
  | [], _ :: _, h, _ => by cases h
  | _ :: _, [], h, _ => by cases h
  | v :: vs, d :: ds, hl, h => .cons (h 0 v d rfl rfl) (dpAll_of (by simpa using hl) fun i v' d' h1 h2 => h (i + 1) v' d' (by simpa using h1) (by simpa using h2))
theorem dpAll_app : ∀ {vs : List V} {ds : List PyData} {us : List V} {es : List PyData}, DqAll K G vs ds → DqAll K G us es → DqAll K G (vs ++ us) (ds ++ es)
  | _, _, _, _, .nil, h => h
  | _, _, _, _, .cons h1 h2, h => .cons h1 (dpAll_app h2 h)
theorem dpAll_take : ∀ {vs : List V} {ds : List PyData} (n : Nat), DqAll K G vs ds → DqAll K G (vs.take n) (ds.take n)
  | _, _, 0, _ => by simp; exact .nil
  | _, _, _ + 1, .nil => by simp; exact .nil
  | _, _, n + 1, .cons h1 h2 => by
    rw [List.take_succ_cons, List.take_succ_cons]
    exact .cons h1 (dpAll_take n h2)
theorem dpAll_drop : ∀ {vs : List V} {ds : List PyData} (n : Nat), DqAll K G vs ds → DqAll K G (vs.drop n) (ds.drop n)
  | _, _, 0, h => h
  | _, _, _ + 1, .nil => by simp; exact .nil
  | _, _, n + 1, .cons h1 h2 => by
    rw [List.drop_succ_cons, List.drop_succ_cons]
    exact dpAll_drop n h2
theorem dpAll_mem {vs : List V} {ds : List PyData} (h : DqAll K G vs ds) {v : V} (hv : v ∈ vs) : ∃ d, d ∈ ds ∧ Dq K G v d := by
  obtain ⟨i, hi⟩ := List.mem_iff_getElem?.mp hv
  obtain ⟨d, e1, e2⟩ := dpAll_at h hi
  exact ⟨d, List.mem_of_getElem? e1, e2⟩
end

/-! ### owned trees -/
/-- a caught error of the class named c, at a -/
def ExO (K : PySem.W.Frag) (c : Str) (a : Addr) : HO := .ext fun h => ∃ (oe : Obj) (vs : Array Value), h.get? a = some oe ∧ Zc (.ref (He.ga K c)) none oe ∧ oe.data = .fields vs

/-- as it stands, or locked -/
def CellAt (H : Hp) (a : Addr) (lk : Bool) (u : HO) : Prop := if lk = true then ∃ o, H a = some (.frz o u) else H a = some u

/-- the object at a, its parts vs; A: its own addresses -/
def NodeAt (K : PySem.W.Frag) (H : Hp) (a : Addr) (k : NK) (vs : List V) (A : Addr → Prop) : Prop :=
  match k with
  | .lst => H a = some (.lst vs) ∧ ∀ b, A b ↔ b = a
  | .dct ks lk tk => ks.Nodup ∧ ((tk = false ∧ ∃ kvs : List (Key × V), kvs.map (fun q => (Sum.inl q.1 : DK)) = ks ∧ kvs.map (·.2) = vs ∧ CellAt H a lk (.dK kvs)) ∨
      tk = true ∧ ∃ kvs : List (List Key × V), kvs.map (fun q => (Sum.inr q.1 : DK)) = ks ∧ kvs.map (·.2) = vs ∧ CellAt H a lk (.dT kvs)) ∧ ∀ b, A b ↔ b = a
  | .obj c fs => fs.length = vs.length ∧ ∃ dx, H a = some (.ins (He.ga K c) dx (fs.zip vs)) ∧ H dx = some (.own a) ∧ ∀ b, A b ↔ b = a ∨ b = dx

theorem cellAt_step {H H' : Hp} {a : Addr} {lk : Bool} {u : HO} (h : CellAt H a lk u) (e : H' a = H a) : CellAt H' a lk u := by
  unfold CellAt at h ⊢
  rw [e]
  exact h
theorem nodeAt_step {K : PySem.W.Frag} {H H' : Hp} {a : Addr} {k : NK} {vs : List V} {A : Addr → Prop} (h : NodeAt K H a k vs A) (e : ∀ b, A b → H' b = H b) : NodeAt K H' a k vs A := by
  cases k with
  | lst =>
    obtain ⟨h1, h2⟩ := h
    exact ⟨by rw [e a ((h2 a).mpr rfl)]; exact h1, h2⟩
  | dct ks lk tk =>
    obtain ⟨h0, h1, h2⟩ := h
    refine ⟨h0, ?_, h2⟩
    have ea := e a ((h2 a).mpr rfl)
    rcases h1 with ⟨q0, kvs, q1, q2, q3⟩ | ⟨q0, kvs, q1, q2, q3⟩
    · exact .inl ⟨q0, kvs, q1, q2, cellAt_step q3 ea⟩
    · exact .inr ⟨q0, kvs, q1, q2, cellAt_step q3 ea⟩
  | obj c fs =>
    obtain ⟨h0, dx, h1, h2, h3⟩ := h
    exact ⟨h0, dx, by rw [e a ((h3 a).mpr (.inl rfl))]; exact h1, by rw [e dx ((h3 dx).mpr (.inr rfl))]; exact h2, h3⟩
theorem nodeAt_self {K : PySem.W.Frag} {H : Hp} {a : Addr} {k : NK} {vs : List V} {A : Addr → Prop} (h : NodeAt K H a k vs A) : A a := by
  cases k with
  | lst => exact (h.2 a).mpr rfl
  | dct ks lk tk => exact (h.2.2 a).mpr rfl
  | obj c fs =>
    obtain ⟨_, dx, _, _, h3⟩ := h
    exact (h3 a).mpr (.inl rfl)
theorem nodeAt_some {K : PySem.W.Frag} {H : Hp} {a : Addr} {k : NK} {vs : List V} {A : Addr → Prop} (h : NodeAt K H a k vs A) {b : Addr} (hb : A b) : ∃ o, H b = some o := by
  cases k with
  | lst =>
    rw [(h.2 b).mp hb]
    exact ⟨_, h.1⟩
  | dct ks lk tk =>
    rw [(h.2.2 b).mp hb]
    rcases h.2.1 with ⟨_, kvs, q1, q2, q3⟩ | ⟨_, kvs, q1, q2, q3⟩ <;>
    · unfold CellAt at q3
      split at q3
      · obtain ⟨o, q3⟩ := q3
        exact ⟨_, q3⟩
      · exact ⟨_, q3⟩
  | obj c fs =>
    obtain ⟨_, dx, h1, h2, h3⟩ := h
    rcases (h3 b).mp hb with rfl | rfl
    · exact ⟨_, h1⟩
    · exact ⟨_, h2⟩

/-- v is the tree t; S: the addresses that are its own -/
inductive Own (K : PySem.W.Frag) (G H : Hp) : V → T → (Addr → Prop) → Prop
  | dat {v : V} {d : PyData} {S : Addr → Prop} (h : Dq K G v d) (e : ∀ b, ¬ S b) : Own K G H v (.dat d) S
  | exc {a : Addr} {c : Str} {S : Addr → Prop} (h : G a = some (ExO K c a)) (e : ∀ b, ¬ S b) : Own K G H (.ref a) (.exc c) S
  | fdc {a : Addr} {o : Obj} {kvs : List (Key × V)} {ks : List Key} {ds : List PyData} {S : Addr → Prop} (h : G a = some (.frz o (.dK kvs))) (hk : kvs.map (·.1) = ks) (nd : ks.Nodup) (hd : DqAll K G (kvs.map (·.2)) ds) (e : ∀ b, ¬ S b) : Own K G H (.ref a) (.fdc ks ds) S
  | node {a : Addr} {k : NK} {vs : List V} {ts : List T} {A S : Addr → Prop} {ω : Addr → Option Nat} (h : NodeAt K H a k vs A) (g : ∀ b, A b → G b = none) (l : vs.length = ts.length)
      (c : ∀ i v t, vs[i]? = some v → ts[i]? = some t → Own K G H v t (fun b => ω b = some i)) (n : ∀ b, A b → ω b = none)
      (s : ∀ b, S b ↔ A b ∨ ∃ i, i < ts.length ∧ ω b = some i) : Own K G H (.ref a) (.node k ts) S

section
variable {K : PySem.W.Frag} {G H G' H' : Hp}
theorem Own.step (e : Same G G') {v : V} {t : T} {S : Addr → Prop} (h : Own K G H v t S) : (∀ b, S b → H' b = H b ∧ G' b = none) → Own K G' H' v t S := by
  induction h with
  | dat h z => exact fun _ => .dat (dp_mono e _ _ h) z
  | exc h z => exact fun _ => .exc (e _ _ h) z
  | fdc h hk nd hd z => exact fun _ => .fdc (e _ _ h) hk nd (dpAll_mono e _ _ hd) z
  | node h g l c n s ih =>
    intro k
    refine .node (nodeAt_step h fun b hb => (k b ((s b).mpr (.inl hb))).1) (fun b hb => (k b ((s b).mpr (.inl hb))).2) l (fun i v t h1 h2 => ?_) n s
    refine ih i v t h1 h2 fun b hb => k b ((s b).mpr (.inr ⟨i, ?_, hb⟩))
    exact (List.getElem?_eq_some_iff.mp h2).1
theorem Own.there {v : V} {t : T} {S : Addr → Prop} (h : Own K G H v t S) : ∀ b, S b → (∃ o, H b = some o) ∧ G b = none := by
  induction h with
  | dat h z => exact fun b hb => absurd hb (z b)
  | exc h z => exact fun b hb => absurd hb (z b)
  | fdc h hk nd hd z => exact fun b hb => absurd hb (z b)
  | node h g l c n s ih =>
    intro b hb
    rcases (s b).mp hb with q | ⟨i, hi, q⟩
    · exact ⟨nodeAt_some h q, g b q⟩
    · exact ih i _ _ (List.getElem?_eq_getElem (by rw [l]; exact hi)) (List.getElem?_eq_getElem hi) b q
theorem Own.congr {v : V} {t : T} {S S' : Addr → Prop} (h : Own K G H v t S) (e : ∀ b, S' b ↔ S b) : Own K G H v t S' := by
  cases h with
  | dat h z => exact .dat h fun b hb => z b ((e b).mp hb)
  | exc h z => exact .exc h fun b hb => z b ((e b).mp hb)
  | fdc h hk nd hd z => exact .fdc h hk nd hd fun b hb => z b ((e b).mp hb)
  | node h g l c n s => exact .node h g l c n fun b => (e b).trans (s b)
/-- read as data, where the tree's own addresses are seen -/
theorem Own.read (e : Same G G') {v : V} {t : T} {S : Addr → Prop} (h : Own K G H v t S) : ∀ d, t.frz = some d → (∀ b, S b → G' b = H b) → Dq K G' v d := by
  induction h with
  | dat h z =>
    intro d hd _
    rw [T.frz] at hd
    cases hd
    exact dp_mono e _ _ h
  | exc h z =>
    intro d hd _
    rw [T.frz] at hd
    cases hd
  | fdc h hk nd hd z =>
    intro d hd _
    rw [T.frz] at hd
    cases hd
  | @node a k vs ts A S ω h g l c n s ih =>
    intro d hd hs
    cases k with
    | dct ks lk tk =>
      simp only [T.frz] at hd
      cases hd
    | obj c' fs =>
      simp only [T.frz] at hd
      cases hd
    | lst =>
      simp only [T.frz, Option.map_eq_some_iff] at hd
      obtain ⟨ds, h1, rfl⟩ := hd
      refine .lst (xs := vs) (SqL.of ?_) ?_
      · rw [hs a ((s a).mpr (.inl (nodeAt_self h)))]
        exact h.1
      · have all : ∀ (ts : List T) (ds : List PyData), frzAll ts = some ds → ts.length = ds.length ∧ ∀ (i : Nat) (d : PyData), ds[i]? = some d → ∃ t, ts[i]? = some t ∧ t.frz = some d := by
          intro ts
          induction ts with
          | nil =>
            intro ds hq
            rw [frzAll] at hq
            cases hq
            exact ⟨rfl, fun i d hi => by simp at hi⟩
          | cons t ts ihh =>
            intro ds hq
            obtain ⟨d, r, rfl, q1, q2⟩ := frzAll_cons hq
            obtain ⟨e1, e2⟩ := ihh r q2
            refine ⟨by simp [e1], fun i d' hi => ?_⟩
            cases i with
            | zero =>
              simp at hi
              subst hi
              exact ⟨t, rfl, q1⟩
            | succ i =>
              obtain ⟨t', z1, z2⟩ := e2 i d' (by simpa using hi)
              exact ⟨t', by simpa using z1, z2⟩
        obtain ⟨e1, e2⟩ := all ts ds h1
        refine dpAll_of (l.trans e1) fun i v d hv hd => ?_
        obtain ⟨t, z1, z2⟩ := e2 i d hd
        exact ih i v t hv z1 d z2 fun b hb => hs b ((s b).mpr (.inr ⟨i, (List.getElem?_eq_some_iff.mp z1).1, hb⟩))
/-- read in the heap itself -/
theorem Own.dp (e : Same G H) {v : V} {t : T} {S : Addr → Prop} (h : Own K G H v t S) {d : PyData} (hd : t.frz = some d) : Dq K H v d := h.read e d hd fun _ _ => rfl
end

/-! ### steps -/
structure Step (G H : Hp) (S : Addr → Prop) (G' H' : Hp) : Prop where
  ext : Same G G'
  frm : ∀ b o, ¬ S b → H b = some o → H' b = some o ∧ (G b = none → G' b = none)
def New (H : Hp) (S S' : Addr → Prop) : Prop := ∀ b, S' b → S b ∨ H b = none
section
variable {G H G1 H1 G2 H2 : Hp} {S S1 S2 : Addr → Prop}
theorem Step.refl : Step G H S G H := ⟨fun _ _ h => h, fun _ _ _ h => ⟨h, fun z => z⟩⟩
theorem New.refl : New H S S := fun _ h => .inl h
theorem Step.trans (a : Step G H S G1 H1) (b : Step G1 H1 S1 G2 H2) (n : New H S S1) : Step G H S G2 H2 := by
  refine ⟨fun c o h => b.ext _ _ (a.ext _ _ h), fun c o hs h => ?_⟩
  obtain ⟨h1, g1⟩ := a.frm c o hs h
  have hs1 : ¬ S1 c := fun z => by
    rcases n c z with q | q
    · exact hs q
    · rw [h] at q
      cases q
  obtain ⟨h2, g2⟩ := b.frm c o hs1 h1
  exact ⟨h2, fun z => g2 (g1 z)⟩
theorem New.trans (a : Step G H S G1 H1) (n1 : New H S S1) (n2 : New H1 S1 S2) : New H S S2 := fun b hb => by
  rcases n2 b hb with q | q
  · exact n1 b q
  · by_cases hs : S b
    · exact .inl hs
    · right
      cases e : H b with
      | none => rfl
      | some o =>
        rw [(a.frm b o hs e).1] at q
        cases q
theorem Step.mono (a : Step G H S G1 H1) (h : ∀ b, S b → S1 b) : Step G H S1 G1 H1 := ⟨a.ext, fun b o hs e => a.frm b o (fun z => hs (h b z)) e⟩
end

/-! ### a frame's slots -/
abbrev dom (ω : Addr → Option Nat) : Addr → Prop := fun b => ∃ i, ω b = some i
abbrev Envt := List (Option T)
structure Rep (K : PySem.W.Frag) (G H : Hp) (σ : L2.St) (env : Envt) (ω : Addr → Option Nat) : Prop where
  sub : Same G H
  own : ∀ i t, env[i]? = some (some t) → ∃ v, σ[i]? = some (some v) ∧ Own K G H v t (fun b => ω b = some i)
  emp : ∀ b i, ω b = some i → ∃ t, env[i]? = some (some t)
  len : env.length = σ.length
section
variable {K : PySem.W.Frag} {G H G' H' : Hp} {σ : L2.St} {env : Envt} {ω : Addr → Option Nat}
theorem Rep.there (r : Rep K G H σ env ω) {b : Addr} (h : dom ω b) : (∃ o, H b = some o) ∧ G b = none := by
  obtain ⟨i, hi⟩ := h
  obtain ⟨t, ht⟩ := r.emp b i hi
  obtain ⟨v, _, o⟩ := r.own i t ht
  exact o.there b hi
theorem Rep.step (r : Rep K G H σ env ω) (e : Same G G') (s : Same G' H') (k : ∀ b, dom ω b → H' b = H b ∧ G' b = none) : Rep K G' H' σ env ω := by
  refine ⟨s, fun i t ht => ?_, r.emp, r.len⟩
  obtain ⟨v, hv, o⟩ := r.own i t ht
  exact ⟨v, hv, o.step e fun b hb => k b ⟨i, hb⟩⟩
/-- a temporary tree is carried over a step -/
theorem Own.carry {v : V} {t : T} {S N : Addr → Prop} (o : Own K G H v t S) (d : ∀ b, S b → ω b = none) (st : Step G H (dom ω) G' H') (n : New H (dom ω) N) : Own K G' H' v t S ∧ ∀ b, S b → ¬ N b := by
  have nd : ∀ b, S b → ¬ dom ω b := fun b hb ⟨i, hi⟩ => by
    rw [d b hb] at hi
    cases hi
  refine ⟨o.step st.ext fun b hb => ?_, fun b hb hn => ?_⟩
  · obtain ⟨⟨u, hu⟩, hg⟩ := o.there b hb
    obtain ⟨h1, h2⟩ := st.frm b u (nd b hb) hu
    exact ⟨h1.trans hu.symm, h2 hg⟩
  · obtain ⟨⟨u, hu⟩, hg⟩ := o.there b hb
    rcases n b hn with q | q
    · exact nd b hb q
    · rw [hu] at q
      cases q
/-- a new object p that no slot owns -/
theorem Rep.fresh (r : Rep K G H σ env ω) {p : Addr} (hp : H p = none) : ω p = none := by
  cases e : ω p with
  | none => rfl
  | some i =>
    obtain ⟨⟨o, ho⟩, _⟩ := r.there (b := p) ⟨i, e⟩
    rw [hp] at ho
    cases ho
theorem same_free (s : Same G H) {p : Addr} (hp : H p = none) : G p = none := by
  cases e : G p with
  | none => rfl
  | some o =>
    rw [s p o e] at hp
    cases hp
end
/-! ### views: what is read of a tree, whoever owns it -/
inductive Vw (K : PySem.W.Frag) (G H : Hp) : V → T → Prop
  | dat {v : V} {d : PyData} (h : Dq K G v d) : Vw K G H v (.dat d)
  | exc {a : Addr} {c : Str} (h : G a = some (ExO K c a)) : Vw K G H (.ref a) (.exc c)
  | fdc {a : Addr} {o : Obj} {kvs : List (Key × V)} {ks : List Key} {ds : List PyData} (h : G a = some (.frz o (.dK kvs))) (hk : kvs.map (·.1) = ks) (nd : ks.Nodup) (hd : DqAll K G (kvs.map (·.2)) ds) : Vw K G H (.ref a) (.fdc ks ds)
  | node {a : Addr} {k : NK} {vs : List V} {ts : List T} {A : Addr → Prop} (h : NodeAt K H a k vs A) (l : vs.length = ts.length)
      (c : ∀ (i : Nat) (v : V) (t : T), vs[i]? = some v → ts[i]? = some t → Vw K G H v t) : Vw K G H (.ref a) (.node k ts)
section
variable {K : PySem.W.Frag} {G H G' H' : Hp}
theorem Own.vw {v : V} {t : T} {S : Addr → Prop} (h : Own K G H v t S) : Vw K G H v t := by
  induction h with
  | dat h z => exact .dat h
  | exc h z => exact .exc h
  | fdc h hk nd hd z => exact .fdc h hk nd hd
  | node h g l c n s ih => exact .node h l ih
theorem Vw.step (e : Same G G') (k : Same H H') {v : V} {t : T} (h : Vw K G H v t) : Vw K G' H' v t := by
  induction h with
  | dat h => exact .dat (dp_mono e _ _ h)
  | exc h => exact .exc (e _ _ h)
  | fdc h hk nd hd => exact .fdc (e _ _ h) hk nd (dpAll_mono e _ _ hd)
  | node h l c ih =>
    refine .node (nodeAt_step h fun b hb => ?_) l ih
    obtain ⟨o, ho⟩ := nodeAt_some h hb
    rw [ho, k b o ho]
theorem frzAll_at : ∀ {ts : List T} {ds : List PyData}, frzAll ts = some ds → ts.length = ds.length ∧ ∀ (i : Nat) (d : PyData), ds[i]? = some d → ∃ t, ts[i]? = some t ∧ t.frz = some d
  | [], ds, h => by
    rw [frzAll] at h
    cases h
    exact ⟨rfl, fun i d hi => by simp at hi⟩
  | t :: ts, ds, h => by
    obtain ⟨d, r, rfl, q1, q2⟩ := frzAll_cons h
    obtain ⟨e1, e2⟩ := frzAll_at q2
    refine ⟨by simp [e1], fun i d' hi => ?_⟩
    cases i with
    | zero =>
      simp at hi
      subst hi
      exact ⟨t, rfl, q1⟩
    | succ i =>
      obtain ⟨t', z1, z2⟩ := e2 i d' (by simpa using hi)
      exact ⟨t', by simpa using z1, z2⟩
theorem Vw.dq (e : Same G H) {v : V} {t : T} (h : Vw K G H v t) : ∀ {d : PyData}, t.frz = some d → Dq K H v d := by
  induction h with
  | dat h =>
    intro d hd
    rw [T.frz] at hd
    cases hd
    exact dp_mono e _ _ h
  | exc h =>
    intro d hd
    rw [T.frz] at hd
    cases hd
  | fdc h hk nd hd' =>
    intro d hd
    rw [T.frz] at hd
    cases hd
  | @node a k vs ts A h l c ih =>
    intro d hd
    cases k with
    | dct ks lk tk =>
      simp only [T.frz] at hd
      cases hd
    | obj c' fs =>
      simp only [T.frz] at hd
      cases hd
    | lst =>
      simp only [T.frz, Option.map_eq_some_iff] at hd
      obtain ⟨ds, h1, rfl⟩ := hd
      obtain ⟨e1, e2⟩ := frzAll_at h1
      refine .lst (xs := vs) (SqL.of h.1) (dpAll_of (l.trans e1) fun i v d hv hd => ?_)
      obtain ⟨t, z1, z2⟩ := e2 i d hd
      exact ih i v t hv z1 z2
end

/-- a frozen dict, looked at as a locked one -/
theorem Vw.fdcn {K : PySem.W.Frag} {G H : Hp} (e : Same G H) {v : V} {ks : List Key} {ds : List PyData} (h : Vw K G H v (.fdc ks ds)) : Vw K G H v (.node (.dct (ks.map fun k => (Sum.inl k : DK)) true false) (ds.map T.dat)) := by
  cases h with
  | @fdc a o kvs _ _ h hk nd hd =>
    have hl := dpAll_len hd
    refine .node (vs := kvs.map (·.2)) (A := fun b => b = a) ⟨?_, .inl ⟨rfl, kvs, by rw [← hk, List.map_map]; rfl, rfl, ?_⟩, fun _ => Iff.rfl⟩ (by rw [hl, List.length_map]) fun i v t hv ht => ?_
    · exact List.Pairwise.map _ (fun x y z w => z (Sum.inl.inj w)) nd
    · show if true = true then _ else _
      rw [if_pos rfl]
      exact ⟨o, e _ _ h⟩
    · rw [List.getElem?_map, Option.map_eq_some_iff] at ht
      obtain ⟨d, h1, rfl⟩ := ht
      obtain ⟨v', h2, h3⟩ := dpAll_at' hd h1
      rw [hv] at h2
      cases h2
      exact .dat h3

/-- v is a new tree r, over (G, H) grown to (G', H'); nothing that stood is changed -/
structure NewT (K : PySem.W.Frag) (G H : Hp) (v : V) (r : T) (G' H' : Hp) : Prop where
  g : Same G G'
  h : Same H H'
  s : Same G' H'
  f : ∀ b o, H b = some o → G b = none → G' b = none
  o : ∃ S, Own K G' H' v r S ∧ ∀ b, S b → H b = none
section
variable {K : PySem.W.Frag} {G H G' H' : Hp} {σ : L2.St} {env : Envt} {ω : Addr → Option Nat}
theorem NewT.of_dat {v : V} {d : PyData} (s : Same G H) (h : Dq K G v d) : NewT K G H v (.dat d) G H :=
  ⟨fun _ _ z => z, fun _ _ z => z, s, fun _ _ _ z => z, fun _ => False, .dat h fun _ z => z, fun _ z => z.elim⟩
theorem NewT.step {v : V} {r : T} (n : NewT K G H v r G' H') : Step G H (dom ω) G' H' := ⟨n.g, fun b o _ e => ⟨n.h b o e, n.f b o e⟩⟩
theorem NewT.rep {v : V} {r : T} (n : NewT K G H v r G' H') (q : Rep K G H σ env ω) : Rep K G' H' σ env ω := q.step n.g n.s fun b hb => by
  obtain ⟨⟨o, ho⟩, hg⟩ := q.there hb
  exact ⟨(n.h b o ho).trans ho.symm, n.f b o ho hg⟩
theorem NewT.own {v : V} {r : T} (n : NewT K G H v r G' H') (q : Rep K G H σ env ω) : ∃ S, Own K G' H' v r S ∧ (∀ b, S b → ω b = none) ∧ New H (dom ω) fun b => dom ω b ∨ S b := by
  obtain ⟨S, o, z⟩ := n.o
  exact ⟨S, o, fun b hb => q.fresh (z b hb), fun b hb => hb.imp id (z b)⟩
/-- a new list of frozen items -/
theorem NewT.lst {p : Addr} {vs : List V} {ds : List PyData} (s : Same G H) (hp : H p = none) (h : DqAll K G vs ds) : NewT K G H (.ref p) (.node .lst (ds.map .dat)) G (upd H p (.lst vs)) := by
  have k : Same H (upd H p (.lst vs)) := fun b o e => by rw [upd_ne (ne_of_none e hp)]; exact e
  refine ⟨fun _ _ z => z, k, fun b o e => k b o (s b o e), fun _ _ _ z => z, fun b => b = p, ?_, fun b e => by rw [e]; exact hp⟩
  refine .node (vs := vs) (A := fun b => b = p) (ω := fun _ => none) ⟨upd_same, fun b => Iff.rfl⟩ (fun b e => by rw [e]; exact same_free s hp) (by rw [List.length_map]; exact dpAll_len h) (fun i v t h1 h2 => ?_) (fun _ _ => rfl) (fun b => ⟨.inl, fun z => by
    rcases z with z | ⟨i, _, z⟩
    · exact z
    · cases z⟩)
  rw [List.getElem?_map] at h2
  cases e : ds[i]? with
  | none =>
    rw [e] at h2
    cases h2
  | some d =>
    rw [e] at h2
    cases h2
    obtain ⟨d', e1, e2⟩ := dpAll_at h h1
    rw [e] at e1
    cases e1
    exact .dat e2 fun _ z => by cases z
/-- a new tuple -/
theorem NewT.tup {p : Addr} {vs : List V} {ds : List PyData} (s : Same G H) (hp : H p = none) (h : DqAll K G vs ds) : NewT K G H (.ref p) (.dat (.tuple ds)) (upd G p (.tup vs)) (upd H p (.tup vs)) := by
  have gp := same_free s hp
  have kg : Same G (upd G p (.tup vs)) := fun b o e => by rw [upd_ne (ne_of_none e gp)]; exact e
  refine ⟨kg, fun b o e => by rw [upd_ne (ne_of_none e hp)]; exact e, fun b o e => ?_, fun b o e z => by rw [upd_ne (ne_of_none e hp)]; exact z, fun _ => False, .dat (.tup upd_same (dpAll_mono kg _ _ h)) fun _ z => z, fun _ z => z.elim⟩
  by_cases hb : b = p
  · subst hb
    rw [upd_same] at e ⊢
    exact e
  · rw [upd_ne hb] at e ⊢
    exact s b o e
end
end VR

/-! VR1: operations on trees, and the value rules for them. -/
namespace VR
open PySem PySem.Spec PyProof.Rows L2

def T.isDat : T → Option PyData
  | .dat d => some d
  | _ => none
def allDat : List T → Option (List PyData)
  | [] => some []
  | t :: ts => t.isDat.bind fun d => (allDat ts).map (d :: ·)
/-- a list's (false) or a tuple's (true) items, all frozen -/
def T.seq : T → Option (Bool × List PyData)
  | .dat (.list ds) => some (false, ds)
  | .dat (.tuple ds) => some (true, ds)
  | .node .lst ts => (allDat ts).map fun ds => (false, ds)
  | _ => none
/-- a new list of frozen items -/
def tl (ds : List PyData) : T := .node .lst (ds.map T.dat)
theorem allDat_map : ∀ ds : List PyData, allDat (ds.map T.dat) = some ds
  | [] => rfl
  | d :: ds => by simp [allDat, T.isDat, allDat_map ds]
theorem allDat_eq : ∀ {ts : List T} {ds : List PyData}, allDat ts = some ds → ts = ds.map T.dat
  | [], ds, h => by
    simp only [allDat, Option.some.injEq] at h
    subst h
    rfl
  | t :: ts, ds, h => by
    simp only [allDat, Option.bind_eq_some_iff, Option.map_eq_some_iff] at h
    obtain ⟨d, e1, r, e2, rfl⟩ := h
    cases t with
    | dat d' =>
      simp only [T.isDat, Option.some.injEq] at e1
      subst e1
      rw [List.map_cons, allDat_eq e2]
    | exc c => simp [T.isDat] at e1
    | fdc ks ds => simp [T.isDat] at e1
    | node k ts => simp [T.isDat] at e1
theorem tl_seq (ds : List PyData) : (tl ds).seq = some (false, ds) := by
  simp only [tl, T.seq, allDat_map]
  rfl
theorem tl_frz (ds : List PyData) : (tl ds).frz = some (.list ds) := by
  unfold tl
  rw [T.frz, frzAll_dat]
  rfl
section
variable {K : PySem.W.Frag} {G H : Hp} {v : V} {t : T}
theorem vw_seq (s : Same G H) (h : Vw K G H v t) {b : Bool} {ds : List PyData} (e : t.seq = some (b, ds)) : ∃ a vs, v = .ref a ∧ DqAll K G vs ds ∧ (b = false → SqL K H a vs) ∧ (b = true → H a = some (.tup vs)) := by
  unfold T.seq at e
  split at e
  · cases e
    cases h with
    | dat h =>
      cases h with
      | lst h1 h2 => exact ⟨_, _, rfl, h2, fun _ => same_sqL s h1, fun z => by cases z⟩
  · cases e
    cases h with
    | dat h =>
      cases h with
      | tup h1 h2 => exact ⟨_, _, rfl, h2, (fun z => by cases z), fun _ => s _ _ h1⟩
  · rename_i ts
    rw [Option.map_eq_some_iff] at e
    obtain ⟨ds', e1, e2⟩ := e
    cases e2
    have et := allDat_eq e1
    subst et
    cases h with
    | @node a k vs _ A h l c =>
      refine ⟨a, vs, rfl, dpAll_of (by rw [l, List.length_map]) fun i v d hv hd => ?_, fun _ => SqL.of h.1, fun z => by cases z⟩
      have q := c i v (.dat d) hv (by rw [List.getElem?_map, hd] <;> rfl)
      cases q with
      | dat q => exact q
  · cases e
theorem vw_dat {d : PyData} (h : Vw K G H v (.dat d)) : Dq K G v d := by
  cases h with
  | dat h => exact h
theorem dq_int {i : Int} (h : Dq K G v (.int i)) : v = .int i := by cases h; rfl
theorem dq_str {x : Str} (h : Dq K G v (.str x)) : v = .str x := by cases h; rfl
theorem dq_bl {b : Bool} (h : Dq K G v (.bool b)) : v = .bl b := by cases h; rfl
end

/-- a two-place operation by trees -/
def rB (K : PySem.W.Frag) (F : T → T → Option T) : R2 := fun x y H Q => ∃ (G : Hp) (t u r : T), Same G H ∧ Vw K G H x t ∧ Vw K G H y u ∧ F t u = some r ∧ ∀ v G' H', NewT K G H v r G' H' → Q v H'
/-- a call of one value by trees -/
def r1 (K : PySem.W.Frag) (F : T → Option T) : List V → Hp → VK → Prop := fun xs H Q => ∃ (G : Hp) (x : V) (t r : T), xs = [x] ∧ Same G H ∧ Vw K G H x t ∧ F t = some r ∧ ∀ v G' H', NewT K G H v r G' H' → Q v H'

/-! ### arithmetic -/
def addT : T → T → Option T
  | .dat (.int i), .dat (.int j) => some (.dat (.int (i + j)))
  | .dat (.str x), .dat (.str y) => if x.length + y.length ≤ sizeLine then some (.dat (.str (x ++ y))) else none
  | t, u => match t.seq, u.seq with
    | some (false, xs), some (false, ys) => if xs.length + ys.length ≤ sizeLine then some (tl (xs ++ ys)) else none
    | some (true, xs), some (true, ys) => if xs.length + ys.length ≤ sizeLine then some (.dat (.tuple (xs ++ ys))) else none
    | _, _ => none
def subT : T → T → Option T
  | .dat (.int i), .dat (.int j) => some (.dat (.int (i - j)))
  | _, _ => none
def mulT : T → T → Option T
  | .dat (.int i), .dat (.int j) => if (-(2 ^ 64) < i ∧ i < 2 ^ 64) ∨ (-(2 ^ 64) < j ∧ j < 2 ^ 64) then some (.dat (.int (i * j))) else none
  | .node .lst ts, .dat (.int k) => (allDat ts).bind fun xs => if 0 ≤ k ∧ k ≤ 1000 ∧ xs.length ≤ 1000 then some (tl (List.replicate k.toNat xs).flatten) else none
  | .dat (.tuple xs), .dat (.int k) => if 2 ≤ k ∧ k ≤ 1000 ∧ xs.length ≤ 1000 ∧ xs ≠ [] then some (.dat (.tuple (List.replicate k.toNat xs).flatten)) else none
  | _, _ => none
def divT : T → T → Option T
  | .dat (.int i), .dat (.int j) => if j ≠ 0 ∧ j.natAbs < 1073741824 then some (.dat (.int (i.fdiv j))) else none
  | _, _ => none
def modT : T → T → Option T
  | .dat (.int i), .dat (.int j) => if j ≠ 0 then some (.dat (.int (i.fmod j))) else none
  | _, _ => none
def powT : T → T → Option T
  | .dat (.int i), .dat (.int j) => if 0 ≤ j ∧ j ≤ 1000000 ∧ i.natAbs < 2 ^ 64 then some (.dat (.int (i ^ j.toNat))) else none
  | _, _ => none

section
variable {X : Cx}
theorem op_catR : OpR X (binaryOp .Add) (fun x y H Q => ∃ l b xs zs, x = .ref l ∧ y = .ref b ∧ SqL X.K H l xs ∧ SqL X.K H b zs ∧ xs.length + zs.length ≤ sizeLine ∧ ∀ p, H p = none → Q (.ref p) (upd H p (.lst (xs ++ zs)))) := by
  intro pins s σ H x y v u Q I rx ry h
  obtain ⟨l, b, xs, zs, rfl, rfl, hH, hB, hz, q⟩ := h
  cases rx
  cases ry
  obtain ⟨its, r, pl, z⟩ := I.list hH
  obtain ⟨its2, r2, pl2, z2⟩ := I.list hB
  have l1 := r.length
  have l2 := r2.length
  obtain ⟨⟨cls, dd, dat, sl⟩, ho, hc, n, hd⟩ := pl.isList
  obtain ⟨⟨cls2, dd2, dat2, sl2⟩, ho2, hc2, n2, hd2⟩ := pl2.isList
  simp only at hc hd hc2 hd2
  subst hc hd hc2 hd2
  refine PySem.concat_meets ⟨_, ho, rfl⟩ ⟨_, ho2, rfl⟩ noFill_list_add seq_list_add PySem.F.slot_list_add PySem.F.entry_list_add (PySem.F.args_list_add_2 _ _) (list_addW l b its.toArray its2.toArray n n2 dd dd2 sl sl2 (by rw [List.size_toArray, List.size_toArray]; omega)) ⟨ho, ho2, ?_⟩
  have ea : its.toArray ++ its2.toArray = (its ++ its2).toArray := by simp
  rw [ea]
  exact ⟨.ref _, _, I.lnew (t' := s.toks) (r.append r2) (by rw [List.length_append]; omega), rfl, q _ I.fresh⟩
theorem dqAll_rep {K : PySem.W.Frag} {G : Hp} {vs : List V} {ds : List PyData} (h : DqAll K G vs ds) : ∀ k : Nat, DqAll K G (List.replicate k vs).flatten (List.replicate k ds).flatten
  | 0 => by simp; exact .nil
  | k + 1 => by
    rw [List.replicate_succ, List.replicate_succ, List.flatten_cons, List.flatten_cons]
    exact dpAll_app h (dqAll_rep h k)
theorem dqAll_nil {K : PySem.W.Frag} {G : Hp} {vs : List V} {ds : List PyData} (h : DqAll K G vs ds) : vs = [] ↔ ds = [] := by
  cases h with
  | nil => simp
  | cons a b => simp
theorem opr_add : OpR X (binaryOp .Add) (rB X.K addT) := by
  intro pins s σ H x y v u Q I rx ry h
  obtain ⟨G, t, u', r, sg, h1, h2, e, k⟩ := h
  unfold addT at e
  split at e
  · cases e
    cases dq_int (vw_dat h1)
    cases dq_int (vw_dat h2)
    exact op_add pins s σ H _ _ v u Q I rx ry ⟨_, _, rfl, rfl, k _ _ _ (.of_dat sg (.int _))⟩
  · split at e
    · rename_i hz
      cases e
      cases dq_str (vw_dat h1)
      cases dq_str (vw_dat h2)
      exact op_add_str pins s σ H _ _ v u Q I rx ry ⟨_, _, rfl, rfl, hz, k _ _ _ (.of_dat sg (.str _))⟩
    · cases e
  · split at e
    · rename_i xs ys e1 e2
      split at e
      · rename_i hz
        cases e
        obtain ⟨a, vs, rfl, q1, q2, _⟩ := vw_seq sg h1 e1
        obtain ⟨b, us, rfl, p1, p2, _⟩ := vw_seq sg h2 e2
        refine op_catR pins s σ H _ _ v u Q I rx ry ⟨a, b, vs, us, rfl, rfl, q2 rfl, p2 rfl, by rw [dpAll_len q1, dpAll_len p1]; exact hz, fun p hp => k _ _ _ (.lst sg hp (dpAll_app q1 p1))⟩
      · cases e
    · rename_i xs ys e1 e2
      split at e
      · rename_i hz
        cases e
        obtain ⟨a, vs, rfl, q1, _, q2⟩ := vw_seq sg h1 e1
        obtain ⟨b, us, rfl, p1, _, p2⟩ := vw_seq sg h2 e2
        have q2' := q2 rfl
        have p2' := p2 rfl
        -- the tuples stand in G
        have g1 : ∀ (w' : V) (ds : List PyData) (t' : T), Vw X.K G H w' t' → t'.seq = some (true, ds) → Dq X.K G w' (.tuple ds) := by
          intro w' ds t' hw ht
          unfold T.seq at ht
          split at ht
          · cases ht
          · cases ht
            exact vw_dat hw
          · rw [Option.map_eq_some_iff] at ht
            obtain ⟨_, _, z⟩ := ht
            cases z
          · cases ht
        refine op_catA pins s σ H _ _ v u Q I rx ry ⟨a, b, vs, us, rfl, rfl, SqT.of q2', SqT.of p2', by rw [dpAll_len q1, dpAll_len p1]; exact hz, fun z => ?_, fun _ z => ?_, fun _ _ p hp => k _ _ _ (.tup sg hp (dpAll_app q1 p1))⟩
        · have e3 := (dqAll_nil q1).mp z
          subst e3
          exact k _ _ _ (.of_dat sg (g1 _ _ _ h2 e2))
        · have e3 := (dqAll_nil p1).mp z
          subst e3
          rw [List.append_nil] at k
          exact k _ _ _ (.of_dat sg (g1 _ _ _ h1 e1))
      · cases e
    · cases e
theorem opr_sub : OpR X (binaryOp .Sub) (rB X.K subT) := by
  intro pins s σ H x y v u Q I rx ry h
  obtain ⟨G, t, u', r, sg, h1, h2, e, k⟩ := h
  unfold subT at e
  split at e
  · cases e
    cases dq_int (vw_dat h1)
    cases dq_int (vw_dat h2)
    exact op_sub pins s σ H _ _ v u Q I rx ry ⟨_, _, rfl, rfl, k _ _ _ (.of_dat sg (.int _))⟩
  · cases e
theorem vw_list {K : PySem.W.Frag} {G H : Hp} {v : V} {ds : List PyData} (h : Vw K G H v (tl ds)) : ∃ a vs, v = .ref a ∧ H a = some (.lst vs) ∧ DqAll K G vs ds := by
  unfold tl at h
  cases h with
  | @node a k vs _ A h l c =>
    refine ⟨a, vs, rfl, h.1, dpAll_of (by rw [l, List.length_map]) fun i v d hv hd => ?_⟩
    have q := c i v (.dat d) hv (by rw [List.getElem?_map, hd] <;> rfl)
    exact vw_dat q
theorem opr_mul : OpR X (binaryOp .Mult) (rB X.K mulT) := by
  intro pins s σ H x y v u Q I rx ry h
  obtain ⟨G, t, u', r, sg, h1, h2, e, k⟩ := h
  unfold mulT at e
  split at e
  · split at e
    · rename_i hz
      cases e
      cases dq_int (vw_dat h1)
      cases dq_int (vw_dat h2)
      exact op_mul pins s σ H _ _ v u Q I rx ry ⟨_, _, rfl, rfl, hz, k _ _ _ (.of_dat sg (.int _))⟩
    · cases e
  · rw [Option.bind_eq_some_iff] at e
    obtain ⟨xs, e1, e⟩ := e
    split at e
    · rename_i hz
      cases e
      have et := allDat_eq e1
      subst et
      obtain ⟨a, vs, rfl, q1, q2⟩ := vw_list h1
      cases dq_int (vw_dat h2)
      have hl := dpAll_len q2
      refine op_rep pins s σ H _ _ v u Q I rx ry ⟨a, _, vs, rfl, rfl, q1, by omega, by omega, ?_, fun p hp => k _ _ _ (.lst sg hp (dqAll_rep q2 _))⟩
      exact Nat.le_trans (Nat.mul_le_mul (by omega : vs.length ≤ 1000) (by omega : _ ≤ 1000)) (by decide)
    · cases e
  · split at e
    · rename_i hz
      cases e
      cases dq_int (vw_dat h2)
      cases vw_dat h1 with
      | tup q1 q2 =>
        have hl := dpAll_len q2
        exact op_repT pins s σ H _ _ v u Q I rx ry ⟨_, _, _, rfl, rfl, SqT.of (sg _ _ q1), fun z => hz.2.2.2 ((dqAll_nil q2).mp z), by omega, by omega, by omega, fun p hp => k _ _ _ (.tup sg hp (dqAll_rep q2 _))⟩
    · cases e
  · cases e
theorem opr_div : OpR X (binaryOp .FloorDiv) (rB X.K divT) := by
  intro pins s σ H x y v u Q I rx ry h
  obtain ⟨G, t, u', r, sg, h1, h2, e, k⟩ := h
  unfold divT at e
  split at e
  · split at e
    · rename_i hz
      cases e
      cases dq_int (vw_dat h1)
      cases dq_int (vw_dat h2)
      exact op_fdivN pins s σ H _ _ v u Q I rx ry ⟨_, _, rfl, rfl, hz, k _ _ _ (.of_dat sg (.int _))⟩
    · cases e
  · cases e
theorem opr_mod : OpR X (binaryOp .Mod) (rB X.K modT) := by
  intro pins s σ H x y v u Q I rx ry h
  obtain ⟨G, t, u', r, sg, h1, h2, e, k⟩ := h
  unfold modT at e
  split at e
  · split at e
    · rename_i hz
      cases e
      cases dq_int (vw_dat h1)
      cases dq_int (vw_dat h2)
      exact op_modN pins s σ H _ _ v u Q I rx ry ⟨_, _, rfl, rfl, hz, k _ _ _ (.of_dat sg (.int _))⟩
    · cases e
  · cases e
theorem opr_pow : OpR X (binaryOp .Pow) (rB X.K powT) := by
  intro pins s σ H x y v u Q I rx ry h
  obtain ⟨G, t, u', r, sg, h1, h2, e, k⟩ := h
  unfold powT at e
  split at e
  · split at e
    · rename_i hz
      cases e
      cases dq_int (vw_dat h1)
      cases dq_int (vw_dat h2)
      exact op_pow pins s σ H _ _ v u Q I rx ry ⟨_, _, rfl, rfl, hz, k _ _ _ (.of_dat sg (.int _))⟩
    · cases e
  · cases e
def binT (op : Operator) (t u : T) : Option T := match op with
  | .Add => addT t u
  | .Sub => subT t u
  | .Mult => mulT t u
  | .FloorDiv => divT t u
  | .Mod => modT t u
  | .Pow => powT t u
  | _ => none
theorem opr_bin (op : Operator) : OpR X (binaryOp op) (rB X.K (binT op)) := by
  have none' : ∀ op, (∀ t u, binT op t u = none) → OpR X (binaryOp op) (rB X.K (binT op)) := fun op z pins s σ H x y v u Q I rx ry h => by
    obtain ⟨G, t, u', r, sg, h1, h2, e, k⟩ := h
    rw [z] at e
    cases e
  cases op
  case Add => exact opr_add
  case Sub => exact opr_sub
  case Mult => exact opr_mul
  case FloorDiv => exact opr_div
  case Mod => exact opr_mod
  case Pow => exact opr_pow
  all_goals exact none' _ fun _ _ => rfl
end

/-! ### comparisons -/
def okD (d : PyData) : Bool := d.plain && decide (d.depth ≤ 40)
def eqT (t u : T) : Option Bool := t.frz.bind fun d => u.frz.bind fun e => if okD d && okD e then some (PyData.eqv d e) else none
def notNone : PyData → Bool
  | .none => false
  | _ => true
def ordT (f : PyData → PyData → Bool) (t u : T) : Option Bool := t.frz.bind fun d => u.frz.bind fun e =>
  if PySem.W.alike d e && okD d && okD e && notNone d then some (f d e) else none
def keyOf : PyData → Option Key
  | .int i => some (Sum.inl i)
  | .str x => some (Sum.inr x)
  | _ => none
def keysOf : List PyData → Option (List Key)
  | [] => some []
  | d :: ds => (keyOf d).bind fun k => (keysOf ds).map (k :: ·)
def DK.of : PyData → Option DK
  | .int i => some (.inl (.inl i))
  | .str x => some (.inl (.inr x))
  | .tuple ds => (keysOf ds).map Sum.inr
  | _ => none
/-- where a key stands -/
def ixK (ks : List DK) (k : DK) : Option Nat := ks.findIdx? fun q => decide (q = k)
def okK (ks : List DK) (lk : Bool) (k : DK) : Bool := (ks.all fun q => q.isLeft == k.isLeft) && (!ks.isEmpty || !lk)
def inT (x c : T) : Option Bool := match c with
  | .dat (.str z) => match x with
    | .dat (.str y) => if y.cps.size = 1 then some (decide (y.cps.getD 0 0 ∈ z.cps.toList)) else none
    | _ => none
  | .node (.dct ks lk tk) ts => x.frz.bind fun d => (DK.of d).bind fun k => if okK ks lk k && decide (ks.length = ts.length) then some (ixK ks k).isSome else none
  | c => c.frz.bind fun ds => x.frz.bind fun d => if okD ds && okD d then (match ds with
    | .list xs => some (xs.any fun y => PyData.eqv y d)
    | .tuple xs => some (xs.any fun y => PyData.eqv y d)
    | _ => none) else none
def isNon : T → Bool
  | .dat .none => true
  | _ => false
def isT (t u : T) : Option Bool := match u with
  | .dat .none => some (isNon t)
  | .dat (.bool b) => match t with
    | .dat (.bool a) => some (decide (a = b))
    | _ => none
  | _ => none
def cmpT (op : CmpOp) (t u : T) : Option Bool := match op with
  | .Eq => eqT t u
  | .NotEq => (eqT t u).map (!·)
  | .Lt => ordT PySem.W.dataLt t u
  | .LtE => ordT (fun d e => !PySem.W.dataLt e d) t u
  | .Gt => ordT (fun d e => PySem.W.dataLt e d) t u
  | .GtE => ordT (fun d e => !PySem.W.dataLt d e) t u
  | .In => inT t u
  | .NotIn => (inT t u).map (!·)
  | .Is => isT t u
  | .IsNot => (isT t u).map (!·)
/-- a comparison by trees -/
def rC (K : PySem.W.Frag) (F : T → T → Option Bool) : R2 := fun x y H Q => ∃ (G : Hp) (t u : T) (b : Bool), Same G H ∧ Vw K G H x t ∧ Vw K G H y u ∧ F t u = some b ∧ Q (.bl b) H
section
variable {X : Cx}
theorem okD_ok {d e : PyData} {A : Around} (hd : okD d = true) (he : okD e = true) (hu : A.units + 64 < cLine) : d.plain = true ∧ e.plain = true ∧ d.depth ≤ 40 ∧ e.depth ≤ 40 ∧ A.units + min d.depth e.depth < cLine := by
  unfold okD at hd he
  rw [Bool.and_eq_true, decide_eq_true_eq] at hd he
  refine ⟨hd.1, he.1, hd.2, he.2, ?_⟩
  have := Nat.min_le_left d.depth e.depth
  omega
theorem vw_reads {pins : List (Addr × Obj)} {σ : L2.St} {G H : Hp} {s : Shared} {x : V} {v : Value} {t : T} {d : PyData} (I : Inv X pins σ H s) (sg : Same G H) (h : Vw X.K G H x t) (e : t.frz = some d) (rx : RelV x v) : ∃ as, Reads s.heap v d as :=
  Dp.reads I d x v (dq_dp _ _ (h.dq sg e)) rx
theorem opc_eq (hu : X.A.units + 64 < cLine) : OpR X (compareOp .Eq) (rC X.K (cmpT .Eq)) := by
  intro pins s σ H x y v u Q I rx ry h
  obtain ⟨G, t, u', b, sg, h1, h2, e, k⟩ := h
  simp only [cmpT, eqT, Option.bind_eq_some_iff] at e
  obtain ⟨d, e1, d', e2, e⟩ := e
  split at e
  · rename_i hk
    cases e
    rw [Bool.and_eq_true] at hk
    obtain ⟨p1, p2, _, _, p3⟩ := okD_ok hk.1 hk.2 hu
    obtain ⟨as, ra⟩ := vw_reads I sg h1 e1 rx
    obtain ⟨bs, rb⟩ := vw_reads I sg h2 e2 ry
    exact PySem.SeqAt.eq_plain ra rb p1 p2 p3 (fin_bl I k rfl)
  · cases e
theorem opc_ne (hu : X.A.units + 64 < cLine) : OpR X (compareOp .NotEq) (rC X.K (cmpT .NotEq)) := by
  intro pins s σ H x y v u Q I rx ry h
  obtain ⟨G, t, u', b, sg, h1, h2, e, k⟩ := h
  simp only [cmpT, eqT, Option.map_eq_some_iff, Option.bind_eq_some_iff] at e
  obtain ⟨c, ⟨d, e1, d', e2, e⟩, rfl⟩ := e
  split at e
  · rename_i hk
    cases e
    rw [Bool.and_eq_true] at hk
    obtain ⟨p1, p2, _, _, p3⟩ := okD_ok hk.1 hk.2 hu
    obtain ⟨as, ra⟩ := vw_reads I sg h1 e1 rx
    obtain ⟨bs, rb⟩ := vw_reads I sg h2 e2 ry
    exact PySem.SeqAt.ne_plain ra rb p1 p2 p3 (fin_bl I k rfl)
  · cases e
theorem ord_ok {f : PyData → PyData → Bool} {t u : T} {b : Bool} {A : Around} (hu : A.units + 64 < cLine) (e : ordT f t u = some b) : ∃ d d', t.frz = some d ∧ u.frz = some d' ∧ PySem.W.alike d d' = true ∧ d ≠ .none ∧ A.units + min d.depth d'.depth < cLine ∧ b = f d d' := by
  simp only [ordT, Option.bind_eq_some_iff] at e
  obtain ⟨d, e1, d', e2, e⟩ := e
  split at e
  · rename_i hk
    cases e
    simp only [Bool.and_eq_true] at hk
    obtain ⟨_, _, _, _, p3⟩ := okD_ok hk.1.1.2 hk.1.2 hu
    exact ⟨d, d', e1, e2, hk.1.1.1, (fun z => by rw [z] at hk; exact absurd hk.2 (by decide)), p3, rfl⟩
  · cases e
theorem opc_lt (hu : X.A.units + 64 < cLine) : OpR X (compareOp .Lt) (rC X.K (cmpT .Lt)) := by
  intro pins s σ H x y v u Q I rx ry h
  obtain ⟨G, t, u', b, sg, h1, h2, e, k⟩ := h
  obtain ⟨d, d', e1, e2, al, ne, hz, rfl⟩ := ord_ok hu e
  obtain ⟨as, ra⟩ := vw_reads I sg h1 e1 rx
  obtain ⟨bs, rb⟩ := vw_reads I sg h2 e2 ry
  exact PySem.W.lt_data ra rb al ne hz (fin_bl I k rfl)
theorem opc_le (hu : X.A.units + 64 < cLine) : OpR X (compareOp .LtE) (rC X.K (cmpT .LtE)) := by
  intro pins s σ H x y v u Q I rx ry h
  obtain ⟨G, t, u', b, sg, h1, h2, e, k⟩ := h
  obtain ⟨d, d', e1, e2, al, ne, hz, rfl⟩ := ord_ok hu e
  obtain ⟨as, ra⟩ := vw_reads I sg h1 e1 rx
  obtain ⟨bs, rb⟩ := vw_reads I sg h2 e2 ry
  exact PySem.W.le_data ra rb al ne hz (fin_bl I k rfl)
theorem opc_gt (hu : X.A.units + 64 < cLine) : OpR X (compareOp .Gt) (rC X.K (cmpT .Gt)) := by
  intro pins s σ H x y v u Q I rx ry h
  obtain ⟨G, t, u', b, sg, h1, h2, e, k⟩ := h
  obtain ⟨d, d', e1, e2, al, ne, hz, rfl⟩ := ord_ok hu e
  obtain ⟨as, ra⟩ := vw_reads I sg h1 e1 rx
  obtain ⟨bs, rb⟩ := vw_reads I sg h2 e2 ry
  exact PySem.W.gt_data ra rb al ne hz (fin_bl I k rfl)
theorem opc_ge (hu : X.A.units + 64 < cLine) : OpR X (compareOp .GtE) (rC X.K (cmpT .GtE)) := by
  intro pins s σ H x y v u Q I rx ry h
  obtain ⟨G, t, u', b, sg, h1, h2, e, k⟩ := h
  obtain ⟨d, d', e1, e2, al, ne, hz, rfl⟩ := ord_ok hu e
  obtain ⟨as, ra⟩ := vw_reads I sg h1 e1 rx
  obtain ⟨bs, rb⟩ := vw_reads I sg h2 e2 ry
  exact PySem.W.ge_data ra rb al ne hz (fin_bl I k rfl)
end
/-! ### dicts: the empty one is of both kinds -/
section
variable {X : Cx} {pins : List (Addr × Obj)} {σ : L2.St} {H : Hp} {s : Shared} {a : Addr}
theorem flip_kt (I : Inv X pins σ H s) (h : H a = some (.dK [])) : Inv X pins σ (upd H a (.dT [])) s := by
  obtain ⟨z, hd, vs, r, o, es, ep, e1, e2, e3, e4, e5, e6⟩ := I.hok a _ h
  cases r
  have e7 : es.toList = [] := by
    cases q : es.toList with
    | nil => rfl
    | cons x xs =>
      rw [q] at e5
      cases e5
  refine I.write (h' := s.heap) (t' := s.toks) (e := a) (by rw [h]; exact True.intro) (.inl rfl) (fun b u _ q => q) ⟨_, e1⟩ ?_
  exact ⟨z, hd, [], .nil, o, es, ep, e1, e2, e3, by rw [e7]; rfl, by simp⟩
theorem flip_tk (I : Inv X pins σ H s) (h : H a = some (.dT [])) : Inv X pins σ (upd H a (.dK [])) s := by
  obtain ⟨z, hd, xs, r, o, es, ep, e1, e2, e3, e4, e5⟩ := I.hok a _ h
  cases r
  have e7 : es = #[] := by
    have q : es.toList = [] := e4
    exact Array.toList_eq_nil_iff.mp q
  refine I.write (h' := s.heap) (t' := s.toks) (e := a) (by rw [h]; exact True.intro) (.inl rfl) (fun b u _ q => q) ⟨_, e1⟩ ?_
  subst e7
  exact ⟨z, hd, [], .nil, o, #[], ep, e1, e2, e3, fun e he => by simp at he, .nil, by simp⟩
theorem upd_id {o : HO} (h : H a = some o) : upd H a o = H := by
  funext b
  by_cases e : b = a
  · subst e
    rw [upd_same, h]
  · rw [upd_ne e]
end
def keyD : Key → PyData
  | .inl i => .int i
  | .inr x => .str x
theorem keyOf_eq {d : PyData} {k : Key} (h : keyOf d = some k) : d = keyD k := by
  cases d <;> simp [keyOf] at h <;> subst h <;> rfl
theorem keysOf_eq : ∀ {ds : List PyData} {ks : List Key}, keysOf ds = some ks → ds = ks.map keyD
  | [], ks, h => by
    simp only [keysOf, Option.some.injEq] at h
    subst h
    rfl
  | d :: ds, ks, h => by
    simp only [keysOf, Option.bind_eq_some_iff, Option.map_eq_some_iff] at h
    obtain ⟨k, e1, r, e2, rfl⟩ := h
    rw [keyOf_eq e1, keysOf_eq e2]
    rfl
theorem dq_key {K : PySem.W.Frag} {G : Hp} {v : V} {k : Key} (h : Dq K G v (keyD k)) : v = kV k := by
  cases k with
  | inl i => exact dq_int h
  | inr x => exact dq_str h
theorem dq_keys {K : PySem.W.Frag} {G : Hp} : ∀ {vs : List V} {ks : List Key}, DqAll K G vs (ks.map keyD) → vs = ks.map kV
  | _, [], h => by
    rw [List.map_nil] at h
    cases h
    rfl
  | _, k :: ks, h => by
    rw [List.map_cons] at h
    cases h with
    | cons h1 h2 => rw [dq_key h1, dq_keys h2, List.map_cons]
theorem findIdx_val {κ : Type} [DecidableEq κ] {f : κ → DK} (hf : ∀ x y, f x = f y → x = y) (k : κ) : ∀ (kvs : List (κ × V)), ((kvs.map fun q => f q.1).findIdx? fun q => decide (q = f k)).bind (fun i => (kvs.map (·.2))[i]?) = valV kvs k
  | [] => rfl
  | p :: r => by
    rw [List.map_cons, List.map_cons, List.findIdx?_cons]
    by_cases e : p.1 = k
    · rw [valV_pos e, e]
      simp
    · have ne : ¬ f p.1 = f k := fun z => e (hf _ _ z)
      rw [valV_neg e, ← findIdx_val hf k r]
      simp only [ne, decide_false, Bool.false_eq_true, if_false]
      cases ((r.map fun q => f q.1).findIdx? fun q => decide (q = f k)) <;> simp
section
variable {X : Cx} {pins : List (Addr × Obj)} {σ : L2.St} {H : Hp} {s : Shared} {a : Addr}
theorem cellAt_rd {lk : Bool} {u : HO} (h : CellAt H a lk u) : Rd H a u := by
  unfold CellAt at h
  split at h
  · exact .inr h
  · exact .inl h
/-- the dict at a, asked at the key y -/
theorem with_dict {ks : List DK} {lk tk : Bool} {vs : List V} {A : Addr → Prop} {y : V} {d : PyData} {k : DK} (I : Inv X pins σ H s) (n : NodeAt X.K H a (.dct ks lk tk) vs A) (hy : Dq X.K H y d) (hk : DK.of d = some k) (ok : okK ks lk k = true) :
    ∃ H1, Inv X pins σ H1 s ∧ DGet H1 a y ((ixK ks k).bind fun i => vs[i]?) ∧ IsD H1 a ∧ ∀ s', Inv X pins σ H1 s' → Inv X pins σ H s' := by
  obtain ⟨_, n1, _⟩ := n
  unfold okK at ok
  rw [Bool.and_eq_true] at ok
  -- the key, read
  have kk : (∃ k1, k = Sum.inl k1 ∧ y = kV k1) ∨ ∃ k1 b, k = Sum.inr k1 ∧ y = .ref b ∧ H b = some (.tup (k1.map kV)) := by
    cases d with
    | int i =>
      simp only [DK.of, Option.some.injEq] at hk
      exact .inl ⟨_, hk.symm, dq_int hy⟩
    | str x =>
      simp only [DK.of, Option.some.injEq] at hk
      exact .inl ⟨_, hk.symm, dq_str hy⟩
    | tuple ds =>
      simp only [DK.of, Option.map_eq_some_iff] at hk
      obtain ⟨k1, e1, rfl⟩ := hk
      have e2 := keysOf_eq e1
      subst e2
      cases hy with
      | tup h1 h2 =>
        have e3 := dq_keys h2
        subst e3
        exact .inr ⟨k1, _, rfl, rfl, h1⟩
    | none => simp [DK.of] at hk
    | bool b => simp [DK.of] at hk
    | list ds => simp [DK.of] at hk
    | dict kvs => simp [DK.of] at hk
  rcases n1 with ⟨_, kvs, e1, e2, c⟩ | ⟨_, kvs, e1, e2, c⟩
  · rcases kk with ⟨k1, rfl, rfl⟩ | ⟨k1, b, rfl, rfl, hb⟩
    · refine ⟨H, I, .inl ⟨kvs, k1, cellAt_rd c, rfl, ?_⟩, .inl ⟨kvs, cellAt_rd c⟩, fun _ z => z⟩
      rw [← e1, ← e2]
      exact findIdx_val (f := fun q => (Sum.inl q : DK)) (fun x y z => Sum.inl.inj z) k1 kvs
    · -- a tuple asked of a dict that is told with plain keys: it is empty
      cases kvs with
      | cons p r =>
        rw [← e1] at ok
        simp at ok
      | nil =>
        simp only [List.map_nil] at e1 e2
        subst e1
        subst e2
        cases lk with
        | true => simp at ok
        | false =>
          have c' : H a = some (.dK []) := c
          have nb : b ≠ a := fun z => by
            rw [z, c'] at hb
            cases hb
          refine ⟨upd H a (.dT []), flip_kt I c', .inr ⟨[], k1, b, .inl upd_same, rfl, by rw [upd_ne nb]; exact hb, rfl⟩, .inr ⟨[], .inl upd_same⟩, fun s' I' => ?_⟩
          have I2 := flip_tk I' upd_same
          rw [upd_upd, upd_id c'] at I2
          exact I2
  · rcases kk with ⟨k1, rfl, rfl⟩ | ⟨k1, b, rfl, rfl, hb⟩
    · cases kvs with
      | cons p r =>
        rw [← e1] at ok
        simp at ok
      | nil =>
        simp only [List.map_nil] at e1 e2
        subst e1
        subst e2
        cases lk with
        | true => simp at ok
        | false =>
          have c' : H a = some (.dT []) := c
          refine ⟨upd H a (.dK []), flip_tk I c', .inl ⟨[], k1, .inl upd_same, rfl, rfl⟩, .inl ⟨[], .inl upd_same⟩, fun s' I' => ?_⟩
          have I2 := flip_kt I' upd_same
          rw [upd_upd, upd_id c'] at I2
          exact I2
    · refine ⟨H, I, .inr ⟨kvs, k1, b, cellAt_rd c, rfl, hb, ?_⟩, .inr ⟨kvs, cellAt_rd c⟩, fun _ z => z⟩
      rw [← e1, ← e2]
      exact findIdx_val (f := fun q => (Sum.inr q : DK)) (fun x y z => Sum.inr.inj z) k1 kvs
end
end VR

/-! VR2: more value rules: in, is, items, slices, calls. -/
namespace VR
open PySem PySem.Spec PyProof.Rows L2
section
variable {X : Cx}
theorem one_sign {y : Str} (h : y.cps.size = 1) : y = ⟨#[y.cps.getD 0 0]⟩ := by
  obtain ⟨cps⟩ := y
  obtain ⟨l⟩ := cps
  cases l with
  | nil => simp at h
  | cons c r =>
    cases r with
    | nil => rfl
    | cons c' r' => simp at h
theorem inT_dat {x c : T} {b : Bool} (e : (c.frz.bind fun ds => x.frz.bind fun d => if okD ds && okD d then (match ds with
    | .list xs => some (xs.any fun y => PyData.eqv y d)
    | .tuple xs => some (xs.any fun y => PyData.eqv y d)
    | _ => none) else none) = some b) : ∃ d ds, x.frz = some d ∧ okD d = true ∧ ((c.frz = some (.list ds) ∧ okD (.list ds) = true) ∨ (c.frz = some (.tuple ds) ∧ okD (.tuple ds) = true)) ∧ b = ds.any fun y => PyData.eqv y d := by
  simp only [Option.bind_eq_some_iff] at e
  obtain ⟨ds, e1, d, e2, e⟩ := e
  split at e
  · rename_i hk
    rw [Bool.and_eq_true] at hk
    split at e
    · cases e
      exact ⟨d, _, e2, hk.2, .inl ⟨e1, hk.1⟩, rfl⟩
    · cases e
      exact ⟨d, _, e2, hk.2, .inr ⟨e1, hk.1⟩, rfl⟩
    · cases e
  · cases e
theorem okD_list {ds : List PyData} (h : okD (.list ds) = true) : PyData.plainAll ds = true ∧ PyData.depthAll ds ≤ 40 := by
  unfold okD at h
  rw [Bool.and_eq_true, decide_eq_true_eq] at h
  refine ⟨by simpa [PyData.plain] using h.1, ?_⟩
  have := h.2
  simp only [PyData.depth] at this
  omega
theorem okD_tuple {ds : List PyData} (h : okD (.tuple ds) = true) : PyData.plainAll ds = true ∧ PyData.depthAll ds ≤ 40 := by
  unfold okD at h
  rw [Bool.and_eq_true, decide_eq_true_eq] at h
  refine ⟨by simpa [PyData.plain] using h.1, ?_⟩
  have := h.2
  simp only [PyData.depth] at this
  omega
theorem okD_one {d : PyData} (h : okD d = true) : d.plain = true ∧ d.depth ≤ 40 := by
  unfold okD at h
  rw [Bool.and_eq_true, decide_eq_true_eq] at h
  exact h
theorem opc_in0 (neg : Bool) (hu : X.A.units + 64 < cLine) (op : CmpOp) (ho : op = if neg then .NotIn else .In) : OpR X (compareOp op) (rC X.K fun t u => (inT t u).map fun b => if neg then !b else b) := by
  intro pins s σ H x y v u Q I rx ry h
  obtain ⟨G, t, u', b, sg, h1, h2, e, k⟩ := h
  rw [Option.map_eq_some_iff] at e
  obtain ⟨b0, e, rfl⟩ := e
  unfold inT at e
  split at e
  · split at e
    · split at e
      · rename_i z y0 hz
        cases e
        cases dq_str (vw_dat h1)
        cases dq_str (vw_dat h2)
        have ey := one_sign hz
        generalize y0.cps.getD 0 0 = c at ey k
        subst ey
        cases neg with
        | false =>
          subst ho
          exact op_in_sign pins s σ H _ _ v u Q I rx ry ⟨_, _, rfl, rfl, k⟩
        | true =>
          subst ho
          exact op_notIn_sign pins s σ H _ _ v u Q I rx ry ⟨_, _, rfl, rfl, k⟩
      · cases e
    · cases e
  · rename_i ks lk tk ts
    simp only [Option.bind_eq_some_iff] at e
    obtain ⟨d, e1, dk, e2, e⟩ := e
    split at e
    · rename_i hk
      rw [Bool.and_eq_true, decide_eq_true_eq] at hk
      cases e
      cases h2 with
      | @node a _ vs _ A n l c =>
        obtain ⟨H1, I1, g, _, back⟩ := with_dict I n (h1.dq sg e1) e2 hk.1
        have lk : ks.length = vs.length := by rw [hk.2, l]
        have es : ((ixK ks dk).bind fun i => vs[i]?).isSome = (ixK ks dk).isSome := by
          cases q : ixK ks dk with
          | none => rfl
          | some i =>
            have hi : i < ks.length := by
              unfold ixK at q
              exact (List.findIdx?_eq_some_iff_getElem.mp q).1
            rw [Option.bind_some, List.getElem?_eq_getElem (by omega)]
            rfl
        cases (show u = Value.ref a from ry)
        cases neg with
        | false =>
          subst ho
          refine d_in (by omega) I1 g rx fun s' I' => ?_
          rw [es]
          exact ⟨.bl _, H, back s' I', rfl, k⟩
        | true =>
          subst ho
          refine d_notIn (by omega) I1 g rx fun s' I' => ?_
          rw [es]
          exact ⟨.bl _, H, back s' I', rfl, k⟩
    · cases e
  · obtain ⟨d, ds, e1, p1, hc, rfl⟩ := inT_dat e
    obtain ⟨as, ra⟩ := vw_reads I sg h1 e1 rx
    obtain ⟨q1, q2⟩ := okD_one p1
    rcases hc with ⟨e2, p2⟩ | ⟨e2, p2⟩
    · obtain ⟨bs, rb⟩ := vw_reads I sg h2 e2 ry
      obtain ⟨q3, q4⟩ := okD_list p2
      have hz : X.A.units + 1 + min (PyData.depthAll ds) d.depth < cLine := by
        have := Nat.min_le_left (PyData.depthAll ds) d.depth
        omega
      cases neg with
      | false =>
        subst ho
        exact PySem.SeqAt.in_list_data rb ra q3 q1 hz (fin_bl I k rfl)
      | true =>
        subst ho
        exact PySem.SeqAt.notIn_list_data rb ra q3 q1 hz (fin_bl I k rfl)
    · obtain ⟨bs, rb⟩ := vw_reads I sg h2 e2 ry
      obtain ⟨q3, q4⟩ := okD_tuple p2
      have hz : X.A.units + 1 + min (PyData.depthAll ds) d.depth < cLine := by
        have := Nat.min_le_left (PyData.depthAll ds) d.depth
        omega
      cases neg with
      | false =>
        subst ho
        exact PySem.SeqAt.in_tuple_data rb ra q3 q1 hz (fin_bl I k rfl)
      | true =>
        subst ho
        exact PySem.SeqAt.notIn_tuple_data rb ra q3 q1 hz (fin_bl I k rfl)
theorem rC_congr {F F' : T → T → Option Bool} (h : ∀ t u, F' t u = F t u) {f : Value → Value → Sem Value} (r : OpR X f (rC X.K F)) : OpR X f (rC X.K F') := by
  have e : F' = F := by
    funext t u
    exact h t u
  rw [e]
  exact r
theorem opc_in (hu : X.A.units + 64 < cLine) : OpR X (compareOp .In) (rC X.K (cmpT .In)) := rC_congr (fun t u => by simp [cmpT]) (opc_in0 false hu .In rfl)
theorem opc_notin (hu : X.A.units + 64 < cLine) : OpR X (compareOp .NotIn) (rC X.K (cmpT .NotIn)) := rC_congr (fun t u => by simp [cmpT]) (opc_in0 true hu .NotIn rfl)
theorem vw_non {K : PySem.W.Frag} {G H : Hp} {v : V} {t : T} (h : Vw K G H v t) : decide (v = .non) = isNon t := by
  cases h with
  | dat h => cases h <;> rfl
  | exc h => rfl
  | fdc h hk nd hd => rfl
  | node h l c => rfl
theorem opc_is : OpR X (compareOp .Is) (rC X.K (cmpT .Is)) := by
  intro pins s σ H x y v u Q I rx ry h
  obtain ⟨G, t, u', b, sg, h1, h2, e, k⟩ := h
  simp only [cmpT, isT] at e
  split at e
  · cases e
    cases vw_dat h2
    refine op_isN pins s σ H _ _ v u Q I rx ry ⟨rfl, ?_⟩
    rw [vw_non h1]
    exact k
  · split at e
    · cases e
      cases dq_bl (vw_dat h1)
      cases dq_bl (vw_dat h2)
      exact op_isBl pins s σ H _ _ v u Q I rx ry ⟨_, _, rfl, rfl, k⟩
    · cases e
  · cases e
theorem opc_isnot : OpR X (compareOp .IsNot) (rC X.K (cmpT .IsNot)) := by
  intro pins s σ H x y v u Q I rx ry h
  obtain ⟨G, t, u', b, sg, h1, h2, e, k⟩ := h
  simp only [cmpT, isT, Option.map_eq_some_iff] at e
  obtain ⟨c, e, rfl⟩ := e
  split at e
  · cases e
    cases vw_dat h2
    refine op_notN pins s σ H _ _ v u Q I rx ry ⟨rfl, ?_⟩
    rw [vw_non h1]
    exact k
  · split at e
    · cases e
      cases dq_bl (vw_dat h1)
      cases dq_bl (vw_dat h2)
      exact op_notBl pins s σ H _ _ v u Q I rx ry ⟨_, _, rfl, rfl, k⟩
    · cases e
  · cases e
theorem opr_cmp (hu : X.A.units + 64 < cLine) (op : CmpOp) : OpR X (compareOp op) (rC X.K (cmpT op)) := by
  cases op
  case Eq => exact opc_eq hu
  case NotEq => exact opc_ne hu
  case Lt => exact opc_lt hu
  case LtE => exact opc_le hu
  case Gt => exact opc_gt hu
  case GtE => exact opc_ge hu
  case In => exact opc_in hu
  case NotIn => exact opc_notin hu
  case Is => exact opc_is
  case IsNot => exact opc_isnot
end
end VR

/-! VR3: items, slices, calls of built-ins with one value. -/
namespace VR
open PySem PySem.Spec PyProof.Rows L2
/-! ### items -/
def T.int? : T → Option Int
  | .dat (.int i) => some i
  | _ => none
def idxT (t u : T) : Option T := match t with
  | .dat (.list ds) => u.int?.bind fun i => (atI ds i).map T.dat
  | .dat (.tuple ds) => u.int?.bind fun i => (atI ds i).map T.dat
  | .dat (.str z) => u.int?.bind fun i => if z.length ≤ sizeLine then (atI z.cps.toList i).map fun c => T.dat (.str ⟨#[c]⟩) else none
  | .node .lst ts => u.int?.bind fun i => atI ts i
  | .node (.dct ks lk tk) ts => u.frz.bind fun d => (DK.of d).bind fun k => (ixK ks k).bind fun i => ts[i]?
  | .fdc ks ds => u.frz.bind fun d => (DK.of d).bind fun k => (ixK (ks.map fun k => (Sum.inl k : DK)) k).bind fun i => (ds.map T.dat)[i]?
  | _ => none
def isDct : T → Bool
  | .node (.dct _ _ _) _ => true
  | .fdc _ _ => true
  | _ => false
def rX (K : PySem.W.Frag) : R2 := fun x y H Q => ∃ (G : Hp) (t u r : T), Same G H ∧ Vw K G H x t ∧ Vw K G H y u ∧ idxT t u = some r ∧ isDct t = false ∧ ∀ v, Vw K G H v r → Q v H
theorem int?_eq {u : T} {i : Int} (h : u.int? = some i) : u = .dat (.int i) := by
  unfold T.int? at h
  split at h
  · cases h
    rfl
  · cases h
theorem atI_at {α β : Type} {xs : List α} {ys : List β} (hl : xs.length = ys.length) {i : Int} {y : β} (h : atI ys i = some y) : ∃ (j : Nat) (x : α), atI xs i = some x ∧ xs[j]? = some x ∧ ys[j]? = some y := by
  unfold atI at h ⊢
  rw [Option.bind_eq_some_iff] at h
  obtain ⟨j, e1, e2⟩ := h
  have hj : j < xs.length := by
    rw [hl]
    exact (List.getElem?_eq_some_iff.mp e2).1
  exact ⟨j, xs[j], by rw [hl, e1, Option.bind_some, List.getElem?_eq_getElem hj], List.getElem?_eq_getElem hj, e2⟩
section
variable {X : Cx}
/-- lists, tuples, texts -/
theorem ixr_seq : IxR X (rX X.K) := by
  intro value slice pins s σ H x y v u Q I rx ry h hsub
  obtain ⟨G, t, u', r, sg, h1, h2, e, nd1, k⟩ := h
  unfold idxT at e
  split at e
  · rw [Option.bind_eq_some_iff] at e
    obtain ⟨i, e1, e⟩ := e
    rw [Option.map_eq_some_iff] at e
    obtain ⟨d, e2, rfl⟩ := e
    have eu := int?_eq e1
    subst eu
    cases dq_int (vw_dat h2)
    cases vw_dat h1 with
    | lst q1 q2 =>
      obtain ⟨j, w', a1, a2, a3⟩ := atI_at (dpAll_len q2) e2
      obtain ⟨d', b1, b2⟩ := dpAll_at q2 a2
      rw [a3] at b1
      cases b1
      exact ix_list value slice pins s σ H _ _ v u Q I rx ry ⟨_, _, i, w', rfl, rfl, same_sqL sg q1, a1, k _ (.dat b2)⟩ hsub
  · rw [Option.bind_eq_some_iff] at e
    obtain ⟨i, e1, e⟩ := e
    rw [Option.map_eq_some_iff] at e
    obtain ⟨d, e2, rfl⟩ := e
    have eu := int?_eq e1
    subst eu
    cases dq_int (vw_dat h2)
    cases vw_dat h1 with
    | tup q1 q2 =>
      obtain ⟨j, w', a1, a2, a3⟩ := atI_at (dpAll_len q2) e2
      obtain ⟨d', b1, b2⟩ := dpAll_at q2 a2
      rw [a3] at b1
      cases b1
      exact ix_tup value slice pins s σ H _ _ v u Q I rx ry ⟨_, _, i, w', rfl, rfl, SqT.of (sg _ _ q1), a1, k _ (.dat b2)⟩ hsub
  · rw [Option.bind_eq_some_iff] at e
    obtain ⟨i, e1, e⟩ := e
    split at e
    · rename_i hz
      rw [Option.map_eq_some_iff] at e
      obtain ⟨c, e2, rfl⟩ := e
      have eu := int?_eq e1
      subst eu
      cases dq_int (vw_dat h2)
      cases dq_str (vw_dat h1)
      exact ix_str value slice pins s σ H _ _ v u Q I rx ry ⟨_, i, c, rfl, rfl, hz, e2, k _ (.dat (.str _))⟩ hsub
    · cases e
  · rw [Option.bind_eq_some_iff] at e
    obtain ⟨i, e1, e⟩ := e
    have eu := int?_eq e1
    subst eu
    cases dq_int (vw_dat h2)
    cases h1 with
    | @node a _ vs _ A n l c =>
      obtain ⟨j, w', a1, a2, a3⟩ := atI_at l e
      exact ix_list value slice pins s σ H _ _ v u Q I rx ry ⟨_, _, i, w', rfl, rfl, SqL.of n.1, a1, k _ (c j w' r a2 a3)⟩ hsub
  · simp [isDct] at nd1
  · simp [isDct] at nd1
  · cases e
/-- a dict's item that is there -/
theorem dget_there {H : Hp} {G : Hp} {x y : V} {ks : List DK} {lk tk : Bool} {ts : List T} {u r : T} (sg : Same G H) (h1 : Vw X.K G H x (.node (.dct ks lk tk) ts)) (h2 : Vw X.K G H y u) (e : idxT (.node (.dct ks lk tk) ts) u = some r) :
    ∃ a v, x = .ref a ∧ DGet H a y (some v) ∧ Vw X.K G H v r := by
  simp only [idxT, Option.bind_eq_some_iff] at e
  obtain ⟨d, e1, k, e2, i, e3, e4⟩ := e
  have hy := h2.dq sg e1
  cases h1 with
  | @node a _ vs _ A n l c =>
    have hi : i < vs.length := by
      rw [l]
      exact (List.getElem?_eq_some_iff.mp e4).1
    have ev := List.getElem?_eq_getElem hi
    refine ⟨a, vs[i], rfl, ?_, c i _ r ev e4⟩
    have hk := (List.findIdx?_eq_some_iff_getElem.mp e3)
    obtain ⟨hik, hkk, _⟩ := hk
    have kin : k ∈ ks := by
      have q : ks[i] = k := by simpa using hkk
      rw [← q]
      exact List.getElem_mem hik
    have lookup : (some vs[i] : Option V) = (ixK ks k).bind fun i => vs[i]? := by rw [e3, Option.bind_some, ev]
    rw [lookup]
    obtain ⟨_, n1, _⟩ := n
    rcases n1 with ⟨_, kvs, q1, q2, cc⟩ | ⟨_, kvs, q1, q2, cc⟩
    · -- plain keys
      rw [← q1, List.mem_map] at kin
      obtain ⟨p, _, rfl⟩ := kin
      have hy2 : y = kV p.1 := by
        cases d with
        | int i =>
          simp only [DK.of, Option.some.injEq] at e2
          have := Sum.inl.inj e2
          rw [← this]
          exact dq_int hy
        | str x =>
          simp only [DK.of, Option.some.injEq] at e2
          have := Sum.inl.inj e2
          rw [← this]
          exact dq_str hy
        | tuple ds =>
          simp only [DK.of, Option.map_eq_some_iff] at e2
          obtain ⟨_, _, z⟩ := e2
          cases z
        | none => simp [DK.of] at e2
        | bool b => simp [DK.of] at e2
        | list ds => simp [DK.of] at e2
        | dict kvs => simp [DK.of] at e2
      refine .inl ⟨kvs, p.1, cellAt_rd cc, hy2, ?_⟩
      rw [← q1, ← q2]
      exact findIdx_val (f := fun q => (Sum.inl q : DK)) (fun x y z => Sum.inl.inj z) p.1 kvs
    · rw [← q1, List.mem_map] at kin
      obtain ⟨p, _, rfl⟩ := kin
      cases d with
      | int i => simp [DK.of] at e2
      | str x => simp [DK.of] at e2
      | tuple ds =>
        simp only [DK.of, Option.map_eq_some_iff] at e2
        obtain ⟨k1, z1, z2⟩ := e2
        have z3 := Sum.inr.inj z2
        subst z3
        have z4 := keysOf_eq z1
        subst z4
        cases hy with
        | tup w1 w2 =>
          have z5 := dq_keys w2
          subst z5
          refine .inr ⟨kvs, p.1, _, cellAt_rd cc, rfl, w1, ?_⟩
          rw [← q1, ← q2]
          exact findIdx_val (f := fun q => (Sum.inr q : DK)) (fun x y z => Sum.inr.inj z) p.1 kvs
      | none => simp [DK.of] at e2
      | bool b => simp [DK.of] at e2
      | list ds => simp [DK.of] at e2
      | dict kvs => simp [DK.of] at e2
end
/-! ### slices -/
def cutD (ds : List PyData) (lo hi : Option Int) : List PyData := (ds.drop (HT.sIx ds.length 0 lo)).take (HT.sIx ds.length ds.length hi - HT.sIx ds.length 0 lo)
def sliT (t : T) (lo hi : Option Int) : Option T := match t with
  | .dat (.str z) => if z.length ≤ sizeLine then some (.dat (.str (cutS z lo hi))) else none
  | t => match t.seq with
    | some (false, ds) => some (tl (cutD ds lo hi))
    | some (true, ds) => some (.dat (.tuple (cutD ds lo hi)))
    | none => none
theorem dqAll_cut {K : PySem.W.Frag} {G : Hp} {vs : List V} {ds : List PyData} (h : DqAll K G vs ds) (lo hi : Option Int) : DqAll K G (cutV vs lo hi) (cutD ds lo hi) := by
  unfold cutV cutD
  rw [dpAll_len h]
  exact dpAll_take _ (dpAll_drop _ h)
section
variable {X : Cx}
theorem slr : SlR X (fun x lo hi H Q => ∃ (G : Hp) (t r : T), Same G H ∧ Vw X.K G H x t ∧ sliT t lo hi = some r ∧ ∀ v G' H', NewT X.K G H v r G' H' → Q v H') := by
  intro pins s σ H x v vl vu lo hi sl Q I rx hs pl pu h
  obtain ⟨G, t, r, sg, h1, e, k⟩ := h
  unfold sliT at e
  split at e
  · split at e
    · rename_i hz
      cases e
      cases dq_str (vw_dat h1)
      exact sl_str pins s σ H _ v vl vu lo hi sl Q I rx hs pl pu ⟨_, rfl, hz, k _ _ _ (.of_dat sg (.str _))⟩
    · cases e
  · split at e
    · rename_i ds e1
      cases e
      obtain ⟨a, vs, rfl, q1, q2, _⟩ := vw_seq sg h1 e1
      exact sl_list pins s σ H _ v vl vu lo hi sl Q I rx hs pl pu ⟨a, vs, rfl, q2 rfl, fun p hp => k _ _ _ (.lst sg hp (dqAll_cut q1 lo hi))⟩
    · rename_i ds e1
      cases e
      obtain ⟨a, vs, rfl, q1, _, q2⟩ := vw_seq sg h1 e1
      refine sl_tupA pins s σ H _ v vl vu lo hi sl Q I rx hs pl pu ⟨a, vs, rfl, SqT.of (q2 rfl), fun z => ?_, fun _ p hp => k _ _ _ (.tup sg hp (dqAll_cut q1 lo hi))⟩
      have ec : cutD ds lo hi = ds := by
        unfold cutD
        rw [← dpAll_len q1, z.1, z.2, List.drop_zero, dpAll_len q1, Nat.sub_zero, List.take_length]
      have g1 : Dq X.K G (.ref a) (.tuple ds) := by
        unfold T.seq at e1
        split at e1
        · cases e1
        · cases e1
          exact vw_dat h1
        · rw [Option.map_eq_some_iff] at e1
          obtain ⟨_, _, z⟩ := e1
          cases z
        · cases e1
      rw [ec] at k
      exact k _ _ _ (.of_dat sg g1)
    · cases e
end
/-! ### calls with one value -/
def lenT (t : T) : Option T := match t with
  | .dat (.str z) => if z.length ≤ sizeLine then some (.dat (.int z.length)) else none
  | t => t.seq.map fun p => .dat (.int p.2.length)
def listT (t : T) : Option T := t.seq.map fun p => tl p.2
def tupleT (t : T) : Option T := t.seq.map fun p => .dat (.tuple p.2)
def allInts : List PyData → Option (List Int)
  | [] => some []
  | d :: ds => match d with
    | .int i => (allInts ds).map (i :: ·)
    | _ => none
def allBools : List PyData → Option (List Bool)
  | [] => some []
  | d :: ds => match d with
    | .bool i => (allBools ds).map (i :: ·)
    | _ => none
def sumT (t : T) : Option T := match t.seq with
  | some (_, ds) => (allInts ds).map fun ns => .dat (.int ns.sum)
  | none => none
def allT (t : T) : Option T := match t.seq with
  | some (false, ds) => (allBools ds).map fun bs => .dat (.bool (bs.all id))
  | _ => none
def anyT (t : T) : Option T := match t.seq with
  | some (false, ds) => (allBools ds).map fun bs => .dat (.bool (bs.any id))
  | _ => none
def isTup1 : PyData → Bool
  | .tuple (_ :: _) => true
  | _ => false
def isOther : PyData → Bool
  | .none => false
  | .tuple _ => false
  | _ => true
/-- data that sorted takes -/
def okSort (ds : List PyData) : Bool := (ds.all fun d => ds.all fun e => PySem.W.alike d e) && (ds.all isTup1 || ds.all isOther) && ds.all okD
def sortD (ds : List PyData) : List PyData := ds.mergeSort (PySem.W.dataLe false id)
def sortedT (t : T) : Option T := match t.seq with
  | some (false, ds) => if okSort ds then some (tl (sortD ds)) else none
  | _ => none
theorem allInts_eq : ∀ {ds : List PyData} {ns : List Int}, allInts ds = some ns → ds = ns.map .int
  | [], ns, h => by
    simp only [allInts, Option.some.injEq] at h
    subst h
    rfl
  | d :: ds, ns, h => by
    unfold allInts at h
    split at h
    · rw [Option.map_eq_some_iff] at h
      obtain ⟨r, e, rfl⟩ := h
      rw [allInts_eq e]
      rfl
    · cases h
theorem allBools_eq : ∀ {ds : List PyData} {ns : List Bool}, allBools ds = some ns → ds = ns.map .bool
  | [], ns, h => by
    simp only [allBools, Option.some.injEq] at h
    subst h
    rfl
  | d :: ds, ns, h => by
    unfold allBools at h
    split at h
    · rw [Option.map_eq_some_iff] at h
      obtain ⟨r, e, rfl⟩ := h
      rw [allBools_eq e]
      rfl
    · cases h
theorem dq_ints {K : PySem.W.Frag} {G : Hp} : ∀ {vs : List V} {ns : List Int}, DqAll K G vs (ns.map .int) → vs = ns.map V.int
  | _, [], h => by
    rw [List.map_nil] at h
    cases h
    rfl
  | _, n :: ns, h => by
    rw [List.map_cons] at h
    cases h with
    | cons h1 h2 => rw [dq_int h1, dq_ints h2, List.map_cons]
theorem dq_bools {K : PySem.W.Frag} {G : Hp} : ∀ {vs : List V} {ns : List Bool}, DqAll K G vs (ns.map .bool) → vs = ns.map V.bl
  | _, [], h => by
    rw [List.map_nil] at h
    cases h
    rfl
  | _, n :: ns, h => by
    rw [List.map_cons] at h
    cases h with
    | cons h1 h2 => rw [dq_bl h1, dq_bools h2, List.map_cons]
section
variable {X : Cx}
theorem cr_len1 : CallR X (.builtin "len") (r1 X.K lenT) := by
  intro pins s σ H xs us Q I r h
  obtain ⟨G, x, t, r', rfl, sg, h1, e, k⟩ := h
  unfold lenT at e
  split at e
  · split at e
    · rename_i hz
      cases e
      cases dq_str (vw_dat h1)
      exact call_len_str pins s σ H _ us Q I r ⟨_, rfl, hz, k _ _ _ (.of_dat sg (.int _))⟩
    · cases e
  · rw [Option.map_eq_some_iff] at e
    obtain ⟨⟨b, ds⟩, e1, rfl⟩ := e
    obtain ⟨a, vs, rfl, q1, q2, q3⟩ := vw_seq sg h1 e1
    refine call_len_seq pins s σ H _ us Q I r ⟨a, vs, rfl, ?_, ?_⟩
    · cases b with
      | false => exact .inl (q2 rfl)
      | true => exact .inr (SqT.of (q3 rfl))
    · rw [dpAll_len q1]
      exact k _ _ _ (.of_dat sg (.int _))
theorem cr_list1 : CallR X (.type "list") (r1 X.K listT) := by
  intro pins s σ H xs us Q I r h
  obtain ⟨G, x, t, r', rfl, sg, h1, e, k⟩ := h
  unfold listT at e
  rw [Option.map_eq_some_iff] at e
  obtain ⟨⟨b, ds⟩, e1, rfl⟩ := e
  obtain ⟨a, vs, rfl, q1, q2, q3⟩ := vw_seq sg h1 e1
  refine call_list_of pins s σ H _ us Q I r ⟨a, vs, rfl, ?_, fun p hp => k _ _ _ (.lst sg hp q1)⟩
  cases b with
  | false => exact .inl (q2 rfl)
  | true => exact .inr (SqT.of (q3 rfl))
theorem seq_tup {K : PySem.W.Frag} {G H : Hp} {v : V} {t : T} {ds : List PyData} (h : Vw K G H v t) (e : t.seq = some (true, ds)) : Dq K G v (.tuple ds) := by
  unfold T.seq at e
  split at e
  · cases e
  · cases e
    exact vw_dat h
  · rw [Option.map_eq_some_iff] at e
    obtain ⟨_, _, z⟩ := e
    cases z
  · cases e
theorem cr_tuple1 : CallR X (.type "tuple") (r1 X.K tupleT) := by
  intro pins s σ H xs us Q I r h
  obtain ⟨G, x, t, r', rfl, sg, h1, e, k⟩ := h
  unfold tupleT at e
  rw [Option.map_eq_some_iff] at e
  obtain ⟨⟨b, ds⟩, e1, rfl⟩ := e
  obtain ⟨a, vs, rfl, q1, q2, q3⟩ := vw_seq sg h1 e1
  refine call_tuple_of pins s σ H _ us Q I r ⟨a, vs, rfl, ?_⟩
  cases b with
  | false => exact .inl ⟨q2 rfl, fun p hp => k _ _ _ (.tup sg hp q1)⟩
  | true => exact .inr ⟨SqT.of (q3 rfl), k _ _ _ (.of_dat sg (seq_tup h1 e1))⟩
theorem sum_rawT {prog : Program} {w : World} {A : Around} {E : Value → Shared → Prop} {s : Shared} {a : Addr} {its : List Value} {ns : List Int} {Q : Value → Shared → Prop} (hh : A.handled = none) (hl : s.heap.IsTuple a its.toArray) (hi : IntsAre its ns)
    (h : ∀ h' tk t', (∀ b o, s.heap.get? b = some o → h'.get? b = some o) → Q (.int ns.sum t') { s with heap := h', toks := tk }) : wpAny (model prog w) A (call (.builtin "sum") [.ref a]) Q E s := by
  obtain ⟨xs, e⟩ := hi.allInts.items
  have hn : numsOf (intItems xs).toList = ns := by rw [← e]; exact hi.numsOf
  rw [nums_intItems] at hn
  rw [e] at hl
  refine PySem.W.ktm_sumG hh hl fun h' tk t' hk => ?_
  have := h h' tk t' hk
  rw [preSum_eq, List.take_of_length_le (by simp), hn]; exact this
theorem cr_sum1 (hc : X.calm = true) : CallR X (.builtin "sum") (r1 X.K sumT) := by
  intro pins s σ H xs us Q I r h
  obtain ⟨G, x, t, r', rfl, sg, h1, e, k⟩ := h
  unfold sumT at e
  split at e
  · rename_i b ds e1
    rw [Option.map_eq_some_iff] at e
    obtain ⟨ns, e2, rfl⟩ := e
    obtain ⟨a, vs, rfl, q1, q2, q3⟩ := vw_seq sg h1 e1
    have e3 := allInts_eq e2
    subst e3
    have e4 := dq_ints q1
    subst e4
    cases b with
    | true =>
      obtain ⟨its, rv, hl, _⟩ := I.tuple (SqT.of (K := X.K) (q3 rfl))
      rw [Vals.ref1 r]
      exact sum_rawT (I.ok.hd hc) hl rv.ints fun h' tk t' hk => ⟨.int _, H, I.kept hk, ⟨_, rfl⟩, k _ _ _ (.of_dat sg (.int _))⟩
    | false =>
    exact cr_sum hc pins s σ H _ us Q I r ⟨a, ns, rfl, q2 rfl, k _ _ _ (.of_dat sg (.int _))⟩
  · cases e
theorem cr_all1 (hc : X.calm = true) : CallR X (.builtin "all") (r1 X.K allT) := by
  intro pins s σ H xs us Q I r h
  obtain ⟨G, x, t, r', rfl, sg, h1, e, k⟩ := h
  unfold allT at e
  split at e
  · rename_i ds e1
    rw [Option.map_eq_some_iff] at e
    obtain ⟨ns, e2, rfl⟩ := e
    obtain ⟨a, vs, rfl, q1, q2, _⟩ := vw_seq sg h1 e1
    have e3 := allBools_eq e2
    subst e3
    have e4 := dq_bools q1
    subst e4
    exact cr_all hc pins s σ H _ us Q I r ⟨a, ns, rfl, q2 rfl, k _ _ _ (.of_dat sg (.bl _))⟩
  · cases e
theorem cr_any1 (hc : X.calm = true) : CallR X (.builtin "any") (r1 X.K anyT) := by
  intro pins s σ H xs us Q I r h
  obtain ⟨G, x, t, r', rfl, sg, h1, e, k⟩ := h
  unfold anyT at e
  split at e
  · rename_i ds e1
    rw [Option.map_eq_some_iff] at e
    obtain ⟨ns, e2, rfl⟩ := e
    obtain ⟨a, vs, rfl, q1, q2, _⟩ := vw_seq sg h1 e1
    have e3 := allBools_eq e2
    subst e3
    have e4 := dq_bools q1
    subst e4
    exact cr_any hc pins s σ H _ us Q I r ⟨a, ns, rfl, q2 rfl, k _ _ _ (.of_dat sg (.bl _))⟩
  · cases e
end
end VR

/-! VR4: sorted, isinstance. -/
namespace VR
open PySem PySem.Spec PyProof.Rows L2
theorem zip_at {K : PySem.W.Frag} {G : Hp} : ∀ {vs : List V} {ds : List PyData}, DqAll K G vs ds → ∀ p, p ∈ vs.zip ds → Dq K G p.1 p.2
  | _, _, .nil, p, h => by simp at h
  | _, _, .cons h1 h2, p, h => by
    rw [List.zip_cons_cons, List.mem_cons] at h
    rcases h with rfl | h
    · exact h1
    · exact zip_at h2 p h
theorem each_rel : ∀ {vs : List V} {ds : List PyData} {us : List Value}, vs.length = ds.length → Vals vs us → PySem.W.EachIs (fun u (b : V × PyData) => RelV b.1 u) us (vs.zip ds)
  | [], _, _, _, .nil => .nil
  | _ :: _, [], _, h, _ => by cases h
  | v :: vs, d :: ds, _, h, .cons r t => .cons r (each_rel (by simpa using h) t)
theorem each_reads {X : Cx} {pins : List (Addr × Obj)} {σ : L2.St} {H : Hp} {s : Shared} (I : Inv X pins σ H s) : ∀ {vs : List V} {ds : List PyData} {us : List Value}, DqAll X.K H vs ds → Vals vs us → PySem.W.EachIs (fun u (b : V × PyData) => ∃ as, Reads s.heap u b.2 as) us (vs.zip ds)
  | _, _, _, .nil, .nil => .nil
  | _, _, _, .cons h1 h2, .cons r t => .cons (Dp.reads I _ _ _ (dq_dp _ _ h1) r) (each_reads I h2 t)
theorem each_vals : ∀ {us : List Value} {cs : List (V × PyData)}, PySem.W.EachIs (fun u (b : V × PyData) => RelV b.1 u) us cs → Vals (cs.map (·.1)) us
  | _, _, .nil => .nil
  | _, _, .cons h t => .cons h (each_vals t)
theorem okSort_ok {ds : List PyData} (h : okSort ds = true) : PySem.W.AllAlike ds ∧ PySem.W.Sortable ds ∧ ∀ d ∈ ds, d.depth ≤ 40 := by
  unfold okSort at h
  simp only [Bool.and_eq_true, List.all_eq_true, Bool.or_eq_true] at h
  obtain ⟨⟨h1, h2⟩, h3⟩ := h
  refine ⟨fun d hd e he => h1 d hd e he, ?_, fun d hd => (okD_one (h3 d hd)).2⟩
  rcases h2 with h2 | h2
  · refine .inl fun d hd => ?_
    have q := h2 d hd
    unfold isTup1 at q
    split at q
    · exact ⟨_, _, rfl⟩
    · cases q
  · refine .inr fun d hd => ?_
    have q := h2 d hd
    refine ⟨fun z => ?_, fun xs z => ?_⟩
    · rw [z] at q
      cases q
    · rw [z] at q
      cases q
section
variable {X : Cx}
theorem cr_sorted1 (hu : X.A.units + 64 < cLine) : CallR X (.builtin "sorted") (r1 X.K sortedT) := by
  intro pins s σ H xs us Q I r h
  obtain ⟨G, x, t, r', rfl, sg, h1, e, k⟩ := h
  unfold sortedT at e
  split at e
  · rename_i ds e1
    split at e
    · rename_i ok
      cases e
      obtain ⟨al, so, dp⟩ := okSort_ok ok
      obtain ⟨a, vs, rfl, q1, q2, _⟩ := vw_seq sg h1 e1
      rw [Vals.ref1 r]
      obtain ⟨its, rv, hl, hz⟩ := I.list (q2 rfl)
      have hlen := dpAll_len q1
      have em : (vs.zip ds).map Prod.snd = ds := List.map_snd_zip (by omega)
      have lz : (vs.zip ds).length = vs.length := by rw [List.length_zip]; omega
      refine PySem.W.sorted_data (β := V × PyData) (enc := Prod.snd) (R := fun u b => RelV b.1 u) (bs := vs.zip ds) hl.isList (each_rel hlen rv) (each_reads I (dpAll_mono sg _ _ q1) rv) (by rw [em]; exact al) (by rw [em]; exact so) (by rw [lz]; exact hz) (fun b hb => ?_) fun out ho1 ho2 => ?_
      · have := dp b.2 (by rw [← em]; exact List.mem_map.mpr ⟨b, hb, rfl⟩)
        omega
      · obtain ⟨ep, he'⟩ := PyProof.Rows.sortedAll_at s.heap its out.toArray
        have vv := each_vals ho2
        have lv : (((vs.zip ds).mergeSort (PySem.W.dataLe false Prod.snd)).map (·.1)).length ≤ sizeLine := by
          rw [vv.length, ho1, lz]
          exact hz
        have ed : ((vs.zip ds).mergeSort (PySem.W.dataLe false Prod.snd)).map Prod.snd = sortD ds := by
          unfold sortD
          refine (PySem.W.sort_maps (r := PySem.W.dataLe false Prod.snd) (s := PySem.W.dataLe false id) Prod.snd (fun _ _ _ _ => rfl)).trans ?_
          rw [em]
        have hd : DqAll X.K G (((vs.zip ds).mergeSort (PySem.W.dataLe false Prod.snd)).map (·.1)) (sortD ds) := by
          rw [← ed]
          refine dpAll_of (by rw [List.length_map, List.length_map]) fun i v d hv hd => ?_
          rw [List.getElem?_map] at hv hd
          cases q : ((vs.zip ds).mergeSort (PySem.W.dataLe false Prod.snd))[i]? with
          | none =>
            rw [q] at hv
            cases hv
          | some b =>
            rw [q] at hv hd
            cases hv
            cases hd
            exact zip_at q1 b ((List.mergeSort_perm _ _).mem_iff.mp (List.mem_of_getElem? q))
        exact ⟨.ref _, upd H (s.heap.objs.size + 1) (.lst _), I.laid (t' := s.toks) (fun _ _ => PyProof.Rows.sortedAll_old) (Nat.le_succ _) ⟨lv, out, ep, vv, he'⟩, rfl, k _ _ _ (.lst sg (I.hok.fresh (Nat.le_succ _)) hd)⟩
    · cases e
  · cases e
end
end VR

/-! VR5: expressions by trees: judgements over HandS's readings. -/
namespace VR
open PySem PySem.Spec PyProof.Rows L2
inductive R (α : Type) where
  | ok (a : α) (env : Envt)
  | exc (c : Str) (env : Envt)
  | fail
def R.bind {α β : Type} (r : R α) (f : α → Envt → R β) : R β := match r with
  | .ok a env => f a env
  | .exc c env => .exc c env
  | .fail => .fail
def R.lift {α : Type} (o : Option α) (env : Envt) : R α := match o with
  | some a => .ok a env
  | none => .fail
abbrev Ev := Envt → R T
def T.bool? : T → Option Bool
  | .dat (.bool b) => some b
  | _ => none
/-- its answer as a truth -/
def evTst (ev : Ev) : Envt → R Bool := fun env => (ev env).bind fun t env' => R.lift t.bool? env'

/-- where things stand: the frozen part, the heap, the owners -/
abbrev Own3 := Addr → Option Nat
section
variable (X : Cx) (W : WX)
/-- what follows an error -/
def GoodX (G H : Hp) (σ : L2.St) (ω : Own3) (c : Str) (env' : Envt) : Prop :=
  ∀ G' H' ω', Step G H (dom ω) G' H' → Rep X.K G' H' σ env' ω' → New H (dom ω) (dom ω') → W (.ref (He.ga X.K c)) none σ H'
/-- .. a value that is taken (its tree is ours) -/
def GoodE (p : Bool) (G H : Hp) (σ : L2.St) (ω : Own3) (Q : VK) : R T → Prop
  | .ok t env' => ∀ v G' H' ω' S, Step G H (dom ω) G' H' → Rep X.K G' H' σ env' ω' → Own X.K G' H' v t S → (∀ b, S b → ω' b = none) → New H (dom ω) (fun b => dom ω' b ∨ S b) → (p = true → Same H H') → Q v H'
  | .exc c env' => GoodX X W G H σ ω c env'
  | .fail => False
/-- .. a value that is looked at -/
def GoodP (p : Bool) (G H : Hp) (σ : L2.St) (ω : Own3) (Q : VK) : R T → Prop
  | .ok t env' => ∀ v G' H' ω', Step G H (dom ω) G' H' → Rep X.K G' H' σ env' ω' → Vw X.K G' H' v t → New H (dom ω) (dom ω') → (p = true → Same H H') → Q v H'
  | .exc c env' => GoodX X W G H σ ω c env'
  | .fail => False
/-- .. two values that are looked at -/
def Good2 (p : Bool) (G H : Hp) (σ : L2.St) (ω : Own3) (Q : V → V → Hp → Prop) : R (T × T) → Prop
  | .ok tu env' => ∀ x y G' H' ω', Step G H (dom ω) G' H' → Rep X.K G' H' σ env' ω' → Vw X.K G' H' x tu.1 → Vw X.K G' H' y tu.2 → New H (dom ω) (dom ω') → (p = true → Same H H') → Q x y H'
  | .exc c env' => GoodX X W G H σ ω c env'
  | .fail => False
/-- .. a test -/
def GoodT (p : Bool) (G H : Hp) (σ : L2.St) (ω : Own3) (Q : Bool → Hp → Prop) : R Bool → Prop
  | .ok b env' => ∀ G' H' ω', Step G H (dom ω) G' H' → Rep X.K G' H' σ env' ω' → New H (dom ω) (dom ω') → (p = true → Same H H') → Q b H'
  | .exc c env' => GoodX X W G H σ ω c env'
  | .fail => False
def DE (p : Bool) (e : Expr) (ev : Ev) : Prop := ∃ t : TE, PE X e t ∧ ∀ G H σ env ω Q, Rep X.K G H σ env ω → GoodE X W p G H σ ω Q (ev env) → t σ H Q
def DP (p : Bool) (e : Expr) (ev : Ev) : Prop := ∃ t : TE, PE X e t ∧ ∀ G H σ env ω Q, Rep X.K G H σ env ω → GoodP X W p G H σ ω Q (ev env) → t σ H Q
def D2 (p : Bool) (a b : Expr) (ev : Envt → R (T × T)) : Prop := ∃ ta tb : TE, PE X a ta ∧ PE X b tb ∧ ∀ G H σ env ω Q, Rep X.K G H σ env ω → Good2 X W p G H σ ω Q (ev env) → ta σ H fun x H1 => tb σ H1 fun y H2 => Q x y H2
/-- a test: its answer must be a truth -/
def DT (p : Bool) (e : Expr) (ev : Envt → R Bool) : Prop := ∃ t : TT, PT X e t ∧ ∀ G H σ env ω Q, Rep X.K G H σ env ω → GoodT X W p G H σ ω Q (ev env) → t σ H Q
end
section
variable {X : Cx} {W : WX} {p pa pb : Bool} {e a b : Expr} {ev ea eb : Ev}
theorem DE.dp (h : DE X W p e ev) : DP X W p e ev := by
  obtain ⟨t, h1, h2⟩ := h
  refine ⟨t, h1, fun G H σ env ω Q r g => h2 G H σ env ω Q r ?_⟩
  cases q : ev env with
  | ok t' env' =>
    rw [q] at g
    exact fun v G' H' ω' S s1 r1 o d n k => g v G' H' ω' s1 r1 o.vw (fun b hb => n b (.inl hb)) k
  | exc c env' =>
    rw [q] at g
    exact g
  | fail =>
    rw [q] at g
    exact g
theorem DE.weak (h : DE X W p e ev) : DE X W false e ev := by
  obtain ⟨t, h1, h2⟩ := h
  refine ⟨t, h1, fun G H σ env ω Q r g => h2 G H σ env ω Q r ?_⟩
  cases q : ev env with
  | ok t' env' =>
    rw [q] at g
    exact fun v G' H' ω' S s1 r1 o d n k => g v G' H' ω' S s1 r1 o d n (fun z => by cases z)
  | exc c env' =>
    rw [q] at g
    exact g
  | fail =>
    rw [q] at g
    exact g
theorem DP.weak (h : DP X W p e ev) : DP X W false e ev := by
  obtain ⟨t, h1, h2⟩ := h
  refine ⟨t, h1, fun G H σ env ω Q r g => h2 G H σ env ω Q r ?_⟩
  cases q : ev env with
  | ok t' env' =>
    rw [q] at g
    exact fun v G' H' ω' s1 r1 o n k => g v G' H' ω' s1 r1 o n (fun z => by cases z)
  | exc c env' =>
    rw [q] at g
    exact g
  | fail =>
    rw [q] at g
    exact g
theorem dom_new {H : Hp} {ω ω' : Own3} {S : Addr → Prop} (n : New H (dom ω) fun b => dom ω' b ∨ S b) : New H (dom ω) (dom ω') := fun b hb => n b (.inl hb)
/-- both, one after the other -/
def ev2 (ea eb : Ev) : Envt → R (T × T) := fun env => (ea env).bind fun t env1 => (eb env1).bind fun u env2 => .ok (t, u) env2
theorem goodX_step {G H G1 H1 : Hp} {σ : L2.St} {ω ω1 : Own3} {c : Str} {env' : Envt} (s1 : Step G H (dom ω) G1 H1) (n1 : New H (dom ω) (dom ω1)) (g : GoodX X W G H σ ω c env') : GoodX X W G1 H1 σ ω1 c env' :=
  fun G' H' ω' s2 r2 n2 => g G' H' ω' (s1.trans s2 n1) r2 (New.trans s1 n1 n2)
/-- the second one changes nothing: the first may be looked at alone -/
theorem d2_pure (ha : DP X W pa a ea) (hb : DP X W true b eb) : D2 X W pa a b (ev2 ea eb) := by
  obtain ⟨ta, a1, a2⟩ := ha
  obtain ⟨tb, b1, b2⟩ := hb
  refine ⟨ta, tb, a1, b1, fun G H σ env ω Q r g => a2 G H σ env ω _ r ?_⟩
  unfold ev2 at g
  cases q : ea env with
  | ok t env1 =>
    rw [q] at g
    intro x G1 H1 ω1 s1 r1 o1 n1 k1
    refine b2 G1 H1 σ env1 ω1 _ r1 ?_
    simp only [R.bind] at g
    cases q2 : eb env1 with
    | ok u env2 =>
      rw [q2] at g
      intro y G2 H2 ω2 s2 r2 o2 n2 k2
      exact g x y G2 H2 ω2 (s1.trans s2 n1) r2 (o1.step s2.ext (k2 rfl)) o2 (New.trans s1 n1 n2) fun z => fun b o h => k2 rfl b o (k1 z b o h)
    | exc c env2 =>
      rw [q2] at g
      exact goodX_step s1 n1 g
    | fail =>
      rw [q2] at g
      exact g
  | exc c env1 =>
    rw [q] at g
    exact g
  | fail =>
    rw [q] at g
    exact g
/-- the first one is ours -/
theorem d2_own (ha : DE X W pa a ea) (hb : DP X W pb b eb) : D2 X W (pa && pb) a b (ev2 ea eb) := by
  obtain ⟨ta, a1, a2⟩ := ha
  obtain ⟨tb, b1, b2⟩ := hb
  refine ⟨ta, tb, a1, b1, fun G H σ env ω Q r g => a2 G H σ env ω _ r ?_⟩
  unfold ev2 at g
  cases q : ea env with
  | ok t env1 =>
    rw [q] at g
    intro x G1 H1 ω1 S s1 r1 o1 d1 n1 k1
    refine b2 G1 H1 σ env1 ω1 _ r1 ?_
    simp only [R.bind] at g
    cases q2 : eb env1 with
    | ok u env2 =>
      rw [q2] at g
      intro y G2 H2 ω2 s2 r2 o2 n2 k2
      exact g x y G2 H2 ω2 (s1.trans s2 (dom_new n1)) r2 (o1.carry d1 s2 n2).1.vw o2 (New.trans s1 (dom_new n1) n2) fun z => by
        rw [Bool.and_eq_true] at z
        exact fun b o h => k2 z.2 b o (k1 z.1 b o h)
    | exc c env2 =>
      rw [q2] at g
      exact goodX_step s1 (dom_new n1) g
    | fail =>
      rw [q2] at g
      exact g
  | exc c env1 =>
    rw [q] at g
    exact g
  | fail =>
    rw [q] at g
    exact g
/-- the end of an operation that makes a new tree -/
theorem good_new {G H G1 H1 G2 H2 : Hp} {σ : L2.St} {env1 : Envt} {ω ω1 : Own3} {Q : VK} {r : T} {v : V} (g : GoodE X W p G H σ ω Q (.ok r env1)) (s1 : Step G H (dom ω) G1 H1) (r1 : Rep X.K G1 H1 σ env1 ω1) (n1 : New H (dom ω) (dom ω1)) (k : p = true → Same H H1) (nt : NewT X.K G1 H1 v r G2 H2) : Q v H2 := by
  obtain ⟨S, o, d, nn⟩ := nt.own r1
  refine g v G2 H2 ω1 S (s1.trans nt.step n1) (nt.rep r1) o d (New.trans s1 n1 nn) fun z b o' h => nt.h b o' (k z b o' h)
/-- a value that needs no new thing -/
theorem good_dat {G H G1 H1 : Hp} {σ : L2.St} {env1 : Envt} {ω ω1 : Own3} {Q : VK} {d : PyData} {v : V} (g : GoodE X W p G H σ ω Q (.ok (.dat d) env1)) (s1 : Step G H (dom ω) G1 H1) (r1 : Rep X.K G1 H1 σ env1 ω1) (n1 : New H (dom ω) (dom ω1)) (k : p = true → Same H H1) (h : Dq X.K G1 v d) : Q v H1 :=
  good_new g s1 r1 n1 k (NewT.of_dat r1.sub h)
/-! ### constants, names -/
theorem de_cst {d : PyData} {v : V} (h : PE X e (tC v)) (hd : ∀ G, Dq X.K G v d) : DE X W true e (fun env => .ok (.dat d) env) :=
  ⟨tC v, h, fun G H σ env ω Q r g => good_dat g .refl r .refl (fun _ _ _ z => z) (hd G)⟩
def evLoc (i : Nat) : Ev := fun env => match env[i]? with
  | some (some t) => .ok t env
  | _ => .fail
theorem dp_loc {i : Nat} (h : PE X e (tVar i)) : DP X W true e (evLoc i) := by
  refine ⟨tVar i, h, fun G H σ env ω Q r g => ?_⟩
  unfold evLoc at g
  split at g
  · rename_i t ht
    obtain ⟨v, hv, o⟩ := r.own i t ht
    exact ⟨v, hv, g v G H ω .refl r o.vw .refl fun _ _ _ z => z⟩
  · exact g.elim
/-- a name's value taken: a tree that is ours is frozen by it -/
def evTake (i : Nat) : Ev := fun env => match env[i]? with
  | some (some t) => match t with
    | .dat d => .ok (.dat d) env
    | .exc c => .ok (.exc c) env
    | .fdc ks ds => .ok (.fdc ks ds) env
    | .node k ts => match (T.node k ts).frz with
      | some d => .ok (.dat d) (env.set i (some (.dat d)))
      | none => .fail
  | _ => .fail
open Classical in
/-- the tree of a slot frozen -/
theorem Rep.freeze {K : PySem.W.Frag} {G H : Hp} {σ : L2.St} {env : Envt} {ω : Own3} (r : Rep K G H σ env ω) {i : Nat} {t : T} {d : PyData} (ht : env[i]? = some (some t)) (hd : t.frz = some d) :
    ∃ G' ω', Same G G' ∧ Rep K G' H σ (env.set i (some (.dat d))) ω' ∧ (∀ b, dom ω' b → dom ω b) ∧ (∀ b o, ¬ dom ω b → H b = some o → G b = none → G' b = none) ∧ ∃ v, σ[i]? = some (some v) ∧ Dq K G' v d := by
  obtain ⟨v, hv, o⟩ := r.own i t ht
  have hi : i < env.length := (List.getElem?_eq_some_iff.mp ht).1
  have gs : Same G (fun b => if ω b = some i then H b else G b) := fun b o' e => by
    show (if ω b = some i then H b else G b) = some o'
    split
    · exact r.sub b o' e
    · exact e
  have hdq : Dq K (fun b => if ω b = some i then H b else G b) v d := o.read gs d hd fun b hb => if_pos hb
  refine ⟨fun b => if ω b = some i then H b else G b, fun b => if ω b = some i then none else ω b, gs, ⟨fun b o' e => ?_, fun j t' hj => ?_, fun b j hb => ?_, by rw [List.length_set]; exact r.len⟩, fun b ⟨j, hj⟩ => ?_, fun b o' nd hb hg => ?_, v, hv, hdq⟩
  · have e' : (if ω b = some i then H b else G b) = some o' := e
    split at e'
    · exact e'
    · exact r.sub b o' e'
  · by_cases hij : j = i
    · subst hij
      rw [List.getElem?_set_self hi] at hj
      cases hj
      refine ⟨v, hv, .dat hdq fun b hb => ?_⟩
      have hb' : (if ω b = some j then none else ω b) = some j := hb
      split at hb'
      · cases hb'
      · rename_i z
        exact z hb'
    · rw [List.getElem?_set_ne (Ne.symm hij)] at hj
      obtain ⟨v', hv', o'⟩ := r.own j t' hj
      refine ⟨v', hv', (o'.step gs fun b hb => ⟨rfl, ?_⟩).congr fun b => ?_⟩
      · show (if ω b = some i then H b else G b) = none
        rw [if_neg (fun z => hij (Option.some.inj (hb.symm.trans z)))]
        exact (o'.there b hb).2
      · show (if ω b = some i then none else ω b) = some j ↔ ω b = some j
        split
        · rename_i z
          rw [z]
          exact ⟨fun q => (by cases q), fun q => absurd (Option.some.inj q).symm hij⟩
        · exact Iff.rfl
  · have hb' : (if ω b = some i then none else ω b) = some j := hb
    split at hb'
    · cases hb'
    · rename_i z
      have hj : j ≠ i := fun q => z (q ▸ hb')
      obtain ⟨t', ht'⟩ := r.emp b j hb'
      exact ⟨t', by rw [List.getElem?_set_ne (Ne.symm hj)]; exact ht'⟩
  · have hj' : (if ω b = some i then none else ω b) = some j := hj
    split at hj'
    · cases hj'
    · exact ⟨j, hj'⟩
  · show (if ω b = some i then H b else G b) = none
    rw [if_neg (fun z => nd ⟨i, z⟩)]
    exact hg
theorem de_take {i : Nat} (h : PE X e (tVar i)) : DE X W true e (evTake i) := by
  refine ⟨tVar i, h, fun G H σ env ω Q r g => ?_⟩
  unfold evTake at g
  split at g
  · rename_i t ht
    split at g
    · obtain ⟨v, hv, o⟩ := r.own i _ ht
      refine ⟨v, hv, good_dat g .refl r .refl (fun _ _ _ z => z) ?_⟩
      cases o with
      | dat h z => exact h
    · obtain ⟨v, hv, o⟩ := r.own i _ ht
      cases o with
      | exc h z => exact ⟨_, hv, g _ G H ω (fun _ => False) .refl r (.exc h fun _ z => z) (fun _ z => z.elim) (fun b hb => hb.imp id fun z => z.elim) fun _ _ _ z => z⟩
    · obtain ⟨v, hv, o⟩ := r.own i _ ht
      cases o with
      | fdc h hk nd hd z => exact ⟨_, hv, g _ G H ω (fun _ => False) .refl r (.fdc h hk nd hd fun _ z => z) (fun _ z => z.elim) (fun b hb => hb.imp id fun z => z.elim) fun _ _ _ z => z⟩
    · rename_i k ts
      split at g
      · rename_i d hd
        obtain ⟨G', ω', gs, r', sub, fr, v, hv, dq⟩ := r.freeze ht hd
        refine ⟨v, hv, good_dat g ⟨gs, fun b o nd hb => ⟨hb, fr b o nd hb⟩⟩ r' (fun b hb => .inl (sub b hb)) (fun _ _ _ z => z) dq⟩
      · exact g.elim
  · exact g.elim
/-! ### operators, comparisons -/
def evBin (op : Operator) (e2 : Envt → R (T × T)) : Ev := fun env => (e2 env).bind fun tu env' => R.lift (binT op tu.1 tu.2) env'
theorem de_bin {op : Operator} {pos : Pos} {e2 : Envt → R (T × T)} (h : D2 X W p a b e2) : DE X W p (.BinOp a op b pos) (evBin op e2) := by
  obtain ⟨ta, tb, a1, b1, k⟩ := h
  refine ⟨_, pe_op (opr_bin op) a1 b1, fun G H σ env ω Q r g => ?_⟩
  refine k G H σ env ω (fun x y H2 => rB X.K (binT op) x y H2 Q) r ?_
  unfold evBin at g
  cases q : e2 env with
  | ok tu env' =>
    rw [q] at g
    intro x y G' H' ω' s1 r1 o1 o2 n1 k1
    simp only [R.bind, R.lift] at g
    cases q2 : binT op tu.1 tu.2 with
    | none =>
      rw [q2] at g
      exact g.elim
    | some rr =>
      rw [q2] at g
      exact ⟨G', tu.1, tu.2, rr, r1.sub, o1, o2, q2, fun v G2 H2 nt => good_new g s1 r1 n1 k1 nt⟩
  | exc c env' =>
    rw [q] at g
    exact g
  | fail =>
    rw [q] at g
    exact g
def evCmp (op : CmpOp) (e2 : Envt → R (T × T)) : Ev := fun env => (e2 env).bind fun tu env' => R.lift ((cmpT op tu.1 tu.2).map fun b => T.dat (.bool b)) env'
/-- its reading, whatever is made of the answer -/
theorem cmp_read {op : CmpOp} {e2 : Envt → R (T × T)} {ta tb : TE} (k : ∀ G H σ env ω (Q : V → V → Hp → Prop), Rep X.K G H σ env ω → Good2 X W p G H σ ω Q (e2 env) → ta σ H fun x H1 => tb σ H1 fun y H2 => Q x y H2)
    {G H : Hp} {σ : L2.St} {env : Envt} {ω : Own3} {Q : VK} (r : Rep X.K G H σ env ω) (g : GoodE X W p G H σ ω Q (evCmp op e2 env)) : tOp (rC X.K (cmpT op)) ta tb σ H Q := by
  refine k G H σ env ω (fun x y H2 => rC X.K (cmpT op) x y H2 Q) r ?_
  unfold evCmp at g
  cases q : e2 env with
  | ok tu env' =>
    rw [q] at g
    intro x y G' H' ω' s1 r1 o1 o2 n1 k1
    simp only [R.bind, R.lift] at g
    cases q2 : cmpT op tu.1 tu.2 with
    | none =>
      rw [q2] at g
      exact g.elim
    | some rr =>
      rw [q2] at g
      exact ⟨G', tu.1, tu.2, rr, r1.sub, o1, o2, q2, good_dat g s1 r1 n1 k1 (.bl _)⟩
  | exc c env' =>
    rw [q] at g
    exact g
  | fail =>
    rw [q] at g
    exact g
theorem de_cmp (hu : X.A.units + 64 < cLine) {op : CmpOp} {pos : Pos} {e2 : Envt → R (T × T)} (h : D2 X W p a b e2) (hm : behindInMarks op b = false) : DE X W p (.Compare a [op] [b] pos) (evCmp op e2) := by
  obtain ⟨ta, tb, a1, b1, k⟩ := h
  exact ⟨_, pe_cmpR (opr_cmp hu op) a1 b1 hm, fun G H σ env ω Q r g => cmp_read k r g⟩
/-- from a value's judgement to a test's -/
theorem goodT_E {G H : Hp} {σ : L2.St} {ω : Own3} {Q : Bool → Hp → Prop} {ev : Ev} {env : Envt} (g : GoodT X W p G H σ ω Q (evTst ev env)) : GoodE X W p G H σ ω (fun x H' => ∃ k, x = .bl k ∧ Q k H') (ev env) := by
  unfold evTst at g
  cases q : ev env with
  | ok t' env' =>
    rw [q] at g
    intro v G' H' ω' S s1 r1 o d n k
    simp only [R.bind, R.lift] at g
    cases q2 : t'.bool? with
    | none =>
      rw [q2] at g
      exact g.elim
    | some b =>
      rw [q2] at g
      unfold T.bool? at q2
      split at q2
      · cases q2
        cases o with
        | dat h _ => exact ⟨b, dq_bl h, g G' H' ω' s1 r1 (dom_new n) k⟩
      · cases q2
  | exc c env' =>
    rw [q] at g
    exact g
  | fail =>
    rw [q] at g
    exact g
theorem dt_cmp (hu : X.A.units + 64 < cLine) {op : CmpOp} {pos : Pos} {e2 : Envt → R (T × T)} (h : D2 X W p a b e2) (hm : behindInMarks op b = false) : DT X W p (.Compare a [op] [b] pos) (evTst (evCmp op e2)) := by
  obtain ⟨ta, tb, a1, b1, k⟩ := h
  exact ⟨_, pt_cmpR (opr_cmp hu op) a1 b1 hm, fun G H σ env ω Q r g => cmp_read k r (goodT_E g)⟩
theorem dt_val (h : DE X W p e ev) (he : ∀ whole, isTrue e X.env whole = (do let v ← whole; standAt e.pos; holding [v] (truthy v))) : DT X W p e (evTst ev) := by
  obtain ⟨t, h1, h2⟩ := h
  exact ⟨_, pt_val h1 he, fun G H σ env ω Q r g => h2 G H σ env ω _ r (goodT_E g)⟩
end
end VR

/-! VR6: and, or, not, if; items, slices; displays; built-in calls. -/
namespace VR
open PySem PySem.Spec PyProof.Rows L2
/-- a test whatever its whole is -/
def DW (X : Cx) (W : WX) (p : Bool) (e : Expr) (ev : Envt → R Bool) : Prop := ∃ t : TT, PW X e t ∧ ∀ G H σ env ω Q, Rep X.K G H σ env ω → GoodT X W p G H σ ω Q (ev env) → t σ H Q
section
variable {X : Cx} {W : WX} {p pa pb pc : Bool} {e a b c : Expr} {rest : List Expr} {ev ea eb ec : Ev} {ta tb tc : Envt → R Bool} {pos : Pos}
theorem DW.dt (h : DW X W p e ta) : DT X W p e ta := by
  obtain ⟨t, h1, h2⟩ := h
  exact ⟨t, h1.pt, h2⟩
theorem same_and {pa pb : Bool} {H H1 H2 : Hp} (k1 : pa = true → Same H H1) (k2 : pb = true → Same H1 H2) (z : (pa && pb) = true) : Same H H2 := by
  rw [Bool.and_eq_true] at z
  exact fun b o h => k2 z.2 b o (k1 z.1 b o h)
theorem and_left {pa pb : Bool} {P : Prop} (k1 : pa = true → P) (z : (pa && pb) = true) : P := by
  rw [Bool.and_eq_true] at z
  exact k1 z.1
theorem goodT_step {G H G1 H1 : Hp} {σ : L2.St} {ω ω1 : Own3} {Q : Bool → Hp → Prop} {rr : R Bool} (pa pb : Bool) (s1 : Step G H (dom ω) G1 H1) (n1 : New H (dom ω) (dom ω1)) (k1 : pa = true → Same H H1) (g : GoodT X W (pa && pb) G H σ ω Q rr) : GoodT X W pb G1 H1 σ ω1 Q rr := by
  cases rr with
  | ok b env' => exact fun G' H' ω' s2 r2 n2 k2 => g G' H' ω' (s1.trans s2 n1) r2 (New.trans s1 n1 n2) (same_and k1 k2)
  | exc c env' => exact goodX_step s1 n1 g
  | fail => exact g
theorem goodE_step {G H G1 H1 : Hp} {σ : L2.St} {ω ω1 : Own3} {Q : VK} {rr : R T} (pa pb : Bool) (s1 : Step G H (dom ω) G1 H1) (n1 : New H (dom ω) (dom ω1)) (k1 : pa = true → Same H H1) (g : GoodE X W (pa && pb) G H σ ω Q rr) : GoodE X W pb G1 H1 σ ω1 Q rr := by
  cases rr with
  | ok b env' => exact fun v G' H' ω' S s2 r2 o2 d2 n2 k2 => g v G' H' ω' S (s1.trans s2 n1) r2 o2 d2 (New.trans s1 n1 n2) (same_and k1 k2)
  | exc c env' => exact goodX_step s1 n1 g
  | fail => exact g
/-! ### and, or -/
def bopT (isAnd : Bool) (ta tb : Envt → R Bool) : Envt → R Bool := fun env => (ta env).bind fun c env' => if c = isAnd then tb env' else .ok c env'
theorem dw_and1 (h : DT X W p a ta) : DW X W p (.BoolOp .And [a] pos) ta := by
  obtain ⟨t, h1, h2⟩ := h
  exact ⟨t, pw_and1 h1, h2⟩
theorem dw_or1 (h : DT X W p a ta) : DW X W p (.BoolOp .Or [a] pos) ta := by
  obtain ⟨t, h1, h2⟩ := h
  exact ⟨t, pw_or1 h1, h2⟩
theorem dw_and (ha : DT X W pa a ta) (hb : DW X W pb (.BoolOp .And (b :: rest) pos) tb) : DW X W (pa && pb) (.BoolOp .And (a :: b :: rest) pos) (bopT true ta tb) := by
  obtain ⟨t, a1, a2⟩ := ha
  obtain ⟨u, b1, b2⟩ := hb
  refine ⟨_, pw_and a1 b1, fun G H σ env ω Q r g => a2 G H σ env ω _ r ?_⟩
  unfold bopT at g
  cases q : ta env with
  | ok c env' =>
    rw [q] at g
    intro G1 H1 ω1 s1 r1 n1 k1
    simp only [R.bind] at g
    cases c with
    | true =>
      rw [if_pos rfl] at g ⊢
      exact b2 G1 H1 σ env' ω1 Q r1 (goodT_step pa pb s1 n1 k1 g)
    | false =>
      rw [if_neg Bool.false_ne_true] at g ⊢
      exact g G1 H1 ω1 s1 r1 n1 (and_left k1)
  | exc c env' =>
    rw [q] at g
    exact g
  | fail =>
    rw [q] at g
    exact g
theorem dw_or (ha : DT X W pa a ta) (hb : DW X W pb (.BoolOp .Or (b :: rest) pos) tb) : DW X W (pa && pb) (.BoolOp .Or (a :: b :: rest) pos) (bopT false ta tb) := by
  obtain ⟨t, a1, a2⟩ := ha
  obtain ⟨u, b1, b2⟩ := hb
  refine ⟨_, pw_or a1 b1, fun G H σ env ω Q r g => a2 G H σ env ω _ r ?_⟩
  unfold bopT at g
  cases q : ta env with
  | ok c env' =>
    rw [q] at g
    intro G1 H1 ω1 s1 r1 n1 k1
    simp only [R.bind] at g
    cases c with
    | false =>
      rw [if_pos rfl] at g
      rw [if_neg Bool.false_ne_true]
      exact b2 G1 H1 σ env' ω1 Q r1 (goodT_step pa pb s1 n1 k1 g)
    | true =>
      rw [if_neg (fun z => Bool.noConfusion z)] at g
      rw [if_pos rfl]
      exact g G1 H1 ω1 s1 r1 n1 (and_left k1)
  | exc c env' =>
    rw [q] at g
    exact g
  | fail =>
    rw [q] at g
    exact g
def evBop (isAnd : Bool) (ea eb : Ev) : Ev := fun env => (ea env).bind fun t env' => match t.bool? with
  | some c => if c = isAnd then eb env' else .ok (.dat (.bool c)) env'
  | none => .fail
theorem bool?_eq {t : T} {c : Bool} (h : t.bool? = some c) : t = .dat (.bool c) := by
  unfold T.bool? at h
  split at h
  · cases h
    rfl
  · cases h
theorem bool?_dat (c : Bool) : (T.dat (.bool c)).bool? = some c := rfl
theorem tst_bop (isAnd : Bool) (ea eb : Ev) : evTst (evBop isAnd ea eb) = bopT isAnd (evTst ea) (evTst eb) := by
  funext env
  unfold evTst evBop bopT
  cases hq : ea env with
  | ok t env' =>
    cases hb : t.bool? with
    | none => simp [R.bind, R.lift, hb, hq]
    | some c =>
      by_cases hc : c = isAnd
      · simp [R.bind, R.lift, hb, hc, hq]
      · simp [R.bind, R.lift, hb, hc, hq, bool?_dat]
  | exc c env' => simp [R.bind, hq]
  | fail => simp [R.bind, hq]
theorem own_bl {K : PySem.W.Frag} {G H : Hp} {v : V} {t : T} {S : Addr → Prop} {c : Bool} (o : Own K G H v t S) (h : t.bool? = some c) : v = .bl c := by
  have e := bool?_eq h
  subst e
  cases o with
  | dat h _ => exact dq_bl h
theorem de_one {op : BoolOp} (h : DE X W p a ea) : DE X W p (.BoolOp op [a] pos) ea := by
  obtain ⟨t, h1, h2⟩ := h
  exact ⟨t, pe_one h1, h2⟩
theorem de_and (ha : DE X W pa a ea) (hb : DE X W pb (.BoolOp .And (b :: rest) pos) eb) : DE X W (pa && pb) (.BoolOp .And (a :: b :: rest) pos) (evBop true ea eb) := by
  obtain ⟨t, a1, a2⟩ := ha
  obtain ⟨u, b1, b2⟩ := hb
  refine ⟨_, pe_and a1 b1, fun G H σ env ω Q r g => a2 G H σ env ω _ r ?_⟩
  unfold evBop at g
  cases q : ea env with
  | ok t' env' =>
    rw [q] at g
    intro v G1 H1 ω1 S s1 r1 o1 d1 n1 k1
    simp only [R.bind] at g
    cases q2 : t'.bool? with
    | none =>
      rw [q2] at g
      exact g.elim
    | some c =>
      rw [q2] at g
      refine ⟨c, own_bl o1 q2, ?_⟩
      cases c with
      | true =>
        simp only [if_true] at g ⊢
        exact b2 G1 H1 σ env' ω1 Q r1 (goodE_step pa pb s1 (dom_new n1) k1 g)
      | false =>
        simp only [Bool.false_eq_true, if_false] at g ⊢
        exact good_dat g s1 r1 (dom_new n1) (and_left k1) (.bl _)
  | exc c env' =>
    rw [q] at g
    exact g
  | fail =>
    rw [q] at g
    exact g
theorem de_or (ha : DE X W pa a ea) (hb : DE X W pb (.BoolOp .Or (b :: rest) pos) eb) : DE X W (pa && pb) (.BoolOp .Or (a :: b :: rest) pos) (evBop false ea eb) := by
  obtain ⟨t, a1, a2⟩ := ha
  obtain ⟨u, b1, b2⟩ := hb
  refine ⟨_, pe_or a1 b1, fun G H σ env ω Q r g => a2 G H σ env ω _ r ?_⟩
  unfold evBop at g
  cases q : ea env with
  | ok t' env' =>
    rw [q] at g
    intro v G1 H1 ω1 S s1 r1 o1 d1 n1 k1
    simp only [R.bind] at g
    cases q2 : t'.bool? with
    | none =>
      rw [q2] at g
      exact g.elim
    | some c =>
      rw [q2] at g
      refine ⟨c, own_bl o1 q2, ?_⟩
      cases c with
      | false =>
        simp only [if_true, Bool.false_eq_true, if_false] at g ⊢
        exact b2 G1 H1 σ env' ω1 Q r1 (goodE_step pa pb s1 (dom_new n1) k1 g)
      | true =>
        simp only [Bool.true_eq_false, if_false, if_true] at g ⊢
        exact good_dat g s1 r1 (dom_new n1) (and_left k1) (.bl _)
  | exc c env' =>
    rw [q] at g
    exact g
  | fail =>
    rw [q] at g
    exact g
/-! ### not, if -/
def evNot (ea : Ev) : Ev := fun env => (ea env).bind fun t env' => R.lift (t.bool?.map fun c => T.dat (.bool !c)) env'
def notT (ta : Envt → R Bool) : Envt → R Bool := fun env => (ta env).bind fun c env' => .ok (!c) env'
theorem tst_not (ea : Ev) : evTst (evNot ea) = notT (evTst ea) := by
  funext env
  unfold evTst evNot notT
  cases hq : ea env with
  | ok t env' =>
    cases hb : t.bool? with
    | none => simp [R.bind, R.lift, hb, hq]
    | some c => simp [R.bind, R.lift, hb, hq, bool?_dat]
  | exc c env' => simp [R.bind, hq]
  | fail => simp [R.bind, hq]
theorem de_not (ha : DE X W p a ea) : DE X W p (.UnaryOp .Not a pos) (evNot ea) := by
  obtain ⟨t, a1, a2⟩ := ha
  refine ⟨_, pe_not a1, fun G H σ env ω Q r g => a2 G H σ env ω _ r ?_⟩
  unfold evNot at g
  cases q : ea env with
  | ok t' env' =>
    rw [q] at g
    intro v G1 H1 ω1 S s1 r1 o1 d1 n1 k1
    simp only [R.bind, R.lift] at g
    cases q2 : t'.bool? with
    | none =>
      rw [q2] at g
      exact g.elim
    | some c =>
      rw [q2] at g
      exact ⟨c, own_bl o1 q2, good_dat g s1 r1 (dom_new n1) k1 (.bl _)⟩
  | exc c env' =>
    rw [q] at g
    exact g
  | fail =>
    rw [q] at g
    exact g
theorem dt_not (ha : DT X W p a ta) : DT X W p (.UnaryOp .Not a pos) (notT ta) := by
  obtain ⟨t, a1, a2⟩ := ha
  refine ⟨_, pt_not a1, fun G H σ env ω Q r g => a2 G H σ env ω _ r ?_⟩
  unfold notT at g
  cases q : ta env with
  | ok c env' =>
    rw [q] at g
    exact g
  | exc c env' =>
    rw [q] at g
    exact g
  | fail =>
    rw [q] at g
    exact g
def evIte (tc : Envt → R Bool) (ea eb : Ev) : Ev := fun env => (tc env).bind fun c env' => if c = true then ea env' else eb env'
theorem de_ite (hc : DT X W pc c tc) (ha : DE X W p a ea) (hb : DE X W p b eb) : DE X W (pc && p) (.IfExp c a b pos) (evIte tc ea eb) := by
  obtain ⟨t, c1, c2⟩ := hc
  obtain ⟨u, a1, a2⟩ := ha
  obtain ⟨w, b1, b2⟩ := hb
  refine ⟨_, pe_ifExp c1 a1 b1, fun G H σ env ω Q r g => c2 G H σ env ω _ r ?_⟩
  unfold evIte at g
  cases q : tc env with
  | ok c env' =>
    rw [q] at g
    intro G1 H1 ω1 s1 r1 n1 k1
    simp only [R.bind] at g
    cases c with
    | true =>
      rw [if_pos rfl] at g ⊢
      exact a2 G1 H1 σ env' ω1 Q r1 (goodE_step pc p s1 n1 k1 g)
    | false =>
      rw [if_neg Bool.false_ne_true] at g ⊢
      exact b2 G1 H1 σ env' ω1 Q r1 (goodE_step pc p s1 n1 k1 g)
  | exc c env' =>
    rw [q] at g
    exact g
  | fail =>
    rw [q] at g
    exact g
/-! ### items, slices -/
theorem pe_or2 {t u : TE} (h1 : PE X e t) (h2 : PE X e u) : PE X e (fun σ H Q => t σ H Q ∨ u σ H Q) :=
  ⟨fun pins s σ H Q I h => h.elim (fun z => h1.run pins s σ H Q I z) fun z => h2.run pins s σ H Q I z⟩
def evIdx (e2 : Envt → R (T × T)) : Ev := fun env => (e2 env).bind fun tu env' => R.lift (idxT tu.1 tu.2) env'
def noSlice : Expr → Bool
  | .Slice .. => false
  | _ => true
theorem plainIx_of (h : noSlice b = true) : PlainIx b := by
  intro o i
  cases b <;> first | rfl | (cases h)
theorem noSl_of (h : noSlice b = true) : NoSl b := by
  intro o i
  cases b <;> first | rfl | (cases h)
theorem isDct_eq {t : T} (h : isDct t = true) : (∃ ks lk tk ts, t = .node (.dct ks lk tk) ts) ∨ ∃ ks ds, t = .fdc ks ds := by
  unfold isDct at h
  split at h
  · exact .inl ⟨_, _, _, _, rfl⟩
  · exact .inr ⟨_, _, rfl⟩
  · cases h
theorem dp_idx (hu : X.A.units + 64 < cLine) {e2 : Envt → R (T × T)} (h : D2 X W p a b e2) (hs : noSlice b = true) : DP X W p (.Subscript a b pos) (evIdx e2) := by
  obtain ⟨ta, tb, a1, b1, k⟩ := h
  refine ⟨_, pe_or2 (pe_ix ixr_seq a1 b1 (plainIx_of hs)) (pe_dget (by omega) a1 b1 (noSl_of hs)), fun G H σ env ω Q r g => ?_⟩
  unfold evIdx at g
  cases q : e2 env with
  | ok tu env' =>
    rw [q] at g
    simp only [R.bind, R.lift] at g
    cases q2 : idxT tu.1 tu.2 with
    | none =>
      rw [q2] at g
      exact g.elim
    | some rr =>
      rw [q2] at g
      cases q3 : isDct tu.1 with
      | false =>
        refine .inl (k G H σ env ω (fun x y H2 => rX X.K x y H2 Q) r ?_)
        rw [q]
        exact fun x y G' H' ω' s1 r1 o1 o2 n1 k1 => ⟨G', tu.1, tu.2, rr, r1.sub, o1, o2, q2, q3, fun v hv => g v G' H' ω' s1 r1 hv n1 k1⟩
      | true =>
        refine .inr (k G H σ env ω (fun x y H2 => ∃ a v, x = .ref a ∧ DGet H2 a y (some v) ∧ Q v H2) r ?_)
        rw [q]
        intro x y G' H' ω' s1 r1 o1 o2 n1 k1
        rcases isDct_eq q3 with ⟨ks, lk, tk, ts, e3⟩ | ⟨ks, ds, e3⟩
        · rw [e3] at o1 q2
          obtain ⟨a', v, z1, z2, z3⟩ := dget_there (X := X) r1.sub o1 o2 q2
          exact ⟨a', v, z1, z2, g v G' H' ω' s1 r1 z3 n1 k1⟩
        · rw [e3] at o1 q2
          obtain ⟨a', v, z1, z2, z3⟩ := dget_there (X := X) r1.sub (o1.fdcn r1.sub) o2 q2
          exact ⟨a', v, z1, z2, g v G' H' ω' s1 r1 z3 n1 k1⟩
  | exc c env' =>
    rw [q] at g
    refine .inl (k G H σ env ω (fun x y H2 => rX X.K x y H2 Q) r ?_)
    rw [q]
    exact g
  | fail =>
    rw [q] at g
    exact g.elim
def evLeaf (ev : Ev) : Ev := fun env => (ev env).bind fun t env' => match t with
  | .node _ _ => .fail
  | t => .ok t env'
theorem de_leaf (h : DP X W p e ev) : DE X W p e (evLeaf ev) := by
  obtain ⟨t, h1, h2⟩ := h
  refine ⟨t, h1, fun G H σ env ω Q r g => h2 G H σ env ω _ r ?_⟩
  unfold evLeaf at g
  cases q : ev env with
  | ok t' env' =>
    rw [q] at g
    intro v G1 H1 ω1 s1 r1 o1 n1 k1
    cases o1 with
    | dat h => exact good_dat g s1 r1 n1 k1 h
    | exc h => exact g _ G1 H1 ω1 (fun _ => False) s1 r1 (.exc h fun _ z => z) (fun _ z => z.elim) (fun b hb => n1 b (hb.elim id fun z => z.elim)) k1
    | fdc h hk nd hd => exact g _ G1 H1 ω1 (fun _ => False) s1 r1 (.fdc h hk nd hd fun _ z => z) (fun _ z => z.elim) (fun b hb => n1 b (hb.elim id fun z => z.elim)) k1
    | node h l c => exact g.elim
  | exc c env' =>
    rw [q] at g
    exact g
  | fail =>
    rw [q] at g
    exact g
end
end VR

/-! VR7: chains, slices, displays, built-in calls. -/
namespace VR
open PySem PySem.Spec PyProof.Rows L2
/-! ### argument lists -/
def noStar : Expr → Bool
  | .Starred .. => false
  | _ => true
theorem star_cons {e : Expr} {es : List Expr} {env : Env} (h : noStar e = true) : starEach (e :: es) env = (false, eval e env) :: starEach es env := by
  cases e <;> first | rfl | (cases h)
theorem star_any {pos : Pos} {env : Env} : ∀ {es : List Expr}, es.all noStar = true → (backTo pos (starEach es env)).any (·.1) = false
  | [], _ => rfl
  | e :: es, h => by
    rw [List.all_cons, Bool.and_eq_true] at h
    rw [star_cons h.1]
    have ih := star_any (pos := pos) (env := env) h.2
    unfold backTo at ih ⊢
    rw [List.map_cons, List.any_cons, ih]
    rfl
/-- trees in a row, ours; τ: which is whose -/
structure OwnL (K : PySem.W.Frag) (G H : Hp) (vs : List V) (ts : List T) (τ : Own3) : Prop where
  len : vs.length = ts.length
  own : ∀ (i : Nat) (v : V) (t : T), vs[i]? = some v → ts[i]? = some t → Own K G H v t (fun b => τ b = some i)
  lim : ∀ b i, τ b = some i → i < ts.length
section
variable {K : PySem.W.Frag} {G H G' H' : Hp} {σ : L2.St} {env : Envt} {ω : Own3}
theorem OwnL.nil : OwnL K G H [] [] (fun _ => none) := ⟨rfl, fun i v t h => by simp at h, fun b i h => by cases h⟩
open Classical in
theorem OwnL.cons {v : V} {vs : List V} {t : T} {ts : List T} {τ : Own3} {S : Addr → Prop} (o : Own K G H v t S) (l : OwnL K G H vs ts τ) (d : ∀ b, S b → τ b = none) :
    ∃ τ' : Own3, OwnL K G H (v :: vs) (t :: ts) τ' ∧ ∀ b, dom τ' b ↔ S b ∨ dom τ b := by
  refine ⟨fun b => if S b then some 0 else (τ b).map (· + 1), ⟨by simp [l.len], fun i v' t' h1 h2 => ?_, fun b i h => ?_⟩, fun b => ⟨fun ⟨i, hi⟩ => ?_, fun h => ?_⟩⟩
  · cases i with
    | zero =>
      simp at h1 h2
      subst h1
      subst h2
      refine o.congr fun b => ?_
      show (if S b then some 0 else (τ b).map (· + 1)) = some 0 ↔ S b
      by_cases hs : S b
      · rw [if_pos hs]
        exact ⟨fun _ => hs, fun _ => rfl⟩
      · rw [if_neg hs]
        refine ⟨fun z => ?_, fun z => absurd z hs⟩
        rw [Option.map_eq_some_iff] at z
        obtain ⟨j, _, z⟩ := z
        omega
    | succ i =>
      refine (l.own i v' t' (by simpa using h1) (by simpa using h2)).congr fun b => ?_
      show (if S b then some 0 else (τ b).map (· + 1)) = some (i + 1) ↔ τ b = some i
      by_cases hs : S b
      · rw [if_pos hs]
        refine ⟨fun z => ?_, fun z => ?_⟩
        · have := Option.some.inj z
          omega
        · rw [d b hs] at z
          cases z
      · rw [if_neg hs, Option.map_eq_some_iff]
        refine ⟨fun ⟨j, z1, z2⟩ => ?_, fun z => ⟨i, z, rfl⟩⟩
        have : j = i := by omega
        rw [← this]
        exact z1
  · have h' : (if S b then some 0 else (τ b).map (· + 1)) = some i := h
    by_cases hs : S b
    · rw [if_pos hs] at h'
      cases h'
      simp
    · rw [if_neg hs, Option.map_eq_some_iff] at h'
      obtain ⟨j, z1, z2⟩ := h'
      have := l.lim b j z1
      simp
      omega
  · have h' : (if S b then some 0 else (τ b).map (· + 1)) = some i := hi
    by_cases hs : S b
    · exact .inl hs
    · rw [if_neg hs, Option.map_eq_some_iff] at h'
      obtain ⟨j, z1, _⟩ := h'
      exact .inr ⟨j, z1⟩
  · by_cases hs : S b
    · exact ⟨0, if_pos hs⟩
    · rcases h with h | ⟨j, h⟩
      · exact absurd h hs
      · exact ⟨j + 1, by show (if S b then some 0 else (τ b).map (· + 1)) = _; rw [if_neg hs, h]; rfl⟩
theorem OwnL.there {vs : List V} {ts : List T} {τ : Own3} (l : OwnL K G H vs ts τ) {b : Addr} (h : dom τ b) : (∃ o, H b = some o) ∧ G b = none := by
  obtain ⟨i, hi⟩ := h
  have hl := l.lim b i hi
  exact (l.own i _ _ (List.getElem?_eq_getElem (by rw [l.len]; exact hl)) (List.getElem?_eq_getElem hl)).there b hi
theorem OwnL.step {vs : List V} {ts : List T} {τ : Own3} (l : OwnL K G H vs ts τ) (e : Same G G') (k : ∀ b, dom τ b → H' b = H b ∧ G' b = none) : OwnL K G' H' vs ts τ :=
  ⟨l.len, fun i v t h1 h2 => (l.own i v t h1 h2).step e fun b hb => k b ⟨i, hb⟩, l.lim⟩
end
section
variable (X : Cx) (W : WX)
def GoodA (p : Bool) (G H : Hp) (σ : L2.St) (ω : Own3) (Q : List V → Hp → Prop) : R (List T) → Prop
  | .ok ts env' => ∀ vs G' H' ω' τ, Step G H (dom ω) G' H' → Rep X.K G' H' σ env' ω' → OwnL X.K G' H' vs ts τ → (∀ b, dom τ b → ω' b = none) → New H (dom ω) (fun b => dom ω' b ∨ dom τ b) → (p = true → Same H H') → Q vs H'
  | .exc c env' => GoodX X W G H σ ω c env'
  | .fail => False
def DA (p : Bool) (es : List Expr) (ev : Envt → R (List T)) : Prop := ∃ t : TA, PA X es t ∧ ∀ G H σ env ω Q, Rep X.K G H σ env ω → GoodA X W p G H σ ω Q (ev env) → t σ H Q
end
def evNil : Envt → R (List T) := fun env => .ok [] env
def evCons (ea : Ev) (es : Envt → R (List T)) : Envt → R (List T) := fun env => (ea env).bind fun t env1 => (es env1).bind fun ts env2 => .ok (t :: ts) env2
section
variable {X : Cx} {W : WX} {p pa pb pc : Bool} {e a b c : Expr} {es : List Expr} {ev ea eb ec : Ev} {evs : Envt → R (List T)} {pos : Pos}
theorem da_nil : DA X W true [] evNil :=
  ⟨tNil, pa_nil, fun G H σ env ω Q r g => g [] G H ω (fun _ => none) .refl r .nil (fun b ⟨_, z⟩ => by cases z) (fun b hb => .inl (hb.elim id fun ⟨_, z⟩ => by cases z)) fun _ _ _ z => z⟩
theorem da_cons (ha : DE X W pa a ea) (hr : DA X W pb es evs) (hs : noStar a = true) : DA X W (pa && pb) (a :: es) (evCons ea evs) := by
  obtain ⟨t, a1, a2⟩ := ha
  obtain ⟨u, b1, b2⟩ := hr
  refine ⟨_, pa_cons a1 b1 (star_cons hs), fun G H σ env ω Q r g => a2 G H σ env ω _ r ?_⟩
  unfold evCons at g
  cases q : ea env with
  | ok t' env1 =>
    rw [q] at g
    intro v G1 H1 ω1 S s1 r1 o1 d1 n1 k1
    refine b2 G1 H1 σ env1 ω1 _ r1 ?_
    simp only [R.bind] at g
    cases q2 : evs env1 with
    | ok ts env2 =>
      rw [q2] at g
      intro vs G2 H2 ω2 τ s2 r2 l2 d2 n2 k2
      obtain ⟨o2, nn⟩ := o1.carry d1 s2 n2
      obtain ⟨τ', l3, dm⟩ := OwnL.cons o2 l2 fun b hb => by
        cases z : τ b with
        | none => rfl
        | some i => exact absurd (Or.inr ⟨i, z⟩) (nn b hb)
      refine g (v :: vs) G2 H2 ω2 τ' (s1.trans s2 (dom_new n1)) r2 l3 (fun b hb => ?_) (fun b hb => ?_) (same_and k1 k2)
      · rcases (dm b).mp hb with z | z
        · cases y : ω2 b with
          | none => rfl
          | some i => exact absurd (Or.inl ⟨i, y⟩) (nn b z)
        · exact d2 b z
      · rcases hb with z | z
        · exact New.trans s1 (dom_new n1) n2 b (.inl z)
        · rcases (dm b).mp z with z | z
          · exact n1 b (.inr z)
          · exact New.trans s1 (dom_new n1) n2 b (.inr z)
    | exc c env2 =>
      rw [q2] at g
      exact goodX_step s1 (dom_new n1) g
    | fail =>
      rw [q2] at g
      exact g
  | exc c env1 =>
    rw [q] at g
    exact g
  | fail =>
    rw [q] at g
    exact g
/-! ### displays -/
def evLst (es : Envt → R (List T)) : Ev := fun env => (es env).bind fun ts env' => if ts.length ≤ sizeLine then .ok (.node .lst ts) env' else .fail
theorem de_lst (h : DA X W p es evs) : DE X W p (.List es pos) (evLst evs) := by
  obtain ⟨t, h1, h2⟩ := h
  refine ⟨_, pe_lst h1, fun G H σ env ω Q r g => h2 G H σ env ω _ r ?_⟩
  unfold evLst at g
  cases q : evs env with
  | ok ts env' =>
    rw [q] at g
    intro vs G1 H1 ω1 τ s1 r1 l1 d1 n1 k1
    simp only [R.bind] at g
    split at g
    · rename_i hz
      refine ⟨by rw [l1.len]; exact hz, fun q hq => ?_⟩
      have kk : Same H1 (upd H1 q (.lst vs)) := fun b o e => by rw [upd_ne (ne_of_none e hq)]; exact e
      have sub : Same G1 (upd H1 q (.lst vs)) := fun b o e => kk b o (r1.sub b o e)
      have dm : ∀ b, dom τ b → upd H1 q (.lst vs) b = H1 b ∧ G1 b = none := fun b hb => by
        obtain ⟨⟨o, ho⟩, hg⟩ := l1.there hb
        exact ⟨upd_ne (ne_of_none ho hq), hg⟩
      refine g (.ref q) G1 (upd H1 q (.lst vs)) ω1 (fun b => b = q ∨ dom τ b) ?_ ?_ ?_ ?_ ?_ ?_
      · exact s1.trans (S1 := dom ω1) ⟨fun _ _ z => z, fun b o _ e => ⟨kk b o e, fun z => z⟩⟩ (dom_new n1)
      · exact r1.step (fun _ _ z => z) sub fun b hb => by
          obtain ⟨⟨o, ho⟩, hg⟩ := r1.there hb
          exact ⟨upd_ne (ne_of_none ho hq), hg⟩
      · refine .node (vs := vs) (A := fun b => b = q) (ω := τ) ⟨upd_same, fun b => Iff.rfl⟩ (fun b hb => by rw [hb]; exact same_free r1.sub hq) l1.len (fun i v t h1 h2 => (l1.own i v t h1 h2).step (fun _ _ z => z) fun b hb => dm b ⟨i, hb⟩) (fun b hb => ?_) (fun b => ?_)
        · rw [hb]
          cases z : τ q with
          | none => rfl
          | some i =>
            obtain ⟨⟨o, ho⟩, _⟩ := l1.there (b := q) ⟨i, z⟩
            rw [hq] at ho
            cases ho
        · exact or_congr Iff.rfl ⟨fun ⟨i, hi⟩ => ⟨i, l1.lim b i hi, hi⟩, fun ⟨i, _, hi⟩ => ⟨i, hi⟩⟩
      · intro b hb
        rcases hb with rfl | hb
        · exact r1.fresh hq
        · exact d1 b hb
      · intro b hb
        rcases hb with hb | rfl | hb
        · exact n1 b (.inl hb)
        · exact New.trans s1 (dom_new n1) (S2 := fun c => c = b) (fun c hc => .inr (by rw [hc]; exact hq)) b rfl
        · exact n1 b (.inr hb)
      · exact fun z b o h => kk b o (k1 z b o h)
    · exact g.elim
  | exc c env' =>
    rw [q] at g
    exact g
  | fail =>
    rw [q] at g
    exact g
open Classical in
/-- trees in a row frozen -/
theorem OwnL.freeze {K : PySem.W.Frag} {G H : Hp} {σ : L2.St} {env : Envt} {ω : Own3} {vs : List V} {ts : List T} {τ : Own3} {ds : List PyData} (r : Rep K G H σ env ω) (l : OwnL K G H vs ts τ) (d : ∀ b, dom τ b → ω b = none) (hd : frzAll ts = some ds) :
    ∃ G', Same G G' ∧ Rep K G' H σ env ω ∧ DqAll K G' vs ds ∧ ∀ b, ¬ dom τ b → G b = none → G' b = none := by
  have gs : Same G (fun b => if dom τ b then H b else G b) := fun b o e => by
    show (if dom τ b then H b else G b) = some o
    split
    · exact r.sub b o e
    · exact e
  have sub : Same (fun b => if dom τ b then H b else G b) H := fun b o e => by
    have e' : (if dom τ b then H b else G b) = some o := e
    split at e'
    · exact e'
    · exact r.sub b o e'
  refine ⟨fun b => if dom τ b then H b else G b, gs, r.step gs sub fun b hb => ⟨rfl, ?_⟩, ?_, fun b hb hg => ?_⟩
  · show (if dom τ b then H b else G b) = none
    rw [if_neg]
    · exact (r.there hb).2
    · intro z
      obtain ⟨i, hi⟩ := hb
      rw [d b z] at hi
      cases hi
  · obtain ⟨e1, e2⟩ := frzAll_at hd
    refine dpAll_of (l.len.trans e1) fun i v d' hv hd' => ?_
    obtain ⟨t, z1, z2⟩ := e2 i d' hd'
    exact (l.own i v t hv z1).read gs d' z2 fun b hb => if_pos ⟨i, hb⟩
  · show (if dom τ b then H b else G b) = none
    rw [if_neg hb]
    exact hg
def evTup (es : Envt → R (List T)) : Ev := fun env => (es env).bind fun ts env' => match frzAll ts with
  | some ds => if ts.length ≤ sizeLine then .ok (.dat (.tuple ds)) env' else .fail
  | none => .fail
theorem de_tup {k : Nat} (h : DA X W p es evs) : DE X W p (.Tuple es k pos) (evTup evs) := by
  obtain ⟨t, h1, h2⟩ := h
  refine ⟨_, pe_tup h1, fun G H σ env ω Q r g => h2 G H σ env ω _ r ?_⟩
  unfold evTup at g
  cases q : evs env with
  | ok ts env' =>
    rw [q] at g
    intro vs G1 H1 ω1 τ s1 r1 l1 d1 n1 k1
    simp only [R.bind] at g
    split at g
    · rename_i ds hd
      split at g
      · rename_i hz
        refine ⟨by rw [l1.len]; exact hz, fun q hq => ?_⟩
        obtain ⟨G2, gs, r2, da, fr⟩ := OwnL.freeze r1 l1 d1 hd
        have s2 : Step G H (dom ω) G2 H1 := by
          refine ⟨fun b o e => gs b o (s1.ext b o e), fun b o hn e => ?_⟩
          obtain ⟨z1, z2⟩ := s1.frm b o hn e
          refine ⟨z1, fun z => fr b (fun y => ?_) (z2 z)⟩
          rcases n1 b (.inr y) with w | w
          · exact hn w
          · rw [e] at w
            cases w
        exact good_new g s2 r2 (dom_new n1) k1 (.tup r2.sub hq da)
      · exact g.elim
    · exact g.elim
  | exc c env' =>
    rw [q] at g
    exact g
  | fail =>
    rw [q] at g
    exact g
/-! ### calls of built-ins with one value -/
def evB1 (F : T → Option T) (ea : Ev) : Ev := fun env => (ea env).bind fun t env' => R.lift (F t) env'
theorem b1_read {F : T → Option T} {te : TE} (k : ∀ G H σ env ω (Q : VK), Rep X.K G H σ env ω → GoodP X W p G H σ ω Q (ea env) → te σ H Q) {G H : Hp} {σ : L2.St} {env : Envt} {ω : Own3} {Q : VK} (r : Rep X.K G H σ env ω) (g : GoodE X W p G H σ ω Q (evB1 F ea env)) :
    tCB (r1 X.K F) (tCons te tNil) σ H Q := by
  refine k G H σ env ω (fun x H1 => r1 X.K F [x] H1 Q) r ?_
  unfold evB1 at g
  cases q : ea env with
  | ok t env' =>
    rw [q] at g
    intro x G' H' ω' s1 r1 o1 n1 k1
    simp only [R.bind, R.lift] at g
    cases q2 : F t with
    | none =>
      rw [q2] at g
      exact g.elim
    | some rr =>
      rw [q2] at g
      exact ⟨G', x, t, rr, rfl, r1.sub, o1, q2, fun v G2 H2 nt => good_new g s1 r1 n1 k1 nt⟩
  | exc c env' =>
    rw [q] at g
    exact g
  | fail =>
    rw [q] at g
    exact g
theorem de_b1 {id : String} {x : Str} {p0 : Pos} {F : T → Option T} (hc : CallR X (.builtin id) (r1 X.K F)) (hg : Gl X x) (hm : X.mg x = none) (hv : bootBuiltins x = some (.builtin id)) (hn : x ≠ "__name__") (hdb : (x == ("__debug__" : Str)) = false) (hs : noStar a = true) (h : DP X W p a ea) :
    DE X W p (.Call (.Name x p0) [a] [] pos) (evB1 F ea) := by
  obtain ⟨t, h1, h2⟩ := h
  exact ⟨_, pe_callB hc hg hm hv (pa_cons h1 pa_nil (star_cons hs)) hn hdb (star_cons hs) rfl, fun G H σ env ω Q r g => b1_read h2 r g⟩
theorem de_t1 {id : String} {x : Str} {p0 : Pos} {F : T → Option T} (hc : CallR X (.type id) (r1 X.K F)) (hg : Gl X x) (hm : X.mg x = none) (hv : bootBuiltins x = some (.type id)) (hn : x ≠ "__name__") (hdb : (x == ("__debug__" : Str)) = false) (hs : noStar a = true) (h : DP X W p a ea) :
    DE X W p (.Call (.Name x p0) [a] [] pos) (evB1 F ea) := by
  obtain ⟨t, h1, h2⟩ := h
  exact ⟨_, pe_callTy hc hg hm hv (pa_cons h1 pa_nil (star_cons hs)) hn hdb (star_cons hs) rfl, fun G H σ env ω Q r g => b1_read h2 r g⟩
/-! ### slices -/
def evPart (o : Option Ev) : Envt → R (Option Int) := fun env => match o with
  | none => .ok none env
  | some ev => (ev env).bind fun t env' => R.lift (t.int?.map some) env'
def evSli (ea : Ev) (lo hi : Option Ev) : Ev := fun env => (ea env).bind fun t env1 => (evPart lo env1).bind fun l env2 => (evPart hi env2).bind fun h env3 => R.lift (sliT t l h) env3
def GoodO (X : Cx) (W : WX) (G H : Hp) (σ : L2.St) (ω : Own3) (Q : Option Int → Hp → Prop) : R (Option Int) → Prop
  | .ok l env' => ∀ G' H' ω', Step G H (dom ω) G' H' → Rep X.K G' H' σ env' ω' → New H (dom ω) (dom ω') → Same H H' → Q l H'
  | .exc c env' => GoodX X W G H σ ω c env'
  | .fail => False
def DO (X : Cx) (W : WX) (o : Option Expr) (ev : Option Ev) : Prop := ∃ t : TO, PO X o t ∧ ∀ G H σ env ω Q, Rep X.K G H σ env ω → GoodO X W G H σ ω Q (evPart ev env) → t σ H Q
theorem do_none : DO X W none none := ⟨_, po_none, fun G H σ env ω Q r g => g G H ω .refl r .refl fun _ _ z => z⟩
theorem do_some (h : DE X W true e ev) : DO X W (some e) (some ev) := by
  obtain ⟨t, h1, h2⟩ := h
  refine ⟨_, po_some h1, fun G H σ env ω Q r g => h2 G H σ env ω _ r ?_⟩
  unfold evPart at g
  simp only at g
  cases q : ev env with
  | ok t' env' =>
    rw [q] at g
    intro v G1 H1 ω1 S s1 r1 o1 d1 n1 k1
    simp only [R.bind, R.lift] at g
    cases q2 : t'.int? with
    | none =>
      rw [q2] at g
      exact g.elim
    | some i =>
      rw [q2] at g
      have e := int?_eq q2
      subst e
      cases o1 with
      | dat h _ => exact ⟨i, dq_int h, g G1 H1 ω1 s1 r1 (dom_new n1) (k1 rfl)⟩
  | exc c env' =>
    rw [q] at g
    exact g
  | fail =>
    rw [q] at g
    exact g
theorem de_sli {p2 : Pos} {lo hi : Option Expr} {elo ehi : Option Ev} (h : DP X W p a ea) (hl : DO X W lo elo) (hh : DO X W hi ehi) : DE X W p (.Subscript a (.Slice lo hi none p2) pos) (evSli ea elo ehi) := by
  obtain ⟨t, h1, h2⟩ := h
  obtain ⟨u, l1, l2⟩ := hl
  obtain ⟨w, u1, u2⟩ := hh
  refine ⟨_, pe_slice slr h1 l1 u1, fun G H σ env ω Q r g => h2 G H σ env ω _ r ?_⟩
  unfold evSli at g
  cases q : ea env with
  | ok t' env1 =>
    rw [q] at g
    intro x G1 H1 ω1 s1 r1 o1 n1 k1
    refine l2 G1 H1 σ env1 ω1 _ r1 ?_
    simp only [R.bind] at g
    cases q2 : evPart elo env1 with
    | ok l env2 =>
      rw [q2] at g
      intro G2 H2 ω2 s2 r2 n2 k2
      refine u2 G2 H2 σ env2 ω2 _ r2 ?_
      simp only at g
      cases q3 : evPart ehi env2 with
      | ok hh env3 =>
        rw [q3] at g
        intro G3 H3 ω3 s3 r3 n3 k3
        simp only [R.lift] at g
        cases q4 : sliT t' l hh with
        | none =>
          rw [q4] at g
          exact g.elim
        | some rr =>
          rw [q4] at g
          have s12 := s1.trans s2 n1
          have n12 := New.trans s1 n1 n2
          exact ⟨G3, t', rr, r3.sub, (o1.step s2.ext k2).step s3.ext k3, q4, fun v G4 H4 nt => good_new g (s12.trans s3 n12) r3 (New.trans s12 n12 n3) (fun z b o h => k3 b o (k2 b o (k1 z b o h))) nt⟩
      | exc c env3 =>
        rw [q3] at g
        exact goodX_step (s1.trans s2 n1) (New.trans s1 n1 n2) g
      | fail =>
        rw [q3] at g
        exact g
    | exc c env2 =>
      rw [q2] at g
      exact goodX_step s1 n1 g
    | fail =>
      rw [q2] at g
      exact g
  | exc c env1 =>
    rw [q] at g
    exact g
  | fail =>
    rw [q] at g
    exact g
def revT (t : T) : Option T := match t.seq with
  | some (false, ds) => some (tl ds.reverse)
  | _ => none
theorem dqAll_rev {K : PySem.W.Frag} {G : Hp} : ∀ {vs : List V} {ds : List PyData}, DqAll K G vs ds → DqAll K G vs.reverse ds.reverse
  | _, _, .nil => .nil
  | _, _, .cons h1 h2 => by
    rw [List.reverse_cons, List.reverse_cons]
    exact dpAll_app (dqAll_rev h2) (.cons h1 .nil)
theorem de_rev {k : Nat} {p1 p2 p3 : Pos} (h : DP X W p a ea) : DE X W p (.Subscript a (.Slice none none (some (.UnaryOp .USub (.Constant (.int 1) k p1) p2)) p3) pos) (evB1 revT ea) := by
  obtain ⟨t, h1, h2⟩ := h
  refine ⟨_, pe_revL h1, fun G H σ env ω Q r g => h2 G H σ env ω _ r ?_⟩
  unfold evB1 at g
  cases q : ea env with
  | ok t' env' =>
    rw [q] at g
    intro x G1 H1 ω1 s1 r1 o1 n1 k1
    simp only [R.bind, R.lift] at g
    cases q2 : revT t' with
    | none =>
      rw [q2] at g
      exact g.elim
    | some rr =>
      rw [q2] at g
      unfold revT at q2
      split at q2
      · rename_i ds e1
        cases q2
        obtain ⟨a', vs, rfl, z1, z2, _⟩ := vw_seq r1.sub o1 e1
        exact ⟨a', vs, rfl, z2 rfl, fun q hq => good_new g s1 r1 n1 k1 (.lst r1.sub hq (dqAll_rev z1))⟩
      · cases q2
  | exc c env' =>
    rw [q] at g
    exact g
  | fail =>
    rw [q] at g
    exact g
/-! ### a op b op c -/
def evChn (o1 o2 : CmpOp) (e2 : Envt → R (T × T)) (ec : Ev) : Ev := fun env => (e2 env).bind fun tu env1 => match cmpT o1 tu.1 tu.2, tu.2.isDat with
  | some true, some d => (ec env1).bind fun w env2 => R.lift ((cmpT o2 (.dat d) w).map fun b => T.dat (.bool b)) env2
  | some false, _ => .ok (.dat (.bool false)) env1
  | _, _ => .fail
def lastOk (o2 : CmpOp) (c : Expr) : Bool := !behindInMarks o2 c
theorem isDat_eq {t : T} {d : PyData} (h : t.isDat = some d) : t = .dat d := by
  cases t with
  | dat d' => simp only [T.isDat, Option.some.injEq] at h; rw [h]
  | exc c => simp [T.isDat] at h
  | fdc ks ds => simp [T.isDat] at h
  | node k ts => simp [T.isDat] at h
theorem chn_read {o1 o2 : CmpOp} {e2 : Envt → R (T × T)} {ta tb tc : TE} (k : ∀ G H σ env ω (Q : V → V → Hp → Prop), Rep X.K G H σ env ω → Good2 X W pa G H σ ω Q (e2 env) → ta σ H fun x H1 => tb σ H1 fun y H2 => Q x y H2)
    (kc : ∀ G H σ env ω (Q : VK), Rep X.K G H σ env ω → GoodP X W pc G H σ ω Q (ec env) → tc σ H Q)
    {G H : Hp} {σ : L2.St} {env : Envt} {ω : Own3} {Q : VK} (r : Rep X.K G H σ env ω) (g : GoodE X W (pa && pc) G H σ ω Q (evChn o1 o2 e2 ec env)) : tChain (rC X.K (cmpT o1)) (rC X.K (cmpT o2)) ta tb tc σ H Q := by
  refine k G H σ env ω (fun x y H2 => rC X.K (cmpT o1) x y H2 fun z H3 => ∃ k, z = .bl k ∧ (if k = true then tc σ H3 fun w' H4 => rC X.K (cmpT o2) y w' H4 Q else Q (.bl false) H3)) r ?_
  unfold evChn at g
  cases q : e2 env with
  | ok tu env1 =>
    rw [q] at g
    intro x y G1 H1 ω1 s1 r1 v1 v2 n1 k1
    simp only [R.bind] at g
    split at g
    · rename_i d e1 e2'
      refine ⟨G1, tu.1, tu.2, true, r1.sub, v1, v2, e1, true, rfl, ?_⟩
      rw [if_pos rfl]
      refine kc G1 H1 σ env1 ω1 _ r1 ?_
      cases q2 : ec env1 with
      | ok w env2 =>
        rw [q2] at g
        intro z G2 H2 ω2 s2 r2 v3 n2 k2
        simp only [R.lift] at g
        cases q3 : cmpT o2 (.dat d) w with
        | none =>
          rw [q3] at g
          exact g.elim
        | some b =>
          rw [q3] at g
          have e3 := isDat_eq e2'
          rw [e3] at v2
          exact ⟨G2, .dat d, w, b, r2.sub, .dat (dp_mono s2.ext _ _ (vw_dat v2)), v3, q3, good_dat g (s1.trans s2 n1) r2 (New.trans s1 n1 n2) (same_and k1 k2) (.bl _)⟩
      | exc c env2 =>
        rw [q2] at g
        exact goodX_step s1 n1 g
      | fail =>
        rw [q2] at g
        exact g
    · rename_i e1
      refine ⟨G1, tu.1, tu.2, false, r1.sub, v1, v2, e1, false, rfl, ?_⟩
      rw [if_neg Bool.false_ne_true]
      exact good_dat g s1 r1 n1 (and_left k1) (.bl _)
    · exact g.elim
  | exc c env1 =>
    rw [q] at g
    exact g
  | fail =>
    rw [q] at g
    exact g
theorem de_chn (hu : X.A.units + 64 < cLine) {o1 o2 : CmpOp} {e2 : Envt → R (T × T)} (h : D2 X W pa a b e2) (hc : DP X W pc c ec) (hm : behindInMarks o2 c = false) : DE X W (pa && pc) (.Compare a [o1, o2] [b, c] pos) (evChn o1 o2 e2 ec) := by
  obtain ⟨ta, tb, a1, b1, k⟩ := h
  obtain ⟨tc, c1, kc⟩ := hc
  exact ⟨_, pe_chain (opr_cmp hu o1) (opr_cmp hu o2) a1 b1 c1 hm, fun G H σ env ω Q r g => chn_read k kc r g⟩
theorem dt_chn (hu : X.A.units + 64 < cLine) {o1 o2 : CmpOp} {e2 : Envt → R (T × T)} (h : D2 X W pa a b e2) (hc : DP X W pc c ec) (hm : behindInMarks o2 c = false) : DT X W (pa && pc) (.Compare a [o1, o2] [b, c] pos) (evTst (evChn o1 o2 e2 ec)) := by
  obtain ⟨ta, tb, a1, b1, k⟩ := h
  obtain ⟨tc, c1, kc⟩ := hc
  exact ⟨_, pt_chain (opr_cmp hu o1) (opr_cmp hu o2) a1 b1 c1 hm, fun G H σ env ω Q r g => chn_read k kc r (goodT_E g)⟩
end
end VR

/-! VR8: stores, targets, sources of walks. -/
namespace VR
open PySem PySem.Spec PyProof.Rows L2
section
variable {K : PySem.W.Frag} {G H : Hp} {σ : L2.St} {env : Envt} {ω : Own3}
open Classical in
/-- a tree of ours goes to a slot; what was there is let go -/
theorem Rep.put (r : Rep K G H σ env ω) {i : Nat} {v : V} {t : T} {S : Addr → Prop} (hi : i < env.length) (o : Own K G H v t S) (d : ∀ b, S b → ω b = none) :
    ∃ ω', Rep K G H (σ.set i (some v)) (env.set i (some t)) ω' ∧ ∀ b, dom ω' b → S b ∨ dom ω b := by
  have his : i < σ.length := by rw [← r.len]; exact hi
  refine ⟨fun b => if S b then some i else if ω b = some i then none else ω b, ⟨r.sub, fun j t' hj => ?_, fun b j hb => ?_, by rw [List.length_set, List.length_set]; exact r.len⟩, fun b ⟨j, hj⟩ => ?_⟩
  · by_cases hij : j = i
    · subst hij
      rw [List.getElem?_set_self hi] at hj
      cases hj
      refine ⟨v, List.getElem?_set_self his, o.congr fun b => ?_⟩
      show (if S b then some j else if ω b = some j then none else ω b) = some j ↔ S b
      by_cases hs : S b
      · rw [if_pos hs]
        exact ⟨fun _ => hs, fun _ => rfl⟩
      · rw [if_neg hs]
        refine ⟨fun z => ?_, fun z => absurd z hs⟩
        split at z
        · cases z
        · rename_i y
          exact absurd z y
    · rw [List.getElem?_set_ne (Ne.symm hij)] at hj
      obtain ⟨v', hv', o'⟩ := r.own j t' hj
      refine ⟨v', by rw [List.getElem?_set_ne (Ne.symm hij)]; exact hv', o'.congr fun b => ?_⟩
      show (if S b then some i else if ω b = some i then none else ω b) = some j ↔ ω b = some j
      by_cases hs : S b
      · rw [if_pos hs, d b hs]
        exact ⟨fun z => absurd (Option.some.inj z).symm hij, fun z => by cases z⟩
      · rw [if_neg hs]
        split
        · rename_i y
          rw [y]
          exact ⟨fun z => (by cases z), fun z => absurd (Option.some.inj z).symm hij⟩
        · exact Iff.rfl
  · have hb' : (if S b then some i else if ω b = some i then none else ω b) = some j := hb
    by_cases hs : S b
    · rw [if_pos hs] at hb'
      cases hb'
      exact ⟨t, List.getElem?_set_self hi⟩
    · rw [if_neg hs] at hb'
      split at hb'
      · cases hb'
      · rename_i y
        have hij : j ≠ i := fun z => y (z ▸ hb')
        obtain ⟨t', ht'⟩ := r.emp b j hb'
        exact ⟨t', by rw [List.getElem?_set_ne (Ne.symm hij)]; exact ht'⟩
  · have hj' : (if S b then some i else if ω b = some i then none else ω b) = some j := hj
    by_cases hs : S b
    · exact .inl hs
    · rw [if_neg hs] at hj'
      split at hj'
      · cases hj'
      · exact .inr ⟨j, hj'⟩
theorem Rep.putDat (r : Rep K G H σ env ω) {i : Nat} {v : V} {d : PyData} (hi : i < env.length) (h : Dq K G v d) : ∃ ω', Rep K G H (σ.set i (some v)) (env.set i (some (.dat d))) ω' ∧ ∀ b, dom ω' b → dom ω b := by
  obtain ⟨ω', r', s⟩ := r.put hi (.dat (S := fun _ => False) h fun _ z => z) (fun _ z => z.elim)
  exact ⟨ω', r', fun b hb => (s b hb).elim (fun z => z.elim) id⟩
open Classical in
/-- a slot's tree taken out -/
theorem Rep.out (r : Rep K G H σ env ω) {i : Nat} {t : T} (ht : env[i]? = some (some t)) : ∃ v ω', σ[i]? = some (some v) ∧ Rep K G H σ (env.set i none) ω' ∧ Own K G H v t (fun b => ω b = some i) ∧ (∀ b, ω b = some i → ω' b = none) ∧ ∀ b, dom ω' b → dom ω b := by
  obtain ⟨v, hv, o⟩ := r.own i t ht
  have hi : i < env.length := (List.getElem?_eq_some_iff.mp ht).1
  refine ⟨v, fun b => if ω b = some i then none else ω b, hv, ⟨r.sub, fun j t' hj => ?_, fun b j hb => ?_, by rw [List.length_set]; exact r.len⟩, o, fun b hb => if_pos hb, fun b ⟨j, hj⟩ => ?_⟩
  · by_cases hij : j = i
    · subst hij
      rw [List.getElem?_set_self hi] at hj
      cases hj
    · rw [List.getElem?_set_ne (Ne.symm hij)] at hj
      obtain ⟨v', hv', o'⟩ := r.own j t' hj
      refine ⟨v', hv', o'.congr fun b => ?_⟩
      show (if ω b = some i then none else ω b) = some j ↔ ω b = some j
      split
      · rename_i y
        rw [y]
        exact ⟨fun z => (by cases z), fun z => absurd (Option.some.inj z).symm hij⟩
      · exact Iff.rfl
  · have hb' : (if ω b = some i then none else ω b) = some j := hb
    split at hb'
    · cases hb'
    · rename_i y
      have hij : j ≠ i := fun z => y (z ▸ hb')
      obtain ⟨t', ht'⟩ := r.emp b j hb'
      exact ⟨t', by rw [List.getElem?_set_ne (Ne.symm hij)]; exact ht'⟩
  · have hj' : (if ω b = some i then none else ω b) = some j := hj
    split at hj'
    · cases hj'
    · exact ⟨j, hj'⟩
end
/-! ### targets -/
def Keep (nk : Nat) (σ σ' : L2.St) : Prop := ∀ i, i < nk → σ'[i]? = σ[i]?
theorem Keep.refl {nk : Nat} {σ : L2.St} : Keep nk σ σ := fun _ _ => rfl
theorem Keep.trans {nk : Nat} {σ σ1 σ2 : L2.St} (a : Keep nk σ σ1) (b : Keep nk σ1 σ2) : Keep nk σ σ2 := fun i hi => (b i hi).trans (a i hi)
theorem Keep.set {nk i : Nat} {σ : L2.St} {x : Option V} (h : nk ≤ i) : Keep nk σ (σ.set i x) := fun j hj => List.getElem?_set_ne (by omega)
inductive Tg where
  | one (i : Nat)
  | many (is : List Nat)
def Tg.slots : Tg → List Nat
  | .one i => [i]
  | .many is => is
def setMany : List Nat → List PyData → Envt → Option Envt
  | [], [], env => some env
  | i :: is, d :: ds, env => if i < env.length then setMany is ds (env.set i (some (.dat d))) else none
  | _, _, _ => none
def setTg : Tg → PyData → Envt → Option Envt
  | .one i, d, env => if i < env.length then some (env.set i (some (.dat d))) else none
  | .many is, .tuple ds, env => setMany is ds env
  | .many is, .list ds, env => setMany is ds env
  | .many _, _, _ => none
/-- s' is s, but at some of these slots -/
def Out (vs : List Nat) (σ σ' : L2.St) : Prop := σ'.length = σ.length ∧ ∀ i, i ∉ vs → σ'[i]? = σ[i]?
theorem Out.refl {vs : List Nat} {σ : L2.St} : Out vs σ σ := ⟨rfl, fun _ _ => rfl⟩
theorem Out.trans {vs : List Nat} {σ σ1 σ2 : L2.St} (a : Out vs σ σ1) (b : Out vs σ1 σ2) : Out vs σ σ2 := ⟨b.1.trans a.1, fun i hi => (b.2 i hi).trans (a.2 i hi)⟩
theorem Out.set {vs : List Nat} {i : Nat} {σ : L2.St} {x : Option V} (h : i ∈ vs) : Out vs σ (σ.set i x) := ⟨List.length_set, fun j hj => List.getElem?_set_ne (fun z => hj (by rw [← z]; exact h))⟩
theorem Out.keep {vs : List Nat} {nk : Nat} {σ σ' : L2.St} (o : Out vs σ σ') (h : ∀ i ∈ vs, nk ≤ i) : Keep nk σ σ' := fun i hi => o.2 i fun z => absurd (h i z) (by omega)
theorem wipe_get {σ : L2.St} : ∀ {vs : List Nat} {i : Nat}, i < σ.length → i ∈ vs → (wipe σ vs)[i]? = some none
  | v :: vs, i, hl, h => by
    unfold wipe
    by_cases e : v = i
    · subst e
      exact List.getElem?_set_self (by rw [wipe_length]; exact hl)
    · rw [List.getElem?_set_ne e]
      rcases List.mem_cons.mp h with z | z
      · exact absurd z.symm e
      · exact wipe_get hl z
theorem Out.wipe {vs : List Nat} {σ σ' : L2.St} (o : Out vs σ σ') : wipe σ' vs = wipe σ vs := by
  refine List.ext_getElem? fun i => ?_
  by_cases hv : i ∈ vs
  · by_cases hi : i < σ.length
    · rw [wipe_get hi hv, wipe_get (by rw [o.1]; exact hi) hv]
    · rw [List.getElem?_eq_none (by rw [wipe_length, o.1]; omega), List.getElem?_eq_none (by rw [wipe_length]; omega)]
  · rw [wipe_out hv, wipe_out hv, o.2 i hv]
def DG (X : Cx) (e : Expr) (t : Tg) : Prop := ∃ g : TG, PG X e g ∧ ∀ G H σ env ω v d Q env1, Rep X.K G H σ env ω → Dq X.K G v d → setTg t d env = some env1 → (∀ σ1 ω1, Rep X.K G H σ1 env1 ω1 → (∀ b, dom ω1 b → dom ω b) → Out t.slots σ σ1 → Q σ1 H) → g v σ H Q
/-- the readings of a target of several names -/
def gMany (K : PySem.W.Frag) : List Nat → TGs
  | [] => gNil
  | i :: is => gCons (gName i) (gMany K is)
theorem many_read {K : PySem.W.Frag} {G H : Hp} : ∀ (is : List Nat) (vs : List V) (ds : List PyData) (σ : L2.St) (env : Envt) (ω : Own3) (env1 : Envt) (Q : L2.St → Hp → Prop), Rep K G H σ env ω → DqAll K G vs ds → setMany is ds env = some env1 →
    (∀ σ1 ω1, Rep K G H σ1 env1 ω1 → (∀ b, dom ω1 b → dom ω b) → Out is σ σ1 → Q σ1 H) → gMany K is vs σ H Q
  | [], _, ds, σ, env, ω, env1, Q, r, h, e, k => by
    cases ds with
    | nil =>
      cases h
      simp only [setMany, Option.some.injEq] at e
      subst e
      exact ⟨rfl, k σ ω r (fun _ z => z) .refl⟩
    | cons d ds => simp [setMany] at e
  | i :: is, _, ds, σ, env, ω, env1, Q, r, h, e, k => by
    cases ds with
    | nil => simp [setMany] at e
    | cons d ds =>
      cases h with
      | cons h1 h2 =>
        simp only [setMany] at e
        split at e
        · rename_i hi
          obtain ⟨ω', r', s'⟩ := r.putDat hi h1
          exact ⟨_, _, rfl, many_read is _ ds _ _ ω' env1 Q r' h2 e fun σ1 ω1 r1 s1 o1 => k σ1 ω1 r1 (fun b hb => s' b (s1 b hb)) (Out.trans (Out.set List.mem_cons_self) ⟨o1.1, fun j hj => o1.2 j fun z => hj (List.mem_cons_of_mem _ z)⟩)⟩
        · cases e
section
variable {X : Cx} {pos : Pos}
theorem dg_one {i : Nat} {x : Str} (h : PG X (.Name x pos) (gName i)) : DG X (.Name x pos) (.one i) := by
  refine ⟨gName i, h, fun G H σ env ω v d Q env1 r hd e k => ?_⟩
  simp only [setTg] at e
  split at e
  · rename_i hi
    cases e
    obtain ⟨ω', r', s'⟩ := r.putDat hi hd
    exact k _ ω' r' s' (Out.set List.mem_cons_self)
  · cases e
theorem pg_or2 {tg : Expr} {t u : TG} (h1 : PG X tg t) (h2 : PG X tg u) : PG X tg (fun v σ H Q => t v σ H Q ∨ u v σ H Q) :=
  ⟨fun pins s σ H v w Q I r h => h.elim (fun z => h1.run pins s σ H v w Q I r z) fun z => h2.run pins s σ H v w Q I r z⟩
theorem setMany_len : ∀ (is : List Nat) (ds : List PyData) (env env1 : Envt), setMany is ds env = some env1 → is.length = ds.length := by
  intro is
  induction is with
  | nil =>
    intro ds env env1 h
    cases ds with
    | nil => rfl
    | cons d ds => simp [setMany] at h
  | cons i is ih =>
    intro ds env env1 h
    cases ds with
    | nil => simp [setMany] at h
    | cons d ds =>
      simp only [setMany] at h
      split at h
      · simp [ih _ _ _ h]
      · cases h
theorem dg_many {es : List Expr} {k n : Nat} {is : List Nat} (hc : X.calm = true) (h : PGs X es (gMany X.K is)) (hn : (assignEach es X.env).length = n) (hst : (assignEach es X.env).findIdx? (·.1) = none) (hl : is.length = n) : DG X (.Tuple es k pos) (.many is) := by
  refine ⟨_, pg_or2 (pg_tup hc h hn hst) (pg_unl hc h hn hst), fun G H σ env ω v d Q env1 r hd e k => ?_⟩
  cases d with
  | tuple ds =>
    simp only [setTg] at e
    cases hd with
    | tup h1 h2 =>
      refine .inl ⟨_, _, rfl, SqT.of (r.sub _ _ h1), ?_, many_read is _ ds σ env ω env1 Q r h2 e fun σ1 ω1 r1 s1 o1 => k σ1 ω1 r1 s1 o1⟩
      rw [dpAll_len h2, ← setMany_len _ _ _ _ e, hl]
  | list ds =>
    simp only [setTg] at e
    cases hd with
    | lst h1 h2 =>
      refine .inr ⟨_, _, rfl, same_sqL r.sub h1, ?_, many_read is _ ds σ env ω env1 Q r h2 e fun σ1 ω1 r1 s1 o1 => k σ1 ω1 r1 s1 o1⟩
      rw [dpAll_len h2, ← setMany_len _ _ _ _ e, hl]
  | none => simp [setTg] at e
  | bool b => simp [setTg] at e
  | int i => simp [setTg] at e
  | str x => simp [setTg] at e
  | dict kvs => simp [setTg] at e
end
/-! ### sources of walks -/
/-- J walks the items ds, as things stand -/
def SrcOk (K : PySem.W.Frag) (G H : Hp) (J : It) (ds : List PyData) : Prop :=
  (∀ (i : Nat) (d : PyData), ds[i]? = some d → J.go i H ∧ ∀ x H', J.yld i H x H' → ∃ G', NewT K G H x (.dat d) G' H') ∧ ∀ i, ds.length ≤ i → J.stop i H
/-- a source: frozen items; or those of the list (the tuple) in a slot -/
inductive Src where
  | fix (ds : List PyData)
  | slot (i : Nat) (b : Bool) (ds : List PyData)
def Src.items : Src → List PyData
  | .fix ds => ds
  | .slot _ _ ds => ds
/-- the slot still holds them -/
def slotOk (i : Nat) (b : Bool) (ds : List PyData) (env : Envt) : Prop := ∃ t, env[i]? = some (some t) ∧ t.seq = some (b, ds)
def Src.still : Src → Envt → Prop
  | .fix _, _ => True
  | .slot i b ds, env => slotOk i b ds env
/-- it walks so, whatever is done elsewhere -/
def SrcAt (K : PySem.W.Frag) (G : Hp) (σ : L2.St) (J : It) : Src → Prop
  | .fix ds => ∀ G2 H2, Same G G2 → Same G2 H2 → SrcOk K G2 H2 J ds
  | .slot i b ds => ∀ G2 H2 (σ2 : L2.St) env2 ω2, Rep K G2 H2 σ2 env2 ω2 → σ2[i]? = σ[i]? → slotOk i b ds env2 → SrcOk K G2 H2 J ds
theorem src_list {K : PySem.W.Frag} {G H : Hp} {a : Addr} {vs : List V} {ds : List PyData} (s : Same G H) (h : SqL K H a vs) (hd : DqAll K G vs ds) : SrcOk K G H (Itl K a) ds := by
  refine ⟨fun i d hi => ?_, fun i hi => ⟨vs, h, by rw [dpAll_len hd]; exact hi⟩⟩
  obtain ⟨v, hv, q⟩ := dpAll_at' hd hi
  refine ⟨⟨vs, v, h, hv⟩, fun x H' y => ?_⟩
  obtain ⟨rfl, y⟩ := y
  have e := y vs h
  rw [hv] at e
  cases e
  exact ⟨G, .of_dat s q⟩
theorem src_tup {K : PySem.W.Frag} {G H : Hp} {a : Addr} {vs : List V} {ds : List PyData} (s : Same G H) (h : H a = some (.tup vs)) (hd : DqAll K G vs ds) : SrcOk K G H (Itt K a) ds := by
  refine ⟨fun i d hi => ?_, fun i hi => ⟨vs, SqT.of h, by rw [dpAll_len hd]; exact hi⟩⟩
  obtain ⟨v, hv, q⟩ := dpAll_at' hd hi
  refine ⟨⟨vs, v, SqT.of h, hv⟩, fun x H' y => ?_⟩
  obtain ⟨rfl, y⟩ := y
  have e := y vs (SqT.of h)
  rw [hv] at e
  cases e
  exact ⟨G, .of_dat s q⟩
section
variable (X : Cx) (W : WX)
def GoodI (p : Bool) (G H : Hp) (σ : L2.St) (ω : Own3) (Q : It → Hp → Prop) : R Src → Prop
  | .ok src env' => ∀ J G' H' ω', Step G H (dom ω) G' H' → Rep X.K G' H' σ env' ω' → SrcAt X.K G' σ J src → New H (dom ω) (dom ω') → (p = true → Same H H') → Q J H'
  | .exc c env' => GoodX X W G H σ ω c env'
  | .fail => False
def DI (p : Bool) (tg e : Expr) (ev : Envt → R Src) : Prop := ∃ wi : TI, PI X tg e wi ∧ ∀ G H σ env ω Q, Rep X.K G H σ env ω → GoodI X W p G H σ ω Q (ev env) → wi σ H Q
end
section
variable {X : Cx} {W : WX} {p : Bool} {tg e a : Expr} {ev ea : Ev}
theorem pi_or2 {t u : TI} (h1 : PI X tg e t) (h2 : PI X tg e u) : PI X tg e (fun σ H Q => t σ H Q ∨ u σ H Q) :=
  ⟨fun pins s σ H Q I h => h.elim (fun z => h1.run pins s σ H Q I z) fun z => h2.run pins s σ H Q I z⟩
/-- items that are frozen: a list, a tuple, a text's signs -/
def fixOf : T → Option (List PyData)
  | .dat (.list ds) => some ds
  | .dat (.tuple ds) => some ds
  | .dat (.str z) => some (z.cps.toList.map fun c => .str ⟨#[c]⟩)
  | t => match t.frz with
    | some (.list ds) => some ds
    | _ => none
def evFix (ev : Ev) : Envt → R Src := fun env => (ev env).bind fun t env' => R.lift ((fixOf t).map Src.fix) env'
theorem src_str {K : PySem.W.Frag} {G H : Hp} (s : Same G H) (z : Str) : SrcOk K G H (Its z) (z.cps.toList.map fun c => .str ⟨#[c]⟩) := by
  refine ⟨fun i d hi => ?_, fun i hi => (by rw [List.length_map, Array.length_toList] at hi; exact hi)⟩
  rw [List.getElem?_map, Option.map_eq_some_iff] at hi
  obtain ⟨c, e1, rfl⟩ := hi
  rw [Array.getElem?_toList] at e1
  refine ⟨(Array.getElem?_eq_some_iff.mp e1).1, fun x H' y => ?_⟩
  obtain ⟨rfl, c', e2, rfl⟩ := y
  rw [e1] at e2
  cases e2
  exact ⟨G, .of_dat s (.str _)⟩
open Classical in
theorem Own.freeze1 {K : PySem.W.Frag} {G H : Hp} {σ : L2.St} {env : Envt} {ω : Own3} {v : V} {t : T} {S : Addr → Prop} {d : PyData} (r : Rep K G H σ env ω) (o : Own K G H v t S) (ds : ∀ b, S b → ω b = none) (hd : t.frz = some d) :
    ∃ G', Same G G' ∧ Rep K G' H σ env ω ∧ Dq K G' v d ∧ ∀ b, ¬ S b → G b = none → G' b = none := by
  have gs : Same G (fun b => if S b then H b else G b) := fun b o e => by
    show (if S b then H b else G b) = some o
    split
    · exact r.sub b o e
    · exact e
  have sub : Same (fun b => if S b then H b else G b) H := fun b o e => by
    have e' : (if S b then H b else G b) = some o := e
    split at e'
    · exact e'
    · exact r.sub b o e'
  refine ⟨fun b => if S b then H b else G b, gs, r.step gs sub fun b hb => ⟨rfl, ?_⟩, o.read gs d hd fun b hb => if_pos hb, fun b hb hg => ?_⟩
  · show (if S b then H b else G b) = none
    rw [if_neg]
    · exact (r.there hb).2
    · intro z
      obtain ⟨i, hi⟩ := hb
      rw [ds b z] at hi
      cases hi
  · show (if S b then H b else G b) = none
    rw [if_neg hb]
    exact hg
/-- a temporary tree frozen: the step so far, said anew -/
theorem step_freeze {G H G1 H1 G2 : Hp} {ω ω1 : Own3} {S : Addr → Prop} (s1 : Step G H (dom ω) G1 H1) (n1 : New H (dom ω) fun b => dom ω1 b ∨ S b) (gs : Same G1 G2) (fr : ∀ b, ¬ S b → G1 b = none → G2 b = none) : Step G H (dom ω) G2 H1 := by
  refine ⟨fun b o e => gs b o (s1.ext b o e), fun b o hn e => ?_⟩
  obtain ⟨z1, z2⟩ := s1.frm b o hn e
  refine ⟨z1, fun z => fr b (fun y => ?_) (z2 z)⟩
  rcases n1 b (.inr y) with w | w
  · exact hn w
  · rw [e] at w
    cases w
theorem di_fix (h : DE X W p e ev) : DI X W p tg e (evFix ev) := by
  obtain ⟨t, h1, h2⟩ := h
  refine ⟨_, pi_or2 (pi_list h1) (pi_or2 (pi_tup h1) (pi_str h1)), fun G H σ env ω Q r g => ?_⟩
  unfold evFix at g
  cases q : ev env with
  | ok t' env' =>
    rw [q] at g
    simp only [R.bind, R.lift] at g
    cases q2 : fixOf t' with
    | none =>
      rw [q2] at g
      exact g.elim
    | some ds =>
      rw [q2] at g
      unfold fixOf at q2
      split at q2
      · cases q2
        refine .inl (h2 G H σ env ω _ r ?_)
        rw [q]
        intro v G1 H1 ω1 S s1 r1 o1 d1 n1 k1
        cases o1 with
        | dat hd _ =>
          cases hd with
          | lst z1 z2 =>
            refine ⟨_, rfl, ⟨_, same_sqL r1.sub z1⟩, g _ G1 H1 ω1 s1 r1 ?_ (dom_new n1) k1⟩
            exact fun G2 H2 e1 e2 => src_list e2 (same_sqL e2 (same_sqL e1 z1)) (dpAll_mono e1 _ _ z2)
      · cases q2
        refine .inr (.inl (h2 G H σ env ω _ r ?_))
        rw [q]
        intro v G1 H1 ω1 S s1 r1 o1 d1 n1 k1
        cases o1 with
        | dat hd _ =>
          cases hd with
          | tup z1 z2 =>
            refine ⟨_, rfl, ⟨_, SqT.of (r1.sub _ _ z1)⟩, g _ G1 H1 ω1 s1 r1 ?_ (dom_new n1) k1⟩
            exact fun G2 H2 e1 e2 => src_tup e2 (e2 _ _ (e1 _ _ z1)) (dpAll_mono e1 _ _ z2)
      · cases q2
        refine .inr (.inr (h2 G H σ env ω _ r ?_))
        rw [q]
        intro v G1 H1 ω1 S s1 r1 o1 d1 n1 k1
        cases o1 with
        | dat hd _ =>
          cases dq_str hd
          exact ⟨_, rfl, g _ G1 H1 ω1 s1 r1 (fun G2 H2 e1 e2 => src_str e2 _) (dom_new n1) k1⟩
      · split at q2
        · rename_i ds' e3
          cases q2
          refine .inl (h2 G H σ env ω _ r ?_)
          rw [q]
          intro v G1 H1 ω1 S s1 r1 o1 d1 n1 k1
          obtain ⟨G2, gs, r2, dq, fr⟩ := Own.freeze1 r1 o1 d1 e3
          cases dq with
          | lst z1 z2 =>
            refine ⟨_, rfl, ⟨_, same_sqL r2.sub z1⟩, g _ G2 H1 ω1 (step_freeze s1 n1 gs fr) r2 ?_ (dom_new n1) k1⟩
            exact fun G3 H3 e1 e2 => src_list e2 (same_sqL e2 (same_sqL e1 z1)) (dpAll_mono e1 _ _ z2)
        · cases q2
  | exc c env' =>
    rw [q] at g
    refine .inl (h2 G H σ env ω _ r ?_)
    rw [q]
    exact g
  | fail =>
    rw [q] at g
    exact g.elim
/-- a list or a tuple in a slot that is kept -/
def evSlot (i : Nat) : Envt → R Src := fun env => match env[i]? with
  | some (some t) => match t.seq with
    | some (b, ds) => .ok (.slot i b ds) env
    | none => .fail
  | _ => .fail
theorem di_slot {i : Nat} (h : PE X e (tVar i)) : DI X W true tg e (evSlot i) := by
  refine ⟨_, pi_or2 (pi_list h) (pi_tup h), fun G H σ env ω Q r g => ?_⟩
  unfold evSlot at g
  split at g
  · rename_i t ht
    split at g
    · rename_i b ds hs
      obtain ⟨v, hv, o⟩ := r.own i t ht
      obtain ⟨a', vs, rfl, q1, q2, q3⟩ := vw_seq r.sub o.vw hs
      have at_ : ∀ J, J = (if b = true then Itt X.K a' else Itl X.K a') → SrcAt X.K G σ J (.slot i b ds) := by
        intro J hJ G2 H2 σ2 env2 ω2 r2 hσ hk
        obtain ⟨t2, ht2, hs2⟩ := hk
        obtain ⟨v2, hv2, o2⟩ := r2.own i t2 ht2
        rw [hσ, hv] at hv2
        cases hv2
        obtain ⟨a2, vs2, e2, p1, p2, p3⟩ := vw_seq r2.sub o2.vw hs2
        cases e2
        cases b with
        | false =>
          rw [hJ, if_neg Bool.false_ne_true]
          exact src_list r2.sub (p2 rfl) p1
        | true =>
          rw [hJ, if_pos rfl]
          exact src_tup r2.sub (p3 rfl) p1
      cases b with
      | false => exact .inl ⟨_, hv, a', rfl, ⟨vs, q2 rfl⟩, g _ G H ω .refl r (at_ _ rfl) .refl fun _ _ _ z => z⟩
      | true => exact .inr ⟨_, hv, a', rfl, ⟨vs, SqT.of (q3 rfl)⟩, g _ G H ω .refl r (at_ _ rfl) .refl fun _ _ _ z => z⟩
    · exact g.elim
  · exact g.elim
end
/-! ### ranges -/
def rngD (lo : Int) (n : Nat) : List PyData := (List.range n).map fun k => .int (lo + (k : Nat))
theorem src_rng {K : PySem.W.Frag} {G H : Hp} (s : Same G H) (lo : Int) (n : Nat) : SrcOk K G H (Itr lo n) (rngD lo n) := by
  refine ⟨fun i d hi => ?_, fun i hi => (by unfold rngD at hi; rw [List.length_map, List.length_range] at hi; exact hi)⟩
  unfold rngD at hi
  rw [List.getElem?_map, Option.map_eq_some_iff] at hi
  obtain ⟨k, e1, rfl⟩ := hi
  rw [List.getElem?_eq_some_iff] at e1
  obtain ⟨z1, z2⟩ := e1
  rw [List.length_range] at z1
  rw [List.getElem_range] at z2
  subst z2
  refine ⟨z1, fun x H' y => ?_⟩
  obtain ⟨rfl, rfl⟩ := y
  exact ⟨G, .of_dat s (.int _)⟩
def in62 (i : Int) : Bool := decide (-(2 ^ 62) ≤ i ∧ i < 2 ^ 62)
def evRng1 (ea : Ev) : Envt → R Src := fun env => (ea env).bind fun t env' => R.lift (t.int?.bind fun j => if in62 j then some (Src.fix (rngD 0 j.toNat)) else none) env'
def evRng2 (es : Envt → R (List T)) : Envt → R Src := fun env => (es env).bind fun ts env' => match ts with
  | [a, b] => R.lift (a.int?.bind fun i => b.int?.bind fun j => if in62 i && in62 j then some (Src.fix (rngD i (j - i).toNat)) else none) env'
  | _ => .fail
section
variable {X : Cx} {W : WX} {p : Bool} {tg e a b : Expr} {ev ea : Ev} {evs : Envt → R (List T)}
theorem di_rng1 {p0 pos : Pos} (hg : Gl X "range") (hm : X.mg "range" = none) (h : DE X W p a ea) (hs : noStar a = true) : DI X W p tg (.Call (.Name "range" p0) [a] [] pos) (evRng1 ea) := by
  obtain ⟨t, h1, h2⟩ := h
  have hst : starEach [a] X.env = [(false, eval a X.env)] := star_cons hs
  refine ⟨_, pi_range1 hg hm (pa_cons h1 pa_nil hst) hst, fun G H σ env ω Q r g => h2 G H σ env ω _ r ?_⟩
  unfold evRng1 at g
  cases q : ea env with
  | ok t' env' =>
    rw [q] at g
    intro v G1 H1 ω1 S s1 r1 o1 d1 n1 k1
    simp only [R.bind, R.lift] at g
    cases q2 : t'.int? with
    | none =>
      rw [q2] at g
      exact g.elim
    | some j =>
      rw [q2] at g
      simp only [Option.bind_some] at g
      split at g
      · rename_i src hsrc
        split at hsrc
        · rename_i hz
          cases hsrc
          have e := int?_eq q2
          subst e
          cases o1 with
          | dat hd _ =>
            cases dq_int hd
            unfold in62 at hz
            rw [decide_eq_true_eq] at hz
            exact ⟨j, rfl, hz.1, hz.2, g _ G1 H1 ω1 s1 r1 (fun G2 H2 _ e2 => src_rng e2 0 _) (dom_new n1) k1⟩
        · cases hsrc
      · exact g.elim
  | exc c env' =>
    rw [q] at g
    exact g
  | fail =>
    rw [q] at g
    exact g
theorem di_rng2 {p0 pos : Pos} (hg : Gl X "range") (hm : X.mg "range" = none) (h : DA X W p [a, b] evs) (ha : noStar a = true) (hb : noStar b = true) : DI X W p tg (.Call (.Name "range" p0) [a, b] [] pos) (evRng2 evs) := by
  obtain ⟨t, h1, h2⟩ := h
  have hst : starEach [b] X.env = [(false, eval b X.env)] := star_cons hb
  have hst2 : starEach [a, b] X.env = [(false, eval a X.env), (false, eval b X.env)] := by rw [star_cons ha, hst]
  refine ⟨_, pi_range2 hg hm h1 hst2 hst, fun G H σ env ω Q r g => h2 G H σ env ω _ r ?_⟩
  unfold evRng2 at g
  cases q : evs env with
  | ok ts env' =>
    rw [q] at g
    intro vs G1 H1 ω1 τ s1 r1 l1 d1 n1 k1
    simp only [R.bind] at g
    split at g
    · rename_i ta tb
      simp only [R.lift] at g
      split at g
      · rename_i src hsrc
        rw [Option.bind_eq_some_iff] at hsrc
        obtain ⟨i, e1, hsrc⟩ := hsrc
        rw [Option.bind_eq_some_iff] at hsrc
        obtain ⟨j, e2, hsrc⟩ := hsrc
        split at hsrc
        · rename_i hz
          cases hsrc
          have ea := int?_eq e1
          have eb := int?_eq e2
          subst ea
          subst eb
          obtain ⟨v1, r1', ev⟩ : ∃ v1 r, vs = v1 :: r := by
            cases vs with
            | nil => exact absurd l1.len (by simp)
            | cons x y => exact ⟨x, y, rfl⟩
          subst ev
          obtain ⟨v2, r2', ev⟩ : ∃ v2 r, r1' = v2 :: r := by
            cases r1' with
            | nil => exact absurd l1.len (by simp)
            | cons x y => exact ⟨x, y, rfl⟩
          subst ev
          have er : r2' = [] := by
            cases r2' with
            | nil => rfl
            | cons x y => exact absurd l1.len (by simp)
          subst er
          have o1 := l1.own 0 v1 _ rfl rfl
          have o2 := l1.own 1 v2 _ rfl rfl
          cases o1 with
          | dat hd _ =>
            cases o2 with
            | dat hd2 _ =>
              cases dq_int hd
              cases dq_int hd2
              unfold in62 at hz
              simp only [Bool.and_eq_true, decide_eq_true_eq] at hz
              exact ⟨i, j, rfl, ⟨hz.1.1, hz.1.2, hz.2.1, hz.2.2⟩, g _ G1 H1 ω1 s1 r1 (fun G2 H2 _ e2 => src_rng e2 i _) (fun b hb => n1 b (.inl hb)) k1⟩
        · cases hsrc
      · exact g.elim
    · exact g.elim
  | exc c env' =>
    rw [q] at g
    exact g
  | fail =>
    rw [q] at g
    exact g
end
end VR

/-! VR9: statements. -/
namespace VR
open PySem PySem.Spec PyProof.Rows L2
/-! ### data can be told apart -/
mutual
def eqb : PyData → PyData → Bool
  | .none, .none => true
  | .bool a, .bool b => a == b
  | .int a, .int b => decide (a = b)
  | .str a, .str b => decide (a = b)
  | .list a, .list b => eqbAll a b
  | .tuple a, .tuple b => eqbAll a b
  | .dict a, .dict b => eqbKvs a b
  | _, _ => false
def eqbAll : List PyData → List PyData → Bool
  | [], [] => true
  | a :: as, b :: bs => eqb a b && eqbAll as bs
  | _, _ => false
def eqbKvs : List (PyData × PyData) → List (PyData × PyData) → Bool
  | [], [] => true
  | (a, a') :: as, (b, b') :: bs => eqb a b && (eqb a' b' && eqbKvs as bs)
  | _, _ => false
end
mutual
theorem eqb_eq : ∀ (a b : PyData), eqb a b = true → a = b
  | .none, b, h => by cases b <;> simp [eqb] at h <;> rfl
  | .bool x, b, h => by cases b <;> simp [eqb] at h; rw [h]
  | .int x, b, h => by cases b <;> simp [eqb] at h; rw [h]
  | .str x, b, h => by cases b <;> simp [eqb] at h; rw [h]
  | .list xs, b, h => by
    cases b with
    | list ys =>
      simp only [eqb] at h
      rw [eqbAll_eq xs ys h]
    | _ => simp [eqb] at h
  | .tuple xs, b, h => by
    cases b with
    | tuple ys =>
      simp only [eqb] at h
      rw [eqbAll_eq xs ys h]
    | _ => simp [eqb] at h
  | .dict xs, b, h => by
    cases b with
    | dict ys =>
      simp only [eqb] at h
      rw [eqbKvs_eq xs ys h]
    | _ => simp [eqb] at h
theorem eqbAll_eq : ∀ (a b : List PyData), eqbAll a b = true → a = b
  | [], b, h => by cases b <;> simp [eqbAll] at h; rfl
  | x :: xs, b, h => by
    cases b with
    | nil => simp [eqbAll] at h
    | cons y ys =>
      simp only [eqbAll, Bool.and_eq_true] at h
      rw [eqb_eq x y h.1, eqbAll_eq xs ys h.2]
theorem eqbKvs_eq : ∀ (a b : List (PyData × PyData)), eqbKvs a b = true → a = b
  | [], b, h => by cases b <;> simp [eqbKvs] at h; rfl
  | (x, x') :: xs, b, h => by
    cases b with
    | nil => simp [eqbKvs] at h
    | cons y ys =>
      obtain ⟨y, y'⟩ := y
      simp only [eqbKvs, Bool.and_eq_true] at h
      rw [eqb_eq x y h.1, eqb_eq x' y' h.2.1, eqbKvs_eq xs ys h.2.2]
end
mutual
theorem eqb_refl : ∀ a : PyData, eqb a a = true
  | .none => by simp [eqb]
  | .bool x => by simp [eqb]
  | .int x => by simp [eqb]
  | .str x => by simp [eqb]
  | .list xs => by simp only [eqb]; exact eqbAll_refl xs
  | .tuple xs => by simp only [eqb]; exact eqbAll_refl xs
  | .dict xs => by simp only [eqb]; exact eqbKvs_refl xs
theorem eqbAll_refl : ∀ a : List PyData, eqbAll a a = true
  | [] => by simp [eqbAll]
  | x :: xs => by simp only [eqbAll, Bool.and_eq_true]; exact ⟨eqb_refl x, eqbAll_refl xs⟩
theorem eqbKvs_refl : ∀ a : List (PyData × PyData), eqbKvs a a = true
  | [] => by simp [eqbKvs]
  | (x, x') :: xs => by simp only [eqbKvs, Bool.and_eq_true]; exact ⟨eqb_refl x, eqb_refl x', eqbKvs_refl xs⟩
end
instance : DecidableEq PyData := fun a b => if h : eqb a b = true then isTrue (eqb_eq a b h) else isFalse fun z => h (by rw [z]; exact eqb_refl b)
def slotB (i : Nat) (b : Bool) (ds : List PyData) (env : Envt) : Bool := match env[i]? with
  | some (some t) => decide (t.seq = some (b, ds))
  | _ => false
def Src.stillB : Src → Envt → Bool
  | .fix _, _ => true
  | .slot i b ds, env => slotB i b ds env
theorem slotB_ok {i : Nat} {b : Bool} {ds : List PyData} {env : Envt} (h : slotB i b ds env = true) : slotOk i b ds env := by
  unfold slotB at h
  split at h
  · rename_i t ht
    exact ⟨t, ht, of_decide_eq_true h⟩
  · cases h
/-- the slots that a source leans on are kept -/
def Src.kept (nk : Nat) : Src → Prop
  | .fix _ => True
  | .slot i _ _ => i < nk
theorem srcAt_ok {K : PySem.W.Frag} {G G2 H2 : Hp} {σ σ2 : L2.St} {J : It} {src : Src} {env2 : Envt} {ω2 : Own3} {nk : Nat} (h : SrcAt K G σ J src) (e : Same G G2) (r : Rep K G2 H2 σ2 env2 ω2) (k : Keep nk σ σ2) (hk : src.kept nk) (hs : src.stillB env2 = true) : SrcOk K G2 H2 J src.items := by
  cases src with
  | fix ds => exact h G2 H2 e r.sub
  | slot i b ds => exact h G2 H2 σ2 env2 ω2 r (k i hk) (slotB_ok hs)

/-! ### statements -/
inductive SRs where
  | next (env : Envt)
  | ret (t : T) (env : Envt)
  | exc (c : Str) (env : Envt)
  | brk (env : Envt)
  | cnt (env : Envt)
  | fail
abbrev Es := Envt → SRs
def R.st {α : Type} (r : R α) (f : α → Envt → SRs) : SRs := match r with
  | .ok a env => f a env
  | .exc c env => .exc c env
  | .fail => .fail
section
variable (X : Cx) (W : WX) (nk : Nat)
def GoodS (G H : Hp) (σ : L2.St) (ω : Own3) (D : Ends) : SRs → Prop
  | .next env' => ∀ σ' G' H' ω', Step G H (dom ω) G' H' → Rep X.K G' H' σ' env' ω' → New H (dom ω) (dom ω') → Keep nk σ σ' → D.nx σ' H'
  | .brk env' => ∀ σ' G' H' ω', Step G H (dom ω) G' H' → Rep X.K G' H' σ' env' ω' → New H (dom ω) (dom ω') → Keep nk σ σ' → D.bk σ' H'
  | .cnt env' => ∀ σ' G' H' ω', Step G H (dom ω) G' H' → Rep X.K G' H' σ' env' ω' → New H (dom ω) (dom ω') → Keep nk σ σ' → D.ct σ' H'
  | .ret t env' => ∀ v σ' G' H' ω' S, Step G H (dom ω) G' H' → Rep X.K G' H' σ' env' ω' → Own X.K G' H' v t S → (∀ b, S b → ω' b = none) → New H (dom ω) (fun b => dom ω' b ∨ S b) → Keep nk σ σ' → D.rt v H'
  | .exc c env' => ∀ σ' G' H' ω', Step G H (dom ω) G' H' → Rep X.K G' H' σ' env' ω' → New H (dom ω) (dom ω') → Keep nk σ σ' → W (.ref (He.ga X.K c)) none σ' H'
  | .fail => False
def DS (st : Stmt) (ev : Es) : Prop := ∃ t : TS, PS X st t ∧ ∀ G H σ env ω D, Rep X.K G H σ env ω → GoodS X W nk G H σ ω D (ev env) → t D σ H
def DSs (sts : List Stmt) (ev : Es) : Prop := ∃ t : TS, PSs X sts t ∧ ∀ G H σ env ω D, Rep X.K G H σ env ω → GoodS X W nk G H σ ω D (ev env) → t D σ H
end
section
variable {X : Cx} {W : WX} {nk : Nat} {p pa pc : Bool} {st : Stmt} {sts a b : List Stmt} {e c : Expr} {ev : Ev} {es es' : Es} {tc : Envt → R Bool} {pos : Pos}
theorem goodS_step {G H G1 H1 : Hp} {σ σ1 : L2.St} {ω ω1 : Own3} {D : Ends} {rr : SRs} (s1 : Step G H (dom ω) G1 H1) (n1 : New H (dom ω) (dom ω1)) (k1 : Keep nk σ σ1) (g : GoodS X W nk G H σ ω D rr) : GoodS X W nk G1 H1 σ1 ω1 D rr := by
  cases rr with
  | next env' => exact fun σ' G' H' ω' s2 r2 n2 k2 => g σ' G' H' ω' (s1.trans s2 n1) r2 (New.trans s1 n1 n2) (k1.trans k2)
  | brk env' => exact fun σ' G' H' ω' s2 r2 n2 k2 => g σ' G' H' ω' (s1.trans s2 n1) r2 (New.trans s1 n1 n2) (k1.trans k2)
  | cnt env' => exact fun σ' G' H' ω' s2 r2 n2 k2 => g σ' G' H' ω' (s1.trans s2 n1) r2 (New.trans s1 n1 n2) (k1.trans k2)
  | exc c env' => exact fun σ' G' H' ω' s2 r2 n2 k2 => g σ' G' H' ω' (s1.trans s2 n1) r2 (New.trans s1 n1 n2) (k1.trans k2)
  | ret t env' => exact fun v σ' G' H' ω' S s2 r2 o2 d2 n2 k2 => g v σ' G' H' ω' S (s1.trans s2 n1) r2 o2 d2 (New.trans s1 n1 n2) (k1.trans k2)
  | fail => exact g
/-- a statement's error, from an expression's -/
theorem goodX_S {G H : Hp} {σ : L2.St} {ω : Own3} {D : Ends} {c : Str} {env' : Envt} (g : GoodS X W nk G H σ ω D (.exc c env')) : GoodX X W G H σ ω c env' := fun G' H' ω' s r n => g σ G' H' ω' s r n .refl
theorem dss_nil : DSs X W nk [] (fun env => .next env) := ⟨_, pss_nil, fun G H σ env ω D r g => g σ G H ω .refl r .refl .refl⟩
def evSeq (a b : Es) : Es := fun env => match a env with
  | .next env' => b env'
  | r => r
theorem dss_cons (h1 : DS X W nk st es) (h2 : DSs X W nk sts es') : DSs X W nk (st :: sts) (evSeq es es') := by
  obtain ⟨t, a1, a2⟩ := h1
  obtain ⟨u, b1, b2⟩ := h2
  refine ⟨_, pss_cons a1 b1, fun G H σ env ω D r g => a2 G H σ env ω _ r ?_⟩
  unfold evSeq at g
  cases q : es env with
  | next env' =>
    rw [q] at g
    exact fun σ' G' H' ω' s1 r1 n1 k1 => b2 G' H' σ' env' ω' D r1 (goodS_step s1 n1 k1 g)
  | ret t env' =>
    rw [q] at g
    exact g
  | exc c env' =>
    rw [q] at g
    exact g
  | brk env' =>
    rw [q] at g
    exact g
  | cnt env' =>
    rw [q] at g
    exact g
  | fail =>
    rw [q] at g
    exact g
theorem ds_pass : DS X W nk (.Pass pos) (fun env => .next env) := ⟨_, ps_pass, fun G H σ env ω D r g => g σ G H ω .refl r .refl .refl⟩
theorem ds_cont : DS X W nk (.Continue pos) (fun env => .cnt env) := ⟨_, ps_continue, fun G H σ env ω D r g => g σ G H ω .refl r .refl .refl⟩
def evIf (tc : Envt → R Bool) (a b : Es) : Es := fun env => (tc env).st fun c env' => if c = true then a env' else b env'
theorem ds_if (hc : DT X W p c tc) (ha : DSs X W nk a es) (hb : DSs X W nk b es') : DS X W nk (.If c a b pos) (evIf tc es es') := by
  obtain ⟨t, c1, c2⟩ := hc
  obtain ⟨u, a1, a2⟩ := ha
  obtain ⟨w, b1, b2⟩ := hb
  refine ⟨_, ps_if c1 a1 b1, fun G H σ env ω D r g => c2 G H σ env ω _ r ?_⟩
  unfold evIf at g
  cases q : tc env with
  | ok c env' =>
    rw [q] at g
    intro G1 H1 ω1 s1 r1 n1 k1
    simp only [R.st] at g
    cases c with
    | true =>
      rw [if_pos rfl] at g ⊢
      exact a2 G1 H1 σ env' ω1 D r1 (goodS_step s1 n1 .refl g)
    | false =>
      rw [if_neg Bool.false_ne_true] at g ⊢
      exact b2 G1 H1 σ env' ω1 D r1 (goodS_step s1 n1 .refl g)
  | exc c env' =>
    rw [q] at g
    exact goodX_S g
  | fail =>
    rw [q] at g
    exact g
def evRet (ev : Ev) : Es := fun env => (ev env).st fun t env' => .ret t env'
theorem ds_ret (h : DE X W p e ev) : DS X W nk (.Return (some e) pos) (evRet ev) := by
  obtain ⟨t, h1, h2⟩ := h
  refine ⟨_, ps_ret h1, fun G H σ env ω D r g => h2 G H σ env ω _ r ?_⟩
  unfold evRet at g
  cases q : ev env with
  | ok t' env' =>
    rw [q] at g
    exact fun v G' H' ω' S s1 r1 o1 d1 n1 _ => g v σ G' H' ω' S s1 r1 o1 d1 n1 .refl
  | exc c env' =>
    rw [q] at g
    exact goodX_S g
  | fail =>
    rw [q] at g
    exact g
def evDrop (ev : Ev) : Es := fun env => (ev env).st fun _ env' => .next env'
theorem ds_expr (h : DE X W p e ev) (hs : swapsWith e none pos.line X.env = pure false) : DS X W nk (.Expr e pos) (evDrop ev) := by
  obtain ⟨t, h1, h2⟩ := h
  refine ⟨_, ps_expr h1 hs, fun G H σ env ω D r g => h2 G H σ env ω _ r ?_⟩
  unfold evDrop at g
  cases q : ev env with
  | ok t' env' =>
    rw [q] at g
    exact fun v G' H' ω' S s1 r1 o1 d1 n1 _ => g σ G' H' ω' s1 r1 (dom_new n1) .refl
  | exc c env' =>
    rw [q] at g
    exact goodX_S g
  | fail =>
    rw [q] at g
    exact g
/-! ### x = e -/
def evSet (i : Nat) (ev : Ev) : Es := fun env => (ev env).st fun t env' => if i < env'.length then .next (env'.set i (some t)) else .fail
theorem ds_set {i : Nat} {tg : Expr} (h : DE X W p e ev) (hk : nk ≤ i) (ps : ∀ te, PE X e te → PS X (.Assign [tg] e pos) (tAsg te (gName i))) : DS X W nk (.Assign [tg] e pos) (evSet i ev) := by
  obtain ⟨t, h1, h2⟩ := h
  refine ⟨_, ps t h1, fun G H σ env ω D r g => h2 G H σ env ω _ r ?_⟩
  unfold evSet at g
  cases q : ev env with
  | ok t' env' =>
    rw [q] at g
    intro v G1 H1 ω1 S s1 r1 o1 d1 n1 _
    simp only [R.st] at g
    split at g
    · rename_i hi
      obtain ⟨ω2, r2, s2⟩ := r1.put hi o1 d1
      exact g _ G1 H1 ω2 s1 r2 (fun b hb => n1 b ((s2 b hb).elim .inr .inl)) (.set hk)
    · exact g.elim
  | exc c env' =>
    rw [q] at g
    exact goodX_S g
  | fail =>
    rw [q] at g
    exact g
/-- targets of several names, a tuple taken apart -/
def evUnp (t : Tg) (ev : Ev) : Es := fun env => (ev env).st fun u env' => match u.frz with
  | some d => (match setTg t d env' with
    | some env2 => .next env2
    | none => .fail)
  | none => .fail
theorem ds_unp {tg : Expr} {t : Tg} (h : DE X W p e ev) (hg : DG X tg t) (hk : ∀ i ∈ t.slots, nk ≤ i) (ps : ∀ te g, PE X e te → PG X tg g → PS X (.Assign [tg] e pos) (tAsg te g)) : DS X W nk (.Assign [tg] e pos) (evUnp t ev) := by
  obtain ⟨te, h1, h2⟩ := h
  obtain ⟨g0, g1, g2⟩ := hg
  refine ⟨_, ps te g0 h1 g1, fun G H σ env ω D r g => h2 G H σ env ω _ r ?_⟩
  unfold evUnp at g
  cases q : ev env with
  | ok t' env' =>
    rw [q] at g
    intro v G1 H1 ω1 S s1 r1 o1 d1 n1 _
    simp only [R.st] at g
    split at g
    · rename_i d hd
      split at g
      · rename_i env2 he
        obtain ⟨G2, gs, r2, dq, fr⟩ := Own.freeze1 r1 o1 d1 hd
        refine g2 G2 H1 σ env' ω1 v d _ env2 r2 dq he fun σ1 ω2 r3 s3 o3 => ?_
        exact g σ1 G2 H1 ω2 (step_freeze s1 n1 gs fr) r3 (fun b hb => n1 b (.inl (s3 b hb))) (o3.keep hk)
      · exact g.elim
    · exact g.elim
  | exc c env' =>
    rw [q] at g
    exact goodX_S g
  | fail =>
    rw [q] at g
    exact g
/-! ### raise -/
theorem ds_raise {cn m : Str} {j : Nat} {p0 p1 p2 : Pos} (hc : X.calm = true) (tk : Takes X W) (hp : PMk X (.Call (.Name cn p0) [.Constant (.str m) j p1] [] p2) (fun _ H Q => Q (.ref (He.ga X.K cn)) none H)) :
    DS X W nk (.Raise (some (.Call (.Name cn p0) [.Constant (.str m) j p1] [] p2)) none pos) (fun env => .exc cn env) :=
  ⟨_, ps_raise hc tk hp, fun G H σ env ω D r g => g σ G H ω .refl r .refl .refl⟩
/-! ### for -/
def evFor (src : Src) (t : Tg) (body : Es) : List PyData → Es
  | [], env => if src.stillB env then .next env else .fail
  | d :: ds, env => if src.stillB env then (match setTg t d env with
    | some env1 => (match body env1 with
      | .next env2 => evFor src t body ds env2
      | .cnt env2 => evFor src t body ds env2
      | .brk env2 => .next env2
      | r => r)
    | none => .fail) else .fail
def evForS (si : Envt → R Src) (nk : Nat) (t : Tg) (body : Es) : Es := fun env => (si env).st fun src env' => match src with
  | .fix ds => evFor (.fix ds) t body ds env'
  | .slot i b ds => if i < nk then evFor (.slot i b ds) t body ds env' else .fail
theorem ds_for {tg iter : Expr} {body : List Stmt} {si : Envt → R Src} {t : Tg} (hp : PassesOwn (model X.prog X.w) X.A X.env X.xe) (hc : X.calm = true) (hi : DI X W p tg iter si) (hg : DG X tg t) (hb : DSs X W nk body es) (hk : ∀ i ∈ t.slots, nk ≤ i)
    (hs : ∀ x, foldedSetIterable iter X.env x = pure x) : DS X W nk (.For tg iter body [] pos) (evForS si nk t es) := by
  obtain ⟨wi, i1, i2⟩ := hi
  obtain ⟨g0, g1, g2⟩ := hg
  obtain ⟨tb, b1, b2⟩ := hb
  refine ⟨_, ps_for hp hc i1 g1 b1 hs, fun G H σ env ω D r g => i2 G H σ env ω _ r ?_⟩
  unfold evForS at g
  cases q : si env with
  | exc c env' =>
    rw [q] at g
    exact goodX_S g
  | fail =>
    rw [q] at g
    exact g
  | ok src env0 =>
    rw [q] at g
    intro J G0 H0 ω0 s0 r0 sa n0 _
    have kept : src.kept nk ∧ GoodS X W nk G H σ ω D (evFor src t es src.items env0) := by
      simp only [R.st] at g
      cases src with
      | fix ds => exact ⟨True.intro, g⟩
      | slot i b ds =>
        simp only at g
        split at g
        · rename_i hi
          exact ⟨hi, g⟩
        · exact g.elim
    obtain ⟨hkept, g⟩ := kept
    refine ⟨fun i m σ' H' => m = src.items.length - i ∧ i ≤ src.items.length ∧ ∃ G' env' ω', Step G H (dom ω) G' H' ∧ Rep X.K G' H' σ' env' ω' ∧ New H (dom ω) (dom ω') ∧ Keep nk σ σ' ∧ Same G0 G' ∧ GoodS X W nk G H σ ω D (evFor src t es (src.items.drop i) env'),
      ⟨_, rfl, Nat.zero_le _, G0, env0, ω0, s0, r0, n0, .refl, fun _ _ z => z, by rw [List.drop_zero]; exact g⟩, fun i m σ' H' w => ?_⟩
    obtain ⟨hm, hi, G', env', ω', s', r', n', k', sg', g'⟩ := w
    by_cases hlt : i < src.items.length
    · -- a turn
      have hd := List.drop_eq_getElem_cons hlt
      rw [hd, evFor] at g'
      split at g'
      · rename_i still
        have so := srcAt_ok sa sg' r' k' hkept still
        obtain ⟨go, yl⟩ := so.1 i src.items[i] (List.getElem?_eq_getElem hlt)
        refine .inr ⟨go, fun σ2 H2 => ∃ G2 env2 ω2, Step G H (dom ω) G2 H2 ∧ Rep X.K G2 H2 σ2 env2 ω2 ∧ New H (dom ω) (dom ω2) ∧ Keep nk σ σ2 ∧ Same G0 G2 ∧ GoodS X W nk G H σ ω D (evFor src t es (src.items.drop (i + 1)) env2), fun σ2 H2 w2 => ?_, fun x H1 y => ?_⟩
        · obtain ⟨G2, env2, ω2, z⟩ := w2
          exact ⟨_, by omega, rfl, hlt, G2, env2, ω2, z⟩
        · obtain ⟨G1, nt⟩ := yl x H1 y
          obtain ⟨S1, o1, d1, _⟩ := nt.own r'
          have dq : Dq X.K G1 x src.items[i] := by
            cases o1 with
            | dat h _ => exact h
          split at g'
          · rename_i env1 he
            refine g2 G1 H1 σ' env' ω' x _ _ env1 (nt.rep r') dq he fun σ1 ω1 r1 sub1 o1' => ?_
            have s1 : Step G H (dom ω) G1 H1 := s'.trans nt.step n'
            have n1 : New H (dom ω) (dom ω1) := fun b hb => n' b (sub1 b hb)
            have k1 : Keep nk σ σ1 := k'.trans (o1'.keep hk)
            have sg1 : Same G0 G1 := fun b o h => nt.g b o (sg' b o h)
            refine b2 G1 H1 σ1 env1 ω1 _ r1 ?_
            cases qb : es env1 with
            | next env2 =>
              rw [qb] at g'
              exact fun σ2 G2 H2 ω2 s2 r2 n2 k2 => ⟨G2, env2, ω2, s1.trans s2 n1, r2, New.trans s1 n1 n2, k1.trans k2, fun b o h => s2.ext b o (sg1 b o h), g'⟩
            | cnt env2 =>
              rw [qb] at g'
              exact fun σ2 G2 H2 ω2 s2 r2 n2 k2 => ⟨G2, env2, ω2, s1.trans s2 n1, r2, New.trans s1 n1 n2, k1.trans k2, fun b o h => s2.ext b o (sg1 b o h), g'⟩
            | brk env2 =>
              rw [qb] at g'
              exact fun σ2 G2 H2 ω2 s2 r2 n2 k2 => g' σ2 G2 H2 ω2 (s1.trans s2 n1) r2 (New.trans s1 n1 n2) (k1.trans k2)
            | ret tt env2 =>
              rw [qb] at g'
              exact fun v σ2 G2 H2 ω2 S s2 r2 o2 d2 n2 k2 => g' v σ2 G2 H2 ω2 S (s1.trans s2 n1) r2 o2 d2 (New.trans s1 n1 n2) (k1.trans k2)
            | exc cc env2 =>
              rw [qb] at g'
              exact fun σ2 G2 H2 ω2 s2 r2 n2 k2 => g' σ2 G2 H2 ω2 (s1.trans s2 n1) r2 (New.trans s1 n1 n2) (k1.trans k2)
            | fail =>
              rw [qb] at g'
              exact g'
          · exact g'.elim
      · exact g'.elim
    · have he : i = src.items.length := by omega
      rw [he, List.drop_length, evFor] at g'
      split at g'
      · rename_i still
        have so := srcAt_ok sa sg' r' k' hkept still
        exact .inl ⟨so.2 i (by omega), g' σ' G' H' ω' s' r' n' k'⟩
      · exact g'.elim
/-! ### while -/
def evWhile (tc : Envt → R Bool) (body : Es) : Nat → Es
  | 0, _ => .fail
  | n + 1, env => (tc env).st fun c env1 => if c = true then (match body env1 with
    | .next env2 => evWhile tc body n env2
    | .cnt env2 => evWhile tc body n env2
    | .brk env2 => .next env2
    | r => r) else .next env1
theorem ds_while {body : List Stmt} (n : Nat) (hp : PassesOwn (model X.prog X.w) X.A X.env X.xe) (hc : DT X W p c tc) (hb : DSs X W nk body es) : DS X W nk (.While c body [] pos) (evWhile tc es n) := by
  obtain ⟨tt, c1, c2⟩ := hc
  obtain ⟨tb, b1, b2⟩ := hb
  refine ⟨_, ps_while hp c1 b1, fun G H σ env ω D r g => ?_⟩
  refine ⟨fun m σ' H' => ∃ G' env' ω', Step G H (dom ω) G' H' ∧ Rep X.K G' H' σ' env' ω' ∧ New H (dom ω) (dom ω') ∧ Keep nk σ σ' ∧ GoodS X W nk G H σ ω D (evWhile tc es m env'),
    ⟨n, G, env, ω, .refl, r, .refl, .refl, g⟩, fun m σ' H' w => ?_⟩
  obtain ⟨G', env', ω', s', r', n', k', g'⟩ := w
  cases m with
  | zero => exact g'.elim
  | succ m =>
    rw [evWhile] at g'
    refine c2 G' H' σ' env' ω' _ r' ?_
    cases q : tc env' with
    | exc cc env1 =>
      rw [q] at g'
      exact goodX_S (goodS_step s' n' k' g')
    | fail =>
      rw [q] at g'
      exact g'
    | ok b env1 =>
      rw [q] at g'
      intro G1 H1 ω1 s1 r1 n1 _
      simp only [R.st] at g'
      have s2 := s'.trans s1 n'
      have n2 := New.trans s' n' n1
      cases b with
      | false =>
        rw [if_neg Bool.false_ne_true] at g' ⊢
        exact g' σ' G1 H1 ω1 s2 r1 n2 k'
      | true =>
        rw [if_pos rfl] at g' ⊢
        refine ⟨fun σ2 H2 => ∃ G2 env2 ω2, Step G H (dom ω) G2 H2 ∧ Rep X.K G2 H2 σ2 env2 ω2 ∧ New H (dom ω) (dom ω2) ∧ Keep nk σ σ2 ∧ GoodS X W nk G H σ ω D (evWhile tc es m env2), fun σ2 H2 w2 => ⟨m, Nat.lt_succ_self m, w2⟩, ?_⟩
        refine b2 G1 H1 σ' env1 ω1 _ r1 ?_
        cases qb : es env1 with
        | next env2 =>
          rw [qb] at g'
          exact fun σ2 G2 H2 ω2 s3 r2 n3 k2 => ⟨G2, env2, ω2, s2.trans s3 n2, r2, New.trans s2 n2 n3, k'.trans k2, g'⟩
        | cnt env2 =>
          rw [qb] at g'
          exact fun σ2 G2 H2 ω2 s3 r2 n3 k2 => ⟨G2, env2, ω2, s2.trans s3 n2, r2, New.trans s2 n2 n3, k'.trans k2, g'⟩
        | brk env2 =>
          rw [qb] at g'
          exact fun σ2 G2 H2 ω2 s3 r2 n3 k2 => g' σ2 G2 H2 ω2 (s2.trans s3 n2) r2 (New.trans s2 n2 n3) (k'.trans k2)
        | ret tt env2 =>
          rw [qb] at g'
          exact fun v σ2 G2 H2 ω2 S s3 r2 o2 d2 n3 k2 => g' v σ2 G2 H2 ω2 S (s2.trans s3 n2) r2 o2 d2 (New.trans s2 n2 n3) (k'.trans k2)
        | exc cc env2 =>
          rw [qb] at g'
          exact fun σ2 G2 H2 ω2 s3 r2 n3 k2 => g' σ2 G2 H2 ω2 (s2.trans s3 n2) r2 (New.trans s2 n2 n3) (k'.trans k2)
        | fail =>
          rw [qb] at g'
          exact g'
end
end VR

/-! VR10: list comprehensions. -/
namespace VR
open PySem PySem.Spec PyProof.Rows L2
/-- slots forgotten -/
def hide (vs : List Nat) (env : Envt) : Envt := vs.foldl (fun e i => e.set i none) env
/-- .. and brought back -/
def back (vs : List Nat) (env0 env : Envt) : Envt := vs.foldl (fun e i => e.set i ((env0[i]?).getD none)) env
theorem hide_len : ∀ (vs : List Nat) (env : Envt), (hide vs env).length = env.length
  | [], _ => rfl
  | v :: vs, env => by
    show (hide vs (env.set v none)).length = _
    rw [hide_len vs, List.length_set]
theorem hide_get : ∀ (vs : List Nat) (env : Envt) (i : Nat), (hide vs env)[i]? = if i ∈ vs ∧ i < env.length then some none else env[i]?
  | [], env, i => by simp [hide]
  | v :: vs, env, i => by
    show (hide vs (env.set v none))[i]? = _
    rw [hide_get vs (env.set v none) i, List.length_set]
    by_cases h1 : i ∈ vs ∧ i < env.length
    · rw [if_pos h1, if_pos ⟨List.mem_cons_of_mem _ h1.1, h1.2⟩]
    · rw [if_neg h1]
      by_cases h2 : i = v
      · subst h2
        by_cases h3 : i < env.length
        · rw [List.getElem?_set_self h3, if_pos ⟨List.mem_cons_self, h3⟩]
        · rw [if_neg (fun z => h3 z.2), List.getElem?_eq_none (by rw [List.length_set]; omega), List.getElem?_eq_none (by omega)]
      · rw [List.getElem?_set_ne (Ne.symm h2), if_neg]
        intro z
        rcases List.mem_cons.mp z.1 with q | q
        · exact h2 q
        · exact h1 ⟨q, z.2⟩
theorem back_get (env0 : Envt) : ∀ (vs : List Nat) (env : Envt) (i : Nat), env.length = env0.length → (back vs env0 env)[i]? = if i ∈ vs then env0[i]? else env[i]?
  | [], env, i, _ => by simp [back]
  | v :: vs, env, i, hl => by
    show (back vs env0 (env.set v ((env0[v]?).getD none)))[i]? = _
    rw [back_get env0 vs _ i (by rw [List.length_set]; exact hl)]
    by_cases h1 : i ∈ vs
    · rw [if_pos h1, if_pos (List.mem_cons_of_mem _ h1)]
    · rw [if_neg h1]
      by_cases h2 : i = v
      · subst h2
        rw [if_pos List.mem_cons_self]
        by_cases h3 : i < env.length
        · rw [List.getElem?_set_self h3, List.getElem?_eq_getElem (by omega : i < env0.length)]
          rfl
        · rw [List.getElem?_eq_none (by rw [List.length_set]; omega), List.getElem?_eq_none (by omega)]
      · rw [List.getElem?_set_ne (Ne.symm h2), if_neg]
        intro z
        rcases List.mem_cons.mp z with q | q
        · exact h2 q
        · exact h1 q
theorem back_len (env0 : Envt) : ∀ (vs : List Nat) (env : Envt), (back vs env0 env).length = env.length
  | [], _ => rfl
  | v :: vs, env => by
    show (back vs env0 (env.set v _)).length = _
    rw [back_len env0 vs, List.length_set]
section
variable {K : PySem.W.Frag} {G H G' H' : Hp} {σ : L2.St} {env : Envt} {ω : Own3}
open Classical in
theorem Rep.hide (r : Rep K G H σ env ω) (vs : List Nat) : Rep K G H (wipe σ vs) (VR.hide vs env) (fun b => match ω b with | some i => if i ∈ vs then none else some i | none => none) := by
  refine ⟨r.sub, fun i t hi => ?_, fun b i hb => ?_, by rw [hide_len, wipe_length]; exact r.len⟩
  · rw [hide_get] at hi
    split at hi
    · cases hi
    · rename_i hn
      have hlt : i < env.length := (List.getElem?_eq_some_iff.mp hi).1
      have hv : i ∉ vs := fun z => hn ⟨z, hlt⟩
      obtain ⟨v, h1, h2⟩ := r.own i t hi
      refine ⟨v, by rw [wipe_out hv]; exact h1, h2.congr fun b => ?_⟩
      cases q : ω b with
      | none => simp
      | some j =>
        by_cases hj : j ∈ vs
        · simp only [hj, if_true]
          refine ⟨fun z => (by cases z), fun z => ?_⟩
          cases z
          exact absurd hj hv
        · simp only [hj, if_false]
  · cases q : ω b with
    | none =>
      rw [q] at hb
      cases hb
    | some j =>
      rw [q] at hb
      by_cases hj : j ∈ vs
      · simp only [hj, if_true] at hb
        cases hb
      · simp only [hj, if_false] at hb
        cases hb
        obtain ⟨t, ht⟩ := r.emp b _ q
        exact ⟨t, by rw [hide_get, if_neg (fun z => hj z.1)]; exact ht⟩
abbrev hid (ω : Own3) (vs : List Nat) : Own3 := fun b => match ω b with | some i => if i ∈ vs then none else some i | none => none
theorem hid_dom {vs : List Nat} {b : Addr} (h : dom (hid ω vs) b) : dom ω b := by
  obtain ⟨i, hi⟩ := h
  cases q : ω b with
  | none =>
    simp only [hid, q] at hi
    cases hi
  | some j => exact ⟨j, q⟩
theorem hid_none {vs : List Nat} {b : Addr} {i : Nat} (h : ω b = some i) (hv : i ∈ vs) : hid ω vs b = none := by
  simp only [hid, h, hv, if_true]
open Classical in
/-- the forgotten slots brought back, over a step that did not touch them -/
theorem Rep.back {vs : List Nat} {env2 : Envt} {ω2 : Own3} (r : Rep K G H σ env ω) (st : Step G H (dom (hid ω vs)) G' H') (r2 : Rep K G' H' (wipe σ vs) env2 ω2) (n2 : New H (dom (hid ω vs)) (dom ω2)) (hh : ∀ i ∈ vs, env2[i]? = (VR.hide vs env)[i]?) :
    ∃ ω3, Rep K G' H' σ (VR.back vs env env2) ω3 ∧ ∀ b, dom ω3 b ↔ dom ω2 b ∨ ∃ i ∈ vs, ω b = some i := by
  have le : env2.length = env.length := by
    rw [r2.len, wipe_length, r.len]
  have apart : ∀ b i, ω b = some i → i ∈ vs → ω2 b = none := fun b i hb hv => by
    cases q : ω2 b with
    | none => rfl
    | some j =>
      rcases n2 b ⟨j, q⟩ with ⟨k, z⟩ | z
      · rw [hid_none hb hv] at z
        cases z
      · obtain ⟨⟨o, ho⟩, _⟩ := r.there (b := b) ⟨i, hb⟩
        rw [z] at ho
        cases ho
  refine ⟨fun b => if (∃ i ∈ vs, ω b = some i) then ω b else ω2 b, ⟨r2.sub, fun i t hi => ?_, fun b i hb => ?_, by rw [back_len, le, r.len]⟩, fun b => ⟨fun ⟨j, hj⟩ => ?_, fun h => ?_⟩⟩
  · rw [back_get _ _ _ _ le] at hi
    by_cases hv : i ∈ vs
    · rw [if_pos hv] at hi
      obtain ⟨v, h1, h2⟩ := r.own i t hi
      refine ⟨v, h1, (h2.step st.ext fun b hb => ?_).congr fun b => ?_⟩
      · obtain ⟨⟨o, ho⟩, hg⟩ := h2.there b hb
        obtain ⟨z1, z2⟩ := st.frm b o (fun ⟨k, z⟩ => by rw [hid_none hb hv] at z; cases z) ho
        exact ⟨z1.trans ho.symm, z2 hg⟩
      · show (if (∃ i ∈ vs, ω b = some i) then ω b else ω2 b) = some i ↔ ω b = some i
        by_cases hx : ∃ i ∈ vs, ω b = some i
        · rw [if_pos hx]
        · rw [if_neg hx]
          refine ⟨fun z => ?_, fun z => absurd ⟨i, hv, z⟩ hx⟩
          obtain ⟨t', ht'⟩ := r2.emp b i z
          rw [hh i hv, hide_get] at ht'
          have hlt : i < env.length := (List.getElem?_eq_some_iff.mp hi).1
          rw [if_pos ⟨hv, hlt⟩] at ht'
          cases ht'
    · rw [if_neg hv] at hi
      obtain ⟨v, h1, h2⟩ := r2.own i t hi
      refine ⟨v, by rw [← wipe_out hv]; exact h1, h2.congr fun b => ?_⟩
      show (if (∃ i ∈ vs, ω b = some i) then ω b else ω2 b) = some i ↔ ω2 b = some i
      by_cases hx : ∃ i ∈ vs, ω b = some i
      · obtain ⟨j, hj, e⟩ := hx
        rw [if_pos ⟨j, hj, e⟩, e, apart b j e hj]
        refine ⟨fun z => ?_, fun z => by cases z⟩
        cases z
        exact absurd hj hv
      · rw [if_neg hx]
  · have hb' : (if (∃ i ∈ vs, ω b = some i) then ω b else ω2 b) = some i := hb
    rw [back_get _ _ _ _ le]
    by_cases hx : ∃ i ∈ vs, ω b = some i
    · rw [if_pos hx] at hb'
      obtain ⟨j, hj, e⟩ := hx
      rw [e] at hb'
      cases hb'
      rw [if_pos hj]
      exact r.emp b _ e
    · rw [if_neg hx] at hb'
      obtain ⟨t, ht⟩ := r2.emp b i hb'
      by_cases hv : i ∈ vs
      · rw [hh i hv, hide_get] at ht
        split at ht
        · cases ht
        · rename_i hn
          have hlt : i < env.length := (List.getElem?_eq_some_iff.mp ht).1
          exact absurd ⟨hv, hlt⟩ hn
      · rw [if_neg hv]
        exact ⟨t, ht⟩
  · have hj' : (if (∃ i ∈ vs, ω b = some i) then ω b else ω2 b) = some j := hj
    by_cases hx : ∃ i ∈ vs, ω b = some i
    · exact .inr hx
    · rw [if_neg hx] at hj'
      exact .inl ⟨j, hj'⟩
  · by_cases hx : ∃ i ∈ vs, ω b = some i
    · obtain ⟨j, hj, e⟩ := hx
      exact ⟨j, by show (if (∃ i ∈ vs, ω b = some i) then ω b else ω2 b) = some j; rw [if_pos ⟨j, hj, e⟩]; exact e⟩
    · rcases h with ⟨j, hj⟩ | h
      · exact ⟨j, by show (if (∃ i ∈ vs, ω b = some i) then ω b else ω2 b) = some j; rw [if_neg hx]; exact hj⟩
      · exact absurd h hx
end
/-! ### the loop -/
def R.nox {α β : Type} (r : R α) (f : α → Envt → R β) : R β := match r with
  | .ok a env => f a env
  | _ => .fail
def evCompL (src : Src) (t : Tg) (vs : List Nat) (tc : Envt → R Bool) (ev : Ev) : List PyData → List T → Envt → R (List T)
  | [], acc, env => if src.stillB env then .ok acc env else .fail
  | d :: ds, acc, env => if src.stillB env then (match setTg t d env with
    | some env1 => (tc env1).nox fun c env2 => if c = true then (ev env2).nox fun y env3 => if acc.length < sizeLine then evCompL src t vs tc ev ds (acc ++ [y]) (hide vs env3) else .fail
        else evCompL src t vs tc ev ds acc (hide vs env2)
    | none => .fail) else .fail
/-- a source's slot is none of these -/
def Src.apart (vs : List Nat) : Src → Bool
  | .fix _ => true
  | .slot i _ _ => decide (i ∉ vs)
def evComp (si : Envt → R Src) (t : Tg) (vs : List Nat) (tc : Envt → R Bool) (ev : Ev) : Ev := fun env => (si env).bind fun src env1 =>
  if src.apart vs then (evCompL src t vs tc ev src.items [] (hide vs env1)).nox fun ts env2 => .ok (.node .lst ts) (back vs env1 env2) else .fail
abbrev Bk := Shared × Hp × Addr × List (Str × Addr) × List Addr
abbrev blkOf (X : Cx) (scope : Scope) (k : Bk) : Cx := X.blk k.1 k.2.1 scope (compEnvC scope k.2.2.2.1 k.2.2.1 X.env) k.2.2.2.2
abbrev Wf : WX := fun _ _ _ _ => False
theorem hide_same {vs : List Nat} {env env' : Envt} (h : env'.length = env.length) : ∀ i ∈ vs, (hide vs env')[i]? = (hide vs env)[i]? := fun i hi => by
  rw [hide_get, hide_get, h]
  by_cases hl : i < env.length
  · rw [if_pos ⟨hi, hl⟩, if_pos ⟨hi, hl⟩]
  · rw [if_neg (fun z => hl z.2), if_neg (fun z => hl z.2), List.getElem?_eq_none (by omega), List.getElem?_eq_none (by omega)]
/-- one more tree in the row -/
theorem OwnL.snoc {K : PySem.W.Frag} {G H : Hp} {vs : List V} {ts : List T} {τ : Own3} {v : V} {t : T} {S : Addr → Prop} (l : OwnL K G H vs ts τ) (o : Own K G H v t S) (d : ∀ b, S b → τ b = none) : ∃ τ' : Own3, OwnL K G H (vs ++ [v]) (ts ++ [t]) τ' ∧ ∀ b, dom τ' b ↔ dom τ b ∨ S b := by
  classical
  refine ⟨fun b => if S b then some ts.length else τ b, ⟨by simp [l.len], fun i v' t' h1 h2 => ?_, fun b i h => ?_⟩, fun b => ⟨fun ⟨i, hi⟩ => ?_, fun h => ?_⟩⟩
  · by_cases hi : i < ts.length
    · rw [List.getElem?_append_left (by rw [l.len]; exact hi)] at h1
      rw [List.getElem?_append_left hi] at h2
      refine (l.own i v' t' h1 h2).congr fun b => ?_
      show (if S b then some ts.length else τ b) = some i ↔ τ b = some i
      by_cases hs : S b
      · rw [if_pos hs, d b hs]
        refine ⟨fun z => ?_, fun z => by cases z⟩
        have := Option.some.inj z
        omega
      · rw [if_neg hs]
    · have he : i = ts.length := by
        have := (List.getElem?_eq_some_iff.mp h2).1
        rw [List.length_append, List.length_singleton] at this
        omega
      subst he
      rw [List.getElem?_append_right (by rw [l.len]; exact Nat.le_refl _), l.len, Nat.sub_self] at h1
      rw [List.getElem?_append_right (Nat.le_refl _), Nat.sub_self] at h2
      simp at h1 h2
      subst h1
      subst h2
      refine o.congr fun b => ?_
      show (if S b then some ts.length else τ b) = some ts.length ↔ S b
      by_cases hs : S b
      · rw [if_pos hs]
        exact ⟨fun _ => hs, fun _ => rfl⟩
      · rw [if_neg hs]
        refine ⟨fun z => ?_, fun z => absurd z hs⟩
        have := l.lim b _ z
        omega
  · have h' : (if S b then some ts.length else τ b) = some i := h
    rw [List.length_append, List.length_singleton]
    by_cases hs : S b
    · rw [if_pos hs] at h'
      cases h'
      omega
    · rw [if_neg hs] at h'
      have := l.lim b i h'
      omega
  · have h' : (if S b then some ts.length else τ b) = some i := hi
    by_cases hs : S b
    · exact .inr hs
    · rw [if_neg hs] at h'
      exact .inl ⟨i, h'⟩
  · by_cases hs : S b
    · exact ⟨ts.length, if_pos hs⟩
    · rcases h with ⟨i, h⟩ | h
      · exact ⟨i, by show (if S b then some ts.length else τ b) = some i; rw [if_neg hs]; exact h⟩
      · exact absurd h hs
section
variable {X : Cx} {W : WX} {p pt pe : Bool} {elt tg iter : Expr} {ifs : List Expr} {scope : Scope} {own : List (Str × Nat)} {pos : Pos} {si : Envt → R Src} {t : Tg} {tc : Envt → R Bool} {ev : Ev}
/-- a clause's tests -/
def DTs (X : Cx) (W : WX) (p : Bool) (ifs : List Expr) (tc : Envt → R Bool) : Prop := ∃ u : TT, PTs X ifs u ∧ ∀ G H σ env ω Q, Rep X.K G H σ env ω → GoodT X W p G H σ ω Q (tc env) → u σ H Q
theorem dts_nil : DTs X W true [] (fun env => .ok true env) := ⟨_, pts_nil, fun G H σ env ω Q r g => g G H ω .refl r .refl fun _ _ _ z => z⟩
theorem dts_one {c : Expr} (h : DT X W p c tc) : DTs X W p [c] tc := by
  obtain ⟨u, h1, h2⟩ := h
  exact ⟨u, pts_one h1, h2⟩
/-- the block's reading, whatever the block's own things are -/
theorem comp_read (vs : List Nat) (hsl : ∀ i ∈ t.slots, i ∈ vs) {g0 : TG} {tt : TT} {te : TE}
    (hg : ∀ G H σ env ω v d (Q : L2.St → Hp → Prop) env1, Rep X.K G H σ env ω → Dq X.K G v d → setTg t d env = some env1 → (∀ σ1 ω1, Rep X.K G H σ1 env1 ω1 → (∀ b, dom ω1 b → dom ω b) → Out t.slots σ σ1 → Q σ1 H) → g0 v σ H Q)
    (ht : ∀ G H σ env ω (Q : Bool → Hp → Prop), Rep X.K G H σ env ω → GoodT X Wf pt G H σ ω Q (tc env) → tt σ H Q)
    (he : ∀ G H σ env ω (Q : VK), Rep X.K G H σ env ω → GoodE X Wf pe G H σ ω Q (ev env) → te σ H Q)
    {wi : TI} (hi : ∀ G H σ env ω (Q : It → Hp → Prop), Rep X.K G H σ env ω → GoodI X W p G H σ ω Q (si env) → wi σ H Q)
    {G H : Hp} {σ : L2.St} {env : Envt} {ω : Own3} {Q : VK} (r : Rep X.K G H σ env ω) (g : GoodE X W (p && (pt && pe)) G H σ ω Q (evComp si t vs tc ev env)) : tLc wi g0 tt te vs σ H Q := by
  refine hi G H σ env ω _ r ?_
  unfold evComp at g
  cases q : si env with
  | exc c env' =>
    rw [q] at g
    exact g
  | fail =>
    rw [q] at g
    exact g
  | ok src env1 =>
    rw [q] at g
    intro J G1 H1 ω1 s1 r1 sa n1 k1 D hD
    simp only [R.bind] at g
    split at g
    · rename_i hap
      cases q0 : evCompL src t vs tc ev src.items [] (hide vs env1) with
      | exc c env' =>
        rw [q0] at g
        exact g.elim
      | fail =>
        rw [q0] at g
        exact g.elim
      | ok tsF envF =>
        rw [q0] at g
        simp only [R.nox] at g
        have rB := r1.hide vs
        have hgD := same_free r1.sub hD
        have kD : Same H1 (upd H1 D (.lst [])) := fun b o e => by rw [upd_ne (ne_of_none e hD)]; exact e
        refine ⟨fun i m H' => m = src.items.length - i ∧ i ≤ src.items.length ∧ ∃ G' env' ω' τ vs' ts, Step G1 H1 (dom (hid ω1 vs)) G' H' ∧ Rep X.K G' H' (wipe σ vs) env' ω' ∧ OwnL X.K G' H' vs' ts τ ∧ H' D = some (.lst vs') ∧ G' D = none ∧ τ D = none ∧ ω' D = none ∧
          (∀ b, dom τ b → ω' b = none) ∧ New H1 (dom (hid ω1 vs)) (fun b => dom ω' b ∨ dom τ b) ∧ ((pt && pe) = true → Same H1 H') ∧ (∀ i ∈ vs, env'[i]? = (hide vs env1)[i]?) ∧ evCompL src t vs tc ev (src.items.drop i) ts env' = .ok tsF envF, ?_, fun i m H' w => ?_⟩
        · refine ⟨_, rfl, Nat.zero_le _, G1, hide vs env1, hid ω1 vs, fun _ => none, [], [], ⟨fun _ _ z => z, fun b o _ e => ⟨kD b o e, fun z => z⟩⟩, ?_, .nil, upd_same, hgD, rfl, ?_, fun b ⟨_, z⟩ => (by cases z), fun b hb => .inl (hb.elim id fun ⟨_, z⟩ => (by cases z)), fun _ => kD, fun _ _ => rfl, by rw [List.drop_zero]; exact q0⟩
          · exact rB.step (fun _ _ z => z) (fun b o e => kD b o (r1.sub b o e)) fun b hb => by
              obtain ⟨⟨o, ho⟩, hg⟩ := rB.there hb
              exact ⟨upd_ne (ne_of_none ho hD), hg⟩
          · exact rB.fresh hD
        · obtain ⟨hm, hi, G', env', ω', τ, vs', ts, s', r', l', hd', gd', td', od', dj', n', k', hv', e'⟩ := w
          have so : src.stillB env' = true → SrcOk X.K G' H' J src.items := fun still => by
            cases src with
            | fix ds => exact sa G' H' s'.ext r'.sub
            | slot j b ds =>
              refine sa G' H' (wipe σ vs) env' ω' r' (wipe_out ?_) (slotB_ok still)
              simpa [Src.apart] using hap
          by_cases hlt : i < src.items.length
          · have hd := List.drop_eq_getElem_cons hlt
            rw [hd, evCompL] at e'
            split at e'
            · rename_i still
              obtain ⟨go, yl⟩ := (so still).1 i src.items[i] (List.getElem?_eq_getElem hlt)
              refine .inr ⟨go, fun H2 => ∃ G2 env2 ω2 τ2 vs2 ts2, Step G1 H1 (dom (hid ω1 vs)) G2 H2 ∧ Rep X.K G2 H2 (wipe σ vs) env2 ω2 ∧ OwnL X.K G2 H2 vs2 ts2 τ2 ∧ H2 D = some (.lst vs2) ∧ G2 D = none ∧ τ2 D = none ∧ ω2 D = none ∧
                (∀ b, dom τ2 b → ω2 b = none) ∧ New H1 (dom (hid ω1 vs)) (fun b => dom ω2 b ∨ dom τ2 b) ∧ ((pt && pe) = true → Same H1 H2) ∧ (∀ i ∈ vs, env2[i]? = (hide vs env1)[i]?) ∧ evCompL src t vs tc ev (src.items.drop (i + 1)) ts2 env2 = .ok tsF envF, fun H2 w2 => ?_, fun x H2 y => ?_⟩
              · obtain ⟨G2, env2, ω2, τ2, vs2, ts2, z⟩ := w2
                exact ⟨_, by omega, rfl, hlt, G2, env2, ω2, τ2, vs2, ts2, z⟩
              · obtain ⟨G2, nt⟩ := yl x H2 y
                obtain ⟨S1, o1, _, _⟩ := nt.own r'
                have dq : Dq X.K G2 x src.items[i] := by
                  cases o1 with
                  | dat h _ => exact h
                split at e'
                · rename_i env2 he2
                  refine hg G2 H2 (wipe σ vs) env' ω' x _ _ env2 (nt.rep r') dq he2 fun σ2 ω2 r2 sub2 out2 => ?_
                  have hw : wipe σ2 vs = wipe σ vs := by
                    have o2 : Out vs (wipe σ vs) σ2 := ⟨out2.1, fun j hj => out2.2 j fun z => hj (hsl j z)⟩
                    rw [o2.wipe]
                    exact Out.wipe ⟨wipe_length _ _, fun j hj => wipe_out hj⟩
                  refine ⟨hw, ?_⟩
                  -- where we stand now, from the start
                  have s2 : Step G1 H1 (dom (hid ω1 vs)) G2 H2 := s'.trans nt.step (fun b hb => n' b (.inl hb))
                  have l2 : OwnL X.K G2 H2 vs' ts τ := l'.step nt.g fun b hb => by
                    obtain ⟨⟨o, ho⟩, hgb⟩ := l'.there hb
                    exact ⟨(nt.h b o ho).trans ho.symm, nt.f b o ho hgb⟩
                  have hd2 := nt.h D _ hd'
                  have gd2 := nt.f D _ hd' gd'
                  refine ht G2 H2 σ2 env2 ω2 _ r2 ?_
                  cases q2 : tc env2 with
                  | exc c e3 =>
                    rw [q2] at e'
                    simp [R.nox] at e'
                  | fail =>
                    rw [q2] at e'
                    simp [R.nox] at e'
                  | ok c env3 =>
                    rw [q2] at e'
                    intro G3 H3 ω3 s3 r3 n3 k3
                    simp only [R.nox] at e'
                    -- the row and the new list are not touched by the test
                    have row : ∀ {G4 H4 : Hp} {N : Addr → Prop}, Step G2 H2 (dom ω2) G4 H4 → New H2 (dom ω2) N → OwnL X.K G4 H4 vs' ts τ ∧ H4 D = some (.lst vs') ∧ G4 D = none ∧ (∀ b, dom τ b → ¬ N b) ∧ ¬ N D := by
                      intro G4 H4 N s4 n4
                      have nd : ∀ b, dom τ b → ¬ dom ω2 b := fun b hb hw => by
                        obtain ⟨j, hj⟩ := sub2 b hw
                        rw [dj' b hb] at hj
                        cases hj
                      have ndD : ¬ dom ω2 D := fun hw => by
                        obtain ⟨j, hj⟩ := sub2 D hw
                        rw [od'] at hj
                        cases hj
                      refine ⟨l2.step s4.ext fun b hb => ?_, (s4.frm D _ ndD hd2).1, (s4.frm D _ ndD hd2).2 gd2, fun b hb hn => ?_, fun hn => ?_⟩
                      · obtain ⟨⟨o, ho⟩, hgb⟩ := l2.there hb
                        obtain ⟨z1, z2⟩ := s4.frm b o (nd b hb) ho
                        exact ⟨z1.trans ho.symm, z2 hgb⟩
                      · rcases n4 b hn with z | z
                        · exact nd b hb z
                        · obtain ⟨⟨o, ho⟩, _⟩ := l2.there hb
                          rw [z] at ho
                          cases ho
                      · rcases n4 D hn with z | z
                        · exact ndD z
                        · rw [hd2] at z
                          cases z
                    have s23 : Step G1 H1 (dom (hid ω1 vs)) G3 H3 := s2.trans s3 (fun b hb => n' b (.inl (sub2 b hb)))
                    have n23 : New H1 (dom (hid ω1 vs)) (dom ω3) := New.trans s2 (fun b hb => n' b (.inl (sub2 b hb))) n3
                    have k23 : (pt && pe) = true → Same H1 H3 := fun z b o h => k3 (by rw [Bool.and_eq_true] at z; exact z.1) b o (nt.h b o (k' z b o h))
                    cases c with
                    | false =>
                      rw [if_neg Bool.false_ne_true] at e' ⊢
                      obtain ⟨l3, hd3, gd3, ap, apD⟩ := row s3 n3
                      have rh := r3.hide vs
                      rw [hw] at rh
                      refine ⟨G3, hide vs env3, hid ω3 vs, τ, vs', ts, s23, rh, l3, hd3, gd3, td', ?_, fun b hb => ?_, fun b hb => ?_, k23, ?_, e'⟩
                      · cases z : hid ω3 vs D with
                        | none => rfl
                        | some j => exact absurd (hid_dom ⟨j, z⟩) apD
                      · cases z : hid ω3 vs b with
                        | none => rfl
                        | some j => exact absurd (hid_dom ⟨j, z⟩) (ap b hb)
                      · rcases hb with hb | hb
                        · exact n23 b (hid_dom hb)
                        · exact n' b (.inr hb)
                      · refine hide_same ?_
                        have e1 := r3.len
                        have e2 := r1.len
                        have e3 := out2.1
                        rw [wipe_length] at e3
                        omega
                    | true =>
                      rw [if_pos rfl] at e' ⊢
                      refine he G3 H3 σ2 env3 ω3 _ r3 ?_
                      cases q3 : ev env3 with
                      | exc c e4 =>
                        rw [q3] at e'
                        cases e'
                      | fail =>
                        rw [q3] at e'
                        cases e'
                      | ok y env4 =>
                        rw [q3] at e'
                        intro v G4 H4 ω4 S s4 r4 o4 d4 n4 k4
                        simp only at e'
                        split at e'
                        · rename_i hz
                          have s24 : Step G2 H2 (dom ω2) G4 H4 := s3.trans s4 n3
                          have n24 : New H2 (dom ω2) (fun b => dom ω4 b ∨ S b) := New.trans s3 n3 n4
                          obtain ⟨l4, hd4, gd4, ap, apD⟩ := row s24 n24
                          obtain ⟨τ5, l5, dm5⟩ := l4.snoc o4 fun b hb => by
                            cases z : τ b with
                            | none => rfl
                            | some j => exact absurd (.inr hb) (ap b ⟨j, z⟩)
                          refine ⟨vs', hd4, by rw [l'.len]; exact hz, ?_⟩
                          have s14 : Step G1 H1 (dom (hid ω1 vs)) G4 H4 := s23.trans s4 n23
                          have neD : ∀ b o, H1 b = some o → b ≠ D := fun b o h => ne_of_none h hD
                          have subU : Same G4 (upd H4 D (.lst (vs' ++ [v]))) := fun b o e => by
                            rw [upd_ne (ne_of_none e gd4)]
                            exact r4.sub b o e
                          have rh := (r4.step (G' := G4) (H' := upd H4 D (.lst (vs' ++ [v]))) (fun _ _ z => z) subU fun b hb => ⟨upd_ne (fun z => apD (.inl (z ▸ hb))), (r4.there hb).2⟩).hide vs
                          rw [hw] at rh
                          refine ⟨G4, hide vs env4, hid ω4 vs, τ5, vs' ++ [v], ts ++ [y], ⟨s14.ext, fun b o hn e => ?_⟩, rh, l5.step (fun _ _ z => z) fun b hb => ?_, upd_same, gd4, ?_, ?_, fun b hb => ?_, fun b hb => ?_, fun z b o h => ?_, ?_, e'⟩
                          · obtain ⟨z1, z2⟩ := s14.frm b o hn e
                            exact ⟨by rw [upd_ne (neD b o e)]; exact z1, z2⟩
                          · refine ⟨upd_ne fun z => ?_, (l5.there hb).2⟩
                            subst z
                            rcases (dm5 b).mp hb with w | w
                            · obtain ⟨j, hj⟩ := w
                              rw [td'] at hj
                              cases hj
                            · exact apD (.inr w)
                          · cases z : τ5 D with
                            | none => rfl
                            | some j =>
                              rcases (dm5 D).mp ⟨j, z⟩ with w | w
                              · obtain ⟨j, hj⟩ := w
                                rw [td'] at hj
                                cases hj
                              · exact absurd (.inr w) apD
                          · cases z : hid ω4 vs D with
                            | none => rfl
                            | some j => exact absurd (.inl (hid_dom ⟨j, z⟩)) apD
                          · cases z : hid ω4 vs b with
                            | none => rfl
                            | some j =>
                              rcases (dm5 b).mp hb with w | w
                              · exact absurd (.inl (hid_dom ⟨j, z⟩)) (ap b w)
                              · obtain ⟨k, hk⟩ := hid_dom ⟨j, z⟩
                                rw [d4 b w] at hk
                                cases hk
                          · rcases hb with hb | hb
                            · exact New.trans s23 n23 n4 b (.inl (hid_dom hb))
                            · rcases (dm5 b).mp hb with w | w
                              · exact n' b (.inr w)
                              · exact New.trans s23 n23 n4 b (.inr w)
                          · rw [upd_ne (neD b o h)]
                            exact k4 (by rw [Bool.and_eq_true] at z; exact z.2) b o (k23 z b o h)
                          · refine hide_same ?_
                            have e1 := r4.len
                            have e2 := r1.len
                            have e3 := out2.1
                            rw [wipe_length] at e3
                            omega
                        · cases e'
                · cases e'
            · cases e'
          · have hei : i = src.items.length := by omega
            rw [hei, List.drop_length, evCompL] at e'
            split at e'
            · rename_i still
              cases e'
              refine .inl ⟨(so still).2 i (by omega), ?_⟩
              obtain ⟨ω3, r3, dm3⟩ := Rep.back r1 s' r' (fun b hb => n' b (.inl hb)) hv'
              have s1' : Step G H (dom ω) G' H' := s1.trans (s'.mono fun b hb => hid_dom hb) n1
              have noD : ∀ b, (∃ i ∈ vs, ω1 b = some i) → ω' b = none ∧ τ b = none ∧ b ≠ D := fun b ⟨j, hj, e⟩ => by
                obtain ⟨⟨o, ho⟩, _⟩ := r1.there (b := b) ⟨j, e⟩
                have nh : ¬ dom (hid ω1 vs) b := fun ⟨k, z⟩ => by
                  rw [hid_none e hj] at z
                  cases z
                refine ⟨?_, ?_, ne_of_none ho hD⟩
                · cases z : ω' b with
                  | none => rfl
                  | some k =>
                    rcases n' b (.inl ⟨k, z⟩) with w | w
                    · exact absurd w nh
                    · rw [ho] at w
                      cases w
                · cases z : τ b with
                  | none => rfl
                  | some k =>
                    rcases n' b (.inr ⟨k, z⟩) with w | w
                    · exact absurd w nh
                    · rw [ho] at w
                      cases w
              refine g (.ref D) G' H' ω3 (fun b => b = D ∨ dom τ b) s1' r3 ?_ (fun b hb => ?_) (fun b hb => ?_) (fun z b o h => ?_)
              · refine .node (vs := vs') (A := fun b => b = D) (ω := τ) ⟨hd', fun b => Iff.rfl⟩ (fun b e => by rw [e]; exact gd') l'.len (fun i v t h1 h2 => l'.own i v t h1 h2) (fun b e => by rw [e]; exact td') (fun b => or_congr Iff.rfl ⟨fun ⟨i, hi⟩ => ⟨i, l'.lim b i hi, hi⟩, fun ⟨i, _, hi⟩ => ⟨i, hi⟩⟩)
              · cases z : ω3 b with
                | none => rfl
                | some k =>
                  rcases (dm3 b).mp ⟨k, z⟩ with w | w
                  · obtain ⟨j, hj⟩ := w
                    rcases hb with rfl | hb
                    · rw [od'] at hj
                      cases hj
                    · rw [dj' b hb] at hj
                      cases hj
                  · obtain ⟨w1, w2, w3⟩ := noD b w
                    rcases hb with rfl | ⟨j, hb⟩
                    · exact absurd rfl w3
                    · rw [w2] at hb
                      cases hb
              · have nn : New H1 (dom ω1) (fun b => dom ω' b ∨ dom τ b) := fun b hb => (n' b hb).imp hid_dom id
                rcases hb with hb | rfl | hb
                · rcases (dm3 b).mp hb with w | ⟨j, hj, w⟩
                  · exact New.trans s1 n1 nn b (.inl w)
                  · exact n1 b ⟨j, w⟩
                · exact New.trans s1 n1 (S2 := fun c => c = b) (fun c hc => .inr (by rw [hc]; exact hD)) b rfl
                · exact New.trans s1 n1 nn b (.inr hb)
              · rw [Bool.and_eq_true] at z
                exact k' z.2 b o (k1 z.1 b o h)
            · cases e'
    · exact g.elim
end
end VR

/-! VR11: comprehensions as expressions and stored; calls of the program's own defs. -/
namespace VR
open PySem PySem.Spec PyProof.Rows L2
section
variable {X : Cx} {W : WX} {nk : Nat} {p pt pe : Bool} {elt tg iter : Expr} {ifs : List Expr} {scope : Scope} {own : List (Str × Nat)} {pos spos : Pos} {si : Envt → R Src} {t : Tg} {tc : Envt → R Bool} {ev : Ev}
def gAll (X : Cx) (scope : Scope) (tg : Expr) : TG := fun v σ H Q => ∀ k : Bk, ∃ g, PG (blkOf X scope k) tg g ∧ g v σ H Q
def tAll (X : Cx) (scope : Scope) (ifs : List Expr) : TT := fun σ H Q => ∀ k : Bk, ∃ u, PTs (blkOf X scope k) ifs u ∧ u σ H Q
def eAll (X : Cx) (scope : Scope) (elt : Expr) : TE := fun σ H Q => ∀ k : Bk, ∃ u, PE (blkOf X scope k) elt u ∧ u σ H Q
theorem pg_all (k : Bk) : PG (blkOf X scope k) tg (gAll X scope tg) := ⟨fun pins s σ H v u Q I r h => by
  obtain ⟨g, h1, h2⟩ := h k
  exact h1.run pins s σ H v u Q I r h2⟩
theorem pt_all (k : Bk) : PTs (blkOf X scope k) ifs (tAll X scope ifs) := ⟨fun pins s σ H Q I h => by
  obtain ⟨g, h1, h2⟩ := h k
  exact h1.run pins s σ H Q I h2⟩
theorem pe_all (k : Bk) : PE (blkOf X scope k) elt (eAll X scope elt) := ⟨fun pins s σ H Q I h => by
  obtain ⟨g, h1, h2⟩ := h k
  exact h1.run pins s σ H Q I h2⟩
theorem comp_read2 (hsl : ∀ i ∈ t.slots, i ∈ own.map (·.2)) (hg : ∀ k : Bk, DG (blkOf X scope k) tg t) (ht : ∀ k : Bk, DTs (blkOf X scope k) Wf pt ifs tc) (he : ∀ k : Bk, DE (blkOf X scope k) Wf pe elt ev)
    {wi : TI} (hi : ∀ G H σ env ω (Q : It → Hp → Prop), Rep X.K G H σ env ω → GoodI X W p G H σ ω Q (si env) → wi σ H Q)
    {G H : Hp} {σ : L2.St} {env : Envt} {ω : Own3} {Q : VK} (r : Rep X.K G H σ env ω) (g : GoodE X W (p && (pt && pe)) G H σ ω Q (evComp si t (own.map (·.2)) tc ev env)) : tLc wi (gAll X scope tg) (tAll X scope ifs) (eAll X scope elt) (own.map (·.2)) σ H Q := by
  refine comp_read (g0 := gAll X scope tg) (tt := tAll X scope ifs) (te := eAll X scope elt) (own.map (·.2)) hsl (fun G H σ env ω v d Q env1 r hd hs k z => ?_) (fun G H σ env ω Q r g z => ?_) (fun G H σ env ω Q r g z => ?_) hi r g
  · obtain ⟨u, h1, h2⟩ := hg z
    exact ⟨u, h1, h2 G H σ env ω v d Q env1 r hd hs k⟩
  · obtain ⟨u, h1, h2⟩ := ht z
    exact ⟨u, h1, h2 G H σ env ω Q r g⟩
  · obtain ⟨u, h1, h2⟩ := he z
    exact ⟨u, h1, h2 G H σ env ω Q r g⟩
theorem de_comp (hc : X.calm = true) (hN : X.N.Nodup) (hi : DI X W p tg iter si) (ok : BlkOk X.N X.env.scope scope own) (hsl : ∀ i ∈ t.slots, i ∈ own.map (·.2)) (hg : ∀ k : Bk, DG (blkOf X scope k) tg t) (ht : ∀ k : Bk, DTs (blkOf X scope k) Wf pt ifs tc) (he : ∀ k : Bk, DE (blkOf X scope k) Wf pe elt ev)
    (hs : ∀ x, foldedSetIterable iter X.env x = pure x) : DE X W (p && (pt && pe)) (.ListComp elt [⟨tg, iter, ifs, 0⟩] scope pos) (evComp si t (own.map (·.2)) tc ev) := by
  obtain ⟨wi, i1, i2⟩ := hi
  exact ⟨_, pe_lc hc hN i1 ok (fun s H C cl fp => pg_all (s, H, C, cl, fp)) (fun s H C cl fp => pt_all (s, H, C, cl, fp)) (fun s H C cl fp => pe_all (s, H, C, cl, fp)) hs, fun G H σ env ω Q r g => comp_read2 hsl hg ht he i2 r g⟩
/-- y = [..] on one line, y a local -/
theorem ds_setLc {i : Nat} {y : Str} {py : Pos} (hc : X.calm = true) (hN : X.N.Nodup) (hy : X.N[i]? = some y) (hyl : X.env.scope.names.lookup y = some .local) (hsw : swapsWith (.ListComp elt [⟨tg, iter, ifs, 0⟩] scope pos) (some (.Name y py)) spos.line X.env = pure true)
    (hi : DI X W p tg iter si) (ok : BlkOk X.N X.env.scope scope own) (hsl : ∀ i ∈ t.slots, i ∈ own.map (·.2)) (hg : ∀ k : Bk, DG (blkOf X scope k) tg t) (ht : ∀ k : Bk, DTs (blkOf X scope k) Wf pt ifs tc) (he : ∀ k : Bk, DE (blkOf X scope k) Wf pe elt ev)
    (hs : ∀ x, foldedSetIterable iter X.env x = pure x) (hk : nk ≤ i) : DS X W nk (.Assign [.Name y py] (.ListComp elt [⟨tg, iter, ifs, 0⟩] scope pos) spos) (evSet i (evComp si t (own.map (·.2)) tc ev)) := by
  obtain ⟨wi, i1, i2⟩ := hi
  refine ⟨_, ps_setLc hc hN hy hyl hsw i1 ok (fun s H C cl fp => pg_all (s, H, C, cl, fp)) (fun s H C cl fp => pt_all (s, H, C, cl, fp)) (fun s H C cl fp => pe_all (s, H, C, cl, fp)) hs, fun G H σ env ω D r g => comp_read2 hsl hg ht he i2 r ?_⟩
  unfold evSet at g
  cases q : evComp si t (own.map (·.2)) tc ev env with
  | ok t' env' =>
    rw [q] at g
    intro v G1 H1 ω1 S s1 r1 o1 d1 n1 _
    simp only [R.st] at g
    split at g
    · rename_i hi
      obtain ⟨ω2, r2, s2⟩ := r1.put hi o1 d1
      exact g _ G1 H1 ω2 s1 r2 (fun b hb => n1 b ((s2 b hb).elim .inr .inl)) (.set hk)
    · exact g.elim
  | exc c env' =>
    rw [q] at g
    exact goodX_S g
  | fail =>
    rw [q] at g
    exact g
end
/-! ### calls of own defs -/
inductive FR where
  | ok (t : T) (ts : List T)
  | exc (c : Str) (ts : List T)
  | fail
def GoodF (K : PySem.W.Frag) (G H : Hp) (vs : List V) (τ : Own3) (Q : VK) (E : XK) : FR → Prop
  | .ok t ts' => ∀ v G' H' τ' S, Step G H (dom τ) G' H' → Same G' H' → OwnL K G' H' vs ts' τ' → Own K G' H' v t S → (∀ b, S b → τ' b = none) → New H (dom τ) (fun b => dom τ' b ∨ S b) → Q v H'
  | .exc c ts' => ∀ G' H' τ', Step G H (dom τ) G' H' → Same G' H' → OwnL K G' H' vs ts' τ' → New H (dom τ) (dom τ') → E (.ref (He.ga K c)) none H'
  | .fail => False
/-- a def's promise: what its function tells -/
def spEv (K : PySem.W.Frag) (F : List T → FR) : Sp := fun vs H Q E => ∃ (G : Hp) (ts : List T) (τ : Own3), Same G H ∧ OwnL K G H vs ts τ ∧ GoodF K G H vs τ Q E (F ts)
inductive Ar where
  | lend (i : Nat)
  | tmp (t : T)
def lends : List Ar → List Nat
  | [] => []
  | .lend i :: l => i :: lends l
  | .tmp _ :: l => lends l
def lendT (env : Envt) : List Ar → Option (List T)
  | [] => some []
  | a :: l => (match a with
    | .lend i => (match env[i]? with
      | some (some t) => some t
      | _ => none)
    | .tmp t => some t).bind fun t => (lendT env l).map (t :: ·)
def give : List Ar → List T → Envt → Envt
  | .lend i :: l, t :: ts, env => give l ts (env.set i (some t))
  | .tmp _ :: l, _ :: ts, env => give l ts env
  | _, _, env => env
/-- arguments: lent slots, trees of ours -/
structure ArOwn (K : PySem.W.Frag) (G H : Hp) (σ : L2.St) (vs : List V) (ars : List Ar) (τ : Own3) : Prop where
  len : vs.length = ars.length
  lend : ∀ (i : Nat) (v : V) (j : Nat), vs[i]? = some v → ars[i]? = some (.lend j) → σ[j]? = some (some v)
  tmp : ∀ (i : Nat) (v : V) (t : T), vs[i]? = some v → ars[i]? = some (.tmp t) → Own K G H v t (fun b => τ b = some i)
  lim : ∀ b i, τ b = some i → ∃ t, ars[i]? = some (.tmp t)
section
variable (X : Cx) (W : WX)
def GoodR (G H : Hp) (σ : L2.St) (ω : Own3) (Q : List V → Hp → Prop) : R (List Ar) → Prop
  | .ok ars env' => ∀ vs G' H' ω' τ, Step G H (dom ω) G' H' → Rep X.K G' H' σ env' ω' → ArOwn X.K G' H' σ vs ars τ → (∀ b, dom τ b → ω' b = none) → New H (dom ω) (fun b => dom ω' b ∨ dom τ b) → Q vs H'
  | .exc c env' => GoodX X W G H σ ω c env'
  | .fail => False
def DR (es : List Expr) (ev : Envt → R (List Ar)) : Prop := ∃ t : TA, PA X es t ∧ ∀ G H σ env ω Q, Rep X.K G H σ env ω → GoodR X W G H σ ω Q (ev env) → t σ H Q
end
def arNil : Envt → R (List Ar) := fun env => .ok [] env
def arLend (i : Nat) (es : Envt → R (List Ar)) : Envt → R (List Ar) := fun env => match env[i]? with
  | some (some _) => (es env).bind fun ars env2 => .ok (.lend i :: ars) env2
  | _ => .fail
def arTmp (ea : Ev) (es : Envt → R (List Ar)) : Envt → R (List Ar) := fun env => (ea env).bind fun t env1 => (es env1).bind fun ars env2 => .ok (.tmp t :: ars) env2
section
variable {X : Cx} {W : WX} {p pa pb : Bool} {e a : Expr} {es : List Expr} {ea : Ev} {evs : Envt → R (List Ar)} {pos : Pos}
theorem dr_nil : DR X W [] arNil :=
  ⟨tNil, pa_nil, fun G H σ env ω Q r g => g [] G H ω (fun _ => none) .refl r ⟨rfl, fun i v j h => by simp at h, fun i v t h => by simp at h, fun b i h => by cases h⟩ (fun b ⟨_, z⟩ => by cases z) (fun b hb => .inl (hb.elim id fun ⟨_, z⟩ => by cases z))⟩
theorem dr_lend {i : Nat} (ha : PE X a (tVar i)) (hr : DR X W es evs) (hs : noStar a = true) : DR X W (a :: es) (arLend i evs) := by
  obtain ⟨u, b1, b2⟩ := hr
  refine ⟨_, pa_cons ha b1 (star_cons hs), fun G H σ env ω Q r g => ?_⟩
  unfold arLend at g
  split at g
  · rename_i t ht
    obtain ⟨v, hv, _⟩ := r.own i t ht
    refine ⟨v, hv, b2 G H σ env ω _ r ?_⟩
    cases q : evs env with
    | ok ars env' =>
      rw [q] at g
      intro vs G' H' ω' τ s1 r1 o1 d1 n1
      refine g (v :: vs) G' H' ω' (fun b => (τ b).map (· + 1)) s1 r1 ⟨by simp [o1.len], fun k w j h1 h2 => ?_, fun k w t h1 h2 => ?_, fun b k h => ?_⟩ (fun b ⟨k, hk⟩ => ?_) (fun b hb => ?_)
      · cases k with
        | zero =>
          simp at h1 h2
          subst h1
          subst h2
          exact hv
        | succ k => exact o1.lend k w j (by simpa using h1) (by simpa using h2)
      · cases k with
        | zero => simp at h2
        | succ k =>
          refine (o1.tmp k w t (by simpa using h1) (by simpa using h2)).congr fun b => ?_
          show (τ b).map (· + 1) = some (k + 1) ↔ τ b = some k
          cases z : τ b with
          | none => simp
          | some j => simp
      · have h' : (τ b).map (· + 1) = some k := h
        rw [Option.map_eq_some_iff] at h'
        obtain ⟨j, z1, rfl⟩ := h'
        obtain ⟨t, z2⟩ := o1.lim b j z1
        exact ⟨t, by simpa using z2⟩
      · have h' : (τ b).map (· + 1) = some k := hk
        rw [Option.map_eq_some_iff] at h'
        obtain ⟨j, z1, _⟩ := h'
        exact d1 b ⟨j, z1⟩
      · refine n1 b (hb.imp id fun ⟨k, hk⟩ => ?_)
        have h' : (τ b).map (· + 1) = some k := hk
        rw [Option.map_eq_some_iff] at h'
        obtain ⟨j, z1, _⟩ := h'
        exact ⟨j, z1⟩
    | exc c env' =>
      rw [q] at g
      exact g
    | fail =>
      rw [q] at g
      exact g
  · exact g.elim
open Classical in
theorem dr_tmp (ha : DE X W pa a ea) (hr : DR X W es evs) (hs : noStar a = true) : DR X W (a :: es) (arTmp ea evs) := by
  obtain ⟨t, a1, a2⟩ := ha
  obtain ⟨u, b1, b2⟩ := hr
  refine ⟨_, pa_cons a1 b1 (star_cons hs), fun G H σ env ω Q r g => a2 G H σ env ω _ r ?_⟩
  unfold arTmp at g
  cases q : ea env with
  | ok t' env1 =>
    rw [q] at g
    intro v G1 H1 ω1 S s1 r1 o1 d1 n1 _
    refine b2 G1 H1 σ env1 ω1 _ r1 ?_
    simp only [R.bind] at g
    cases q2 : evs env1 with
    | ok ars env2 =>
      rw [q2] at g
      intro vs G2 H2 ω2 τ s2 r2 o2 d2 n2
      obtain ⟨o3, nn⟩ := o1.carry d1 s2 n2
      have nS : ∀ b, S b → τ b = none := fun b hb => by
        cases z : τ b with
        | none => rfl
        | some i => exact absurd (Or.inr ⟨i, z⟩) (nn b hb)
      refine g (v :: vs) G2 H2 ω2 (fun b => if S b then some 0 else (τ b).map (· + 1)) (s1.trans s2 (dom_new n1)) r2 ⟨by simp [o2.len], fun k w j h1 h2 => ?_, fun k w t h1 h2 => ?_, fun b k h => ?_⟩ (fun b ⟨k, hk⟩ => ?_) (fun b hb => ?_)
      · cases k with
        | zero => simp at h2
        | succ k => exact o2.lend k w j (by simpa using h1) (by simpa using h2)
      · cases k with
        | zero =>
          simp at h1 h2
          subst h1
          subst h2
          refine o3.congr fun b => ?_
          show (if S b then some 0 else (τ b).map (· + 1)) = some 0 ↔ S b
          by_cases hs : S b
          · rw [if_pos hs]
            exact ⟨fun _ => hs, fun _ => rfl⟩
          · rw [if_neg hs]
            refine ⟨fun z => ?_, fun z => absurd z hs⟩
            rw [Option.map_eq_some_iff] at z
            obtain ⟨j, _, z⟩ := z
            omega
        | succ k =>
          refine (o2.tmp k w t (by simpa using h1) (by simpa using h2)).congr fun b => ?_
          show (if S b then some 0 else (τ b).map (· + 1)) = some (k + 1) ↔ τ b = some k
          by_cases hs : S b
          · rw [if_pos hs, nS b hs]
            refine ⟨fun z => ?_, fun z => by cases z⟩
            have := Option.some.inj z
            omega
          · rw [if_neg hs]
            cases z : τ b with
            | none => simp
            | some j => simp
      · have h' : (if S b then some 0 else (τ b).map (· + 1)) = some k := h
        by_cases hs : S b
        · rw [if_pos hs] at h'
          cases h'
          exact ⟨t', rfl⟩
        · rw [if_neg hs, Option.map_eq_some_iff] at h'
          obtain ⟨j, z1, rfl⟩ := h'
          obtain ⟨t, z2⟩ := o2.lim b j z1
          exact ⟨t, by simpa using z2⟩
      · have h' : (if S b then some 0 else (τ b).map (· + 1)) = some k := hk
        by_cases hs : S b
        · cases y : ω2 b with
          | none => rfl
          | some i => exact absurd (Or.inl ⟨i, y⟩) (nn b hs)
        · rw [if_neg hs, Option.map_eq_some_iff] at h'
          obtain ⟨j, z1, _⟩ := h'
          exact d2 b ⟨j, z1⟩
      · rcases hb with hb | ⟨k, hk⟩
        · exact New.trans s1 (dom_new n1) n2 b (.inl hb)
        · have h' : (if S b then some 0 else (τ b).map (· + 1)) = some k := hk
          by_cases hs : S b
          · exact n1 b (.inr hs)
          · rw [if_neg hs, Option.map_eq_some_iff] at h'
            obtain ⟨j, z1, _⟩ := h'
            exact New.trans s1 (dom_new n1) n2 b (.inr ⟨j, z1⟩)
    | exc c env2 =>
      rw [q2] at g
      exact goodX_step s1 (dom_new n1) g
    | fail =>
      rw [q2] at g
      exact g
  | exc c env1 =>
    rw [q] at g
    exact g
  | fail =>
    rw [q] at g
    exact g
/-- where a lent slot stands among the arguments -/
theorem lends_mem : ∀ {ars : List Ar} {j : Nat}, j ∈ lends ars ↔ ∃ (i : Nat), ars[i]? = some (Ar.lend j)
  | [], j => by simp [lends]
  | .lend k :: l, j => by
    rw [lends, List.mem_cons, lends_mem (ars := l)]
    refine ⟨fun h => ?_, fun ⟨i, h⟩ => ?_⟩
    · rcases h with rfl | ⟨i, h⟩
      · exact ⟨0, rfl⟩
      · exact ⟨i + 1, by simpa using h⟩
    · cases i with
      | zero =>
        simp at h
        exact .inl h.symm
      | succ i => exact .inr ⟨i, by simpa using h⟩
  | .tmp t :: l, j => by
    rw [lends, lends_mem (ars := l)]
    refine ⟨fun ⟨i, h⟩ => ⟨i + 1, by simpa using h⟩, fun ⟨i, h⟩ => ?_⟩
    cases i with
    | zero => simp at h
    | succ i => exact ⟨i, by simpa using h⟩
theorem lends_inj : ∀ {ars : List Ar} {i k j : Nat}, (lends ars).Nodup → ars[i]? = some (.lend j) → ars[k]? = some (.lend j) → i = k
  | [], i, k, j, _, h, _ => by simp at h
  | .lend q :: l, i, k, j, nd, h1, h2 => by
    rw [lends, List.nodup_cons] at nd
    cases i with
    | zero =>
      simp at h1
      subst h1
      cases k with
      | zero => rfl
      | succ k => exact absurd (lends_mem.mpr ⟨k, by simpa using h2⟩) nd.1
    | succ i =>
      cases k with
      | zero =>
        simp at h2
        subst h2
        exact absurd (lends_mem.mpr ⟨i, by simpa using h1⟩) nd.1
      | succ k => rw [lends_inj (ars := l) (i := i) (k := k) (j := j) nd.2 (by simpa using h1) (by simpa using h2)]
  | .tmp t :: l, i, k, j, nd, h1, h2 => by
    cases i with
    | zero => simp at h1
    | succ i =>
      cases k with
      | zero => simp at h2
      | succ k =>
        rw [lends] at nd
        rw [lends_inj (ars := l) (i := i) (k := k) (j := j) nd (by simpa using h1) (by simpa using h2)]
theorem lendT_len {env : Envt} : ∀ {ars : List Ar} {ts : List T}, lendT env ars = some ts → ts.length = ars.length
  | [], ts, h => by
    simp only [lendT, Option.some.injEq] at h
    subst h
    rfl
  | a :: l, ts, h => by
    simp only [lendT, Option.bind_eq_some_iff, Option.map_eq_some_iff] at h
    obtain ⟨t, _, r, h2, rfl⟩ := h
    simp [lendT_len h2]
theorem lendT_at {env : Envt} : ∀ {ars : List Ar} {ts : List T}, lendT env ars = some ts → ∀ (i : Nat) (t : T), ts[i]? = some t → (∃ j, ars[i]? = some (.lend j) ∧ env[j]? = some (some t)) ∨ ars[i]? = some (.tmp t)
  | [], ts, h, i, t, e => by
    simp only [lendT, Option.some.injEq] at h
    subst h
    simp at e
  | a :: l, ts, h, i, t, e => by
    simp only [lendT, Option.bind_eq_some_iff, Option.map_eq_some_iff] at h
    obtain ⟨t0, h1, r, h2, rfl⟩ := h
    cases i with
    | zero =>
      simp at e
      subst e
      cases a with
      | lend j =>
        simp only at h1
        split at h1
        · rename_i t' ht'
          cases h1
          exact .inl ⟨j, rfl, ht'⟩
        · cases h1
      | tmp t' =>
        simp only [Option.some.injEq] at h1
        subst h1
        exact .inr rfl
    | succ i =>
      rcases lendT_at h2 i t (by simpa using e) with ⟨j, z1, z2⟩ | z
      · exact .inl ⟨j, by simpa using z1, z2⟩
      · exact .inr (by simpa using z)
theorem give_len : ∀ (ars : List Ar) (ts : List T) (env : Envt), (give ars ts env).length = env.length
  | [], _, _ => rfl
  | .lend i :: l, [], env => rfl
  | .lend i :: l, t :: ts, env => by
    show (give l ts (env.set i (some t))).length = _
    rw [give_len l ts, List.length_set]
  | .tmp _ :: l, [], env => rfl
  | .tmp _ :: l, t :: ts, env => give_len l ts env
theorem give_out : ∀ (ars : List Ar) (ts : List T) (env : Envt) (j : Nat), j ∉ lends ars → (give ars ts env)[j]? = env[j]?
  | [], _, _, _, _ => rfl
  | .lend i :: l, [], env, _, _ => rfl
  | .lend i :: l, t :: ts, env, j, h => by
    rw [lends, List.mem_cons, not_or] at h
    show (give l ts (env.set i (some t)))[j]? = _
    rw [give_out l ts _ j h.2, List.getElem?_set_ne (Ne.symm h.1)]
  | .tmp _ :: l, [], env, _, _ => rfl
  | .tmp _ :: l, t :: ts, env, j, h => give_out l ts env j h
theorem give_at : ∀ (ars : List Ar) (ts : List T) (env : Envt) (i j : Nat) (t : T), (lends ars).Nodup → j < env.length → ars[i]? = some (.lend j) → ts[i]? = some t → (give ars ts env)[j]? = some (some t)
  | [], _, _, _, _, _, _, _, h, _ => by simp at h
  | a :: l, [], _, _, _, _, _, _, _, h => by simp at h
  | .lend k :: l, t0 :: ts, env, i, j, t, nd, hj, h1, h2 => by
    rw [lends, List.nodup_cons] at nd
    show (give l ts (env.set k (some t0)))[j]? = _
    cases i with
    | zero =>
      simp at h1 h2
      subst h1
      subst h2
      rw [give_out l ts _ k nd.1, List.getElem?_set_self hj]
    | succ i => exact give_at l ts _ i j t nd.2 (by rw [List.length_set]; exact hj) (by simpa using h1) (by simpa using h2)
  | .tmp t1 :: l, t0 :: ts, env, i, j, t, nd, hj, h1, h2 => by
    show (give l ts env)[j]? = _
    cases i with
    | zero => simp at h1
    | succ i => exact give_at l ts _ i j t nd hj (by simpa using h1) (by simpa using h2)
open Classical in
/-- the arguments as a row of trees of ours; the slots that were lent are empty meanwhile -/
theorem lend_out {K : PySem.W.Frag} {G H : Hp} {σ : L2.St} {env : Envt} {ω τ : Own3} {vs : List V} {ars : List Ar} {ts : List T} (r : Rep K G H σ env ω) (a : ArOwn K G H σ vs ars τ) (d : ∀ b, dom τ b → ω b = none) (hl : lendT env ars = some ts) (nd : (lends ars).Nodup) :
    ∃ τc : Own3, OwnL K G H vs ts τc ∧ (∀ b, dom τc b → (dom τ b ∨ ∃ j ∈ lends ars, ω b = some j)) ∧ ∀ b, dom τc b → hid ω (lends ars) b = none := by
  have key : ∀ b, (∃ (i j : Nat), ars[i]? = some (Ar.lend j) ∧ ω b = some j) → ∀ (i j : Nat), ars[i]? = some (Ar.lend j) → ω b = some j → True := fun _ _ _ _ _ _ => True.intro
  refine ⟨fun b => if h : ∃ (i j : Nat), ars[i]? = some (Ar.lend j) ∧ ω b = some j then some (Classical.choose h) else τ b, ⟨by rw [a.len, lendT_len hl], fun i v t h1 h2 => ?_, fun b i h => ?_⟩, fun b ⟨i, hi⟩ => ?_, fun b ⟨i, hi⟩ => ?_⟩
  · rcases lendT_at hl i t h2 with ⟨j, z1, z2⟩ | z
    · obtain ⟨v', hv', o⟩ := r.own j t z2
      have e := a.lend i v j h1 z1
      rw [hv'] at e
      cases e
      refine o.congr fun b => ?_
      show (if h : ∃ (i j : Nat), ars[i]? = some (Ar.lend j) ∧ ω b = some j then some (Classical.choose h) else τ b) = some i ↔ ω b = some j
      by_cases hx : ∃ (i j : Nat), ars[i]? = some (Ar.lend j) ∧ ω b = some j
      · rw [dif_pos hx]
        obtain ⟨j', w1, w2⟩ := Classical.choose_spec hx
        refine ⟨fun e => ?_, fun e => ?_⟩
        · have e' := Option.some.inj e
          rw [e', z1] at w1
          cases w1
          exact w2
        · rw [w2] at e
          cases e
          rw [lends_inj nd w1 z1]
      · rw [dif_neg hx]
        refine ⟨fun e => ?_, fun e => absurd ⟨i, j, z1, e⟩ hx⟩
        obtain ⟨t', w⟩ := a.lim b i e
        rw [z1] at w
        cases w
    · refine (a.tmp i v t h1 z).congr fun b => ?_
      show (if h : ∃ (i j : Nat), ars[i]? = some (Ar.lend j) ∧ ω b = some j then some (Classical.choose h) else τ b) = some i ↔ τ b = some i
      by_cases hx : ∃ (i j : Nat), ars[i]? = some (Ar.lend j) ∧ ω b = some j
      · rw [dif_pos hx]
        obtain ⟨j', w1, w2⟩ := Classical.choose_spec hx
        refine ⟨fun e => ?_, fun e => ?_⟩
        · have e' := Option.some.inj e
          rw [e', z] at w1
          cases w1
        · have := d b ⟨i, e⟩
          rw [w2] at this
          cases this
      · rw [dif_neg hx]
  · have h' : (if h : ∃ (i j : Nat), ars[i]? = some (Ar.lend j) ∧ ω b = some j then some (Classical.choose h) else τ b) = some i := h
    rw [lendT_len hl]
    by_cases hx : ∃ (i j : Nat), ars[i]? = some (Ar.lend j) ∧ ω b = some j
    · rw [dif_pos hx] at h'
      obtain ⟨j', w1, w2⟩ := Classical.choose_spec hx
      rw [Option.some.inj h'] at w1
      exact (List.getElem?_eq_some_iff.mp w1).1
    · rw [dif_neg hx] at h'
      obtain ⟨t', w⟩ := a.lim b i h'
      exact (List.getElem?_eq_some_iff.mp w).1
  · have h' : (if h : ∃ (i j : Nat), ars[i]? = some (Ar.lend j) ∧ ω b = some j then some (Classical.choose h) else τ b) = some i := hi
    by_cases hx : ∃ (i j : Nat), ars[i]? = some (Ar.lend j) ∧ ω b = some j
    · obtain ⟨i', j', w1, w2⟩ := hx
      exact .inr ⟨j', lends_mem.mpr ⟨i', w1⟩, w2⟩
    · rw [dif_neg hx] at h'
      exact .inl ⟨i, h'⟩
  · have h' : (if h : ∃ (i j : Nat), ars[i]? = some (Ar.lend j) ∧ ω b = some j then some (Classical.choose h) else τ b) = some i := hi
    by_cases hx : ∃ (i j : Nat), ars[i]? = some (Ar.lend j) ∧ ω b = some j
    · obtain ⟨i', j', w1, w2⟩ := hx
      exact hid_none w2 (lends_mem.mpr ⟨i', w1⟩)
    · rw [dif_neg hx] at h'
      have := d b ⟨i, h'⟩
      simp only [hid, this]
open Classical in
/-- the lent slots take their trees back -/
theorem lend_back {K : PySem.W.Frag} {G H : Hp} {σ : L2.St} {env : Envt} {ω τ : Own3} {vs : List V} {ars : List Ar} {ts : List T} (r : Rep K G H (wipe σ (lends ars)) env ω) (hσ : env.length = σ.length) (l : OwnL K G H vs ts τ) (a : ∀ (i : Nat) (v : V) (j : Nat), vs[i]? = some v → ars[i]? = some (.lend j) → σ[j]? = some (some v)) (hlen : vs.length = ars.length)
    (d : ∀ b, dom τ b → ω b = none) (nd : (lends ars).Nodup) (hw : ∀ j ∈ lends ars, env[j]? = some none) : ∃ ω', Rep K G H σ (give ars ts env) ω' ∧ ∀ b, dom ω' b → dom ω b ∨ dom τ b := by
  refine ⟨fun b => match τ b with | some i => (match ars[i]? with | some (.lend j) => some j | _ => none) | none => ω b, ⟨r.sub, fun j t hj => ?_, fun b j hb => ?_, by rw [give_len, hσ]⟩, fun b ⟨j, hj⟩ => ?_⟩
  · by_cases hm : j ∈ lends ars
    · obtain ⟨i, hi⟩ := lends_mem.mp hm
      have hiv : i < vs.length := by
        rw [hlen]
        exact (List.getElem?_eq_some_iff.mp hi).1
      have hit : i < ts.length := by rw [← l.len]; exact hiv
      have hjl : j < env.length := (List.getElem?_eq_some_iff.mp (hw j hm)).1
      rw [give_at ars ts env i j _ nd hjl hi (List.getElem?_eq_getElem hit)] at hj
      cases hj
      refine ⟨vs[i], a i _ j (List.getElem?_eq_getElem hiv) hi, (l.own i _ _ (List.getElem?_eq_getElem hiv) (List.getElem?_eq_getElem hit)).congr fun b => ?_⟩
      cases q : τ b with
      | none =>
        simp only
        refine ⟨fun z => ?_, fun z => by cases z⟩
        obtain ⟨t', ht'⟩ := r.emp b j z
        rw [hw j hm] at ht'
        cases ht'
      | some k =>
        simp only
        refine ⟨fun z => ?_, fun z => ?_⟩
        · split at z
          · rename_i j' hk
            cases z
            rw [lends_inj nd hk hi]
          · cases z
        · cases z
          rw [hi]
    · rw [give_out _ _ _ _ hm] at hj
      obtain ⟨v, h1, h2⟩ := r.own j t hj
      refine ⟨v, by rw [← wipe_out hm]; exact h1, h2.congr fun b => ?_⟩
      cases q : τ b with
      | none => exact Iff.rfl
      | some k =>
        simp only
        rw [d b ⟨k, q⟩]
        refine ⟨fun z => ?_, fun z => by cases z⟩
        split at z
        · rename_i j' hk
          cases z
          exact absurd (lends_mem.mpr ⟨k, hk⟩) hm
        · cases z
  · cases q : τ b with
    | none =>
      rw [q] at hb
      have hb' : ω b = some j := hb
      obtain ⟨t, ht⟩ := r.emp b j hb'
      by_cases hm : j ∈ lends ars
      · rw [hw j hm] at ht
        cases ht
      · exact ⟨t, by rw [give_out _ _ _ _ hm]; exact ht⟩
    | some k =>
      rw [q] at hb
      have hb' : (match ars[k]? with | some (.lend j) => some j | _ => none) = some j := hb
      split at hb'
      · rename_i j' hk
        cases hb'
        have hkt := l.lim b k q
        have hm := lends_mem.mpr ⟨k, hk⟩
        have hjl : j < env.length := (List.getElem?_eq_some_iff.mp (hw j hm)).1
        exact ⟨_, give_at ars ts env k j _ nd hjl hk (List.getElem?_eq_getElem hkt)⟩
      · cases hb'
  · cases q : τ b with
    | none =>
      simp only [q] at hj
      exact .inl ⟨j, hj⟩
    | some k => exact .inr ⟨k, q⟩
def evCall (F : List T → FR) (eva : Envt → R (List Ar)) : Ev := fun env => (eva env).bind fun ars env1 =>
  if (lends ars).Nodup then (match lendT env1 ars with
    | some ts => (match F ts with
      | .ok t ts' => .ok t (give ars ts' (hide (lends ars) env1))
      | .exc c ts' => .exc c (give ars ts' (hide (lends ars) env1))
      | .fail => .fail)
    | none => .fail) else .fail
/-- the promise is asked, the slots come back: for any way in which the call is written -/
theorem call_read {F : List T → FR} {G H G1 H1 : Hp} {σ : L2.St} {ω ω1 τ : Own3} {env1 : Envt} {vs : List V} {ars : List Ar} {Q : VK} (s1 : Step G H (dom ω) G1 H1) (r1 : Rep X.K G1 H1 σ env1 ω1) (a1 : ArOwn X.K G1 H1 σ vs ars τ) (d1 : ∀ b, dom τ b → ω1 b = none) (n1 : New H (dom ω) fun b => dom ω1 b ∨ dom τ b)
    (g : GoodE X W false G H σ ω Q (if (lends ars).Nodup then (match lendT env1 ars with
      | some ts => (match F ts with
        | .ok t ts' => .ok t (give ars ts' (hide (lends ars) env1))
        | .exc c ts' => .exc c (give ars ts' (hide (lends ars) env1))
        | .fail => .fail)
      | none => .fail) else .fail)) : spEv X.K F vs H1 Q (fun cls d H' => W cls d σ H') := by
  split at g
  · rename_i nd
    split at g
    · rename_i ts hl
      obtain ⟨τc, lc, dc, ac⟩ := lend_out r1 a1 d1 hl nd
      have rh := r1.hide (lends ars)
      have hw : ∀ j ∈ lends ars, (hide (lends ars) env1)[j]? = some none := fun j hj => by
        obtain ⟨i, hi⟩ := lends_mem.mp hj
        have hiv : i < vs.length := by
          rw [a1.len]
          exact (List.getElem?_eq_some_iff.mp hi).1
        have e := a1.lend i _ j (List.getElem?_eq_getElem hiv) hi
        have hjl : j < env1.length := by
          rw [r1.len]
          exact (List.getElem?_eq_some_iff.mp e).1
        rw [hide_get, if_pos ⟨hj, hjl⟩]
      have subc : ∀ b, dom τc b → dom ω1 b ∨ dom τ b := fun b hb => (dc b hb).elim .inr fun ⟨j, _, h⟩ => .inl ⟨j, h⟩
      have nc : New H (dom ω) (dom τc) := fun b hb => n1 b (subc b hb)
      -- behind the call
      have behind : ∀ {G' H' : Hp} {τ' : Own3} {N : Addr → Prop} (ts' : List T), Step G1 H1 (dom τc) G' H' → Same G' H' → OwnL X.K G' H' vs ts' τ' → New H1 (dom τc) N → (∀ b, dom τ' b → N b) →
          ∃ ω', Step G H (dom ω) G' H' ∧ Rep X.K G' H' σ (give ars ts' (hide (lends ars) env1)) ω' ∧ (∀ b, dom ω' b → dom (hid ω1 (lends ars)) b ∨ dom τ' b) ∧ New H (dom ω) N ∧ ∀ b, dom (hid ω1 (lends ars)) b → ¬ N b := by
        intro G' H' τ' N ts' s2 sg l2 n2 sN
        have hdis : ∀ b, dom (hid ω1 (lends ars)) b → ¬ dom τc b := fun b ⟨k, hk⟩ hb => by
          rw [ac b hb] at hk
          cases hk
        have apart : ∀ b, dom (hid ω1 (lends ars)) b → ¬ N b := fun b hb hn => by
          rcases n2 b hn with z | z
          · exact hdis b hb z
          · obtain ⟨⟨o, ho⟩, _⟩ := rh.there hb
            rw [z] at ho
            cases ho
        have rh2 : Rep X.K G' H' (wipe σ (lends ars)) (hide (lends ars) env1) (hid ω1 (lends ars)) := rh.step s2.ext sg fun b hb => by
          obtain ⟨⟨o, ho⟩, hg⟩ := rh.there hb
          obtain ⟨z1, z2⟩ := s2.frm b o (hdis b hb) ho
          exact ⟨z1.trans ho.symm, z2 hg⟩
        obtain ⟨ω', r', sub'⟩ := lend_back rh2 (by rw [hide_len, r1.len]) l2 a1.lend a1.len (fun b hb => by
          cases z : hid ω1 (lends ars) b with
          | none => rfl
          | some k => exact absurd (sN b hb) (apart b ⟨k, z⟩)) nd hw
        exact ⟨ω', s1.trans s2 nc, r', sub', New.trans s1 nc n2, apart⟩
      refine ⟨G1, ts, τc, r1.sub, lc, ?_⟩
      cases q : F ts with
      | fail =>
        rw [q] at g
        exact g
      | ok t ts' =>
        rw [q] at g
        intro v G' H' τ' S s2 sg l2 o2 d2 n2
        obtain ⟨ω', s3, r3, sub3, n3, ap⟩ := behind ts' s2 sg l2 n2 fun b hb => .inl hb
        refine g v G' H' ω' S s3 r3 o2 (fun b hb => ?_) (fun b hb => ?_) fun z => by cases z
        · cases z : ω' b with
          | none => rfl
          | some k =>
            rcases sub3 b ⟨k, z⟩ with w | ⟨j, w⟩
            · exact absurd (.inr hb) (ap b w)
            · rw [d2 b hb] at w
              cases w
        · rcases hb with hb | hb
          · rcases sub3 b hb with w | w
            · exact n1 b (.inl (hid_dom w))
            · exact n3 b (.inl w)
          · exact n3 b (.inr hb)
      | exc c ts' =>
        rw [q] at g
        intro G' H' τ' s2 sg l2 n2
        obtain ⟨ω', s3, r3, sub3, n3, ap⟩ := behind ts' s2 sg l2 n2 fun b hb => hb
        refine g G' H' ω' s3 r3 fun b hb => ?_
        rcases sub3 b hb with w | w
        · exact n1 b (.inl (hid_dom w))
        · exact n3 b w
    · exact g.elim
  · exact g.elim
theorem de_call {F : List T → FR} {k : Nat} {f : Addr} {fd : FuncData} {ps : List Str} {x : Str} {p0 : Pos} (Fn : FnOk X.prog X.w X.K X.mg X.base (L2.CX X.prog X.w) k f fd ps (spEv X.K F)) (hr : Room k X.A) (hg : Gl X x) (hm : X.mg x = some (.ref f)) (hk : PySem.W.keepIn X.K (.ref f) = true) (hb : Binds X.K fd ps [])
    (tk : Takes X W) (ha : DR X W (a :: es) evs) (hdb : (x == ("__debug__" : Str)) = false) (hs : noStar a = true) (hss : es.all noStar = true) : DE X W false (.Call (.Name x p0) (a :: es) [] pos) (evCall F evs) := by
  obtain ⟨t, a1, a2⟩ := ha
  refine ⟨_, pe_callSD Fn hr hg hm hk hb .nil (fun σ => passAt tk σ) a1 hdb (star_cons hs) (star_any hss), fun G H σ env ω Q r g => ?_⟩
  refine a2 G H σ env ω (fun vs H1 => spEv X.K F (vs ++ []) H1 Q (fun cls d H' => W cls d σ H')) r ?_
  unfold evCall at g
  cases q : evs env with
  | ok ars env1 =>
    rw [q] at g
    intro vs G1 H1 ω1 τ s1 r1 o1 d1 n1
    rw [List.append_nil]
    exact call_read s1 r1 o1 d1 n1 g
  | exc c env1 =>
    rw [q] at g
    exact g
  | fail =>
    rw [q] at g
    exact g
end
end VR

/-! VR12: lists changed in place. -/
namespace VR
open PySem PySem.Spec PyProof.Rows L2
def subP : List Int → T → Option T
  | [], t => some t
  | k :: ks, t => match t with
    | .node .lst ts => (ixN ts.length k).bind fun j => (ts[j]?).bind fun u => subP ks u
    | _ => none
def repP : List Int → T → T → T
  | [], _, u => u
  | k :: ks, t, u => match t with
    | .node .lst ts => (match ixN ts.length k with
      | some j => (match ts[j]? with
        | some c => .node .lst (ts.set j (repP ks c u))
        | none => t)
      | none => t)
    | _ => t
def PathV (H : Hp) : List Int → V → V → Prop
  | [], v, u => v = u
  | k :: ks, v, u => ∃ a vs j w, v = .ref a ∧ H a = some (.lst vs) ∧ ixN vs.length k = some j ∧ vs[j]? = some w ∧ PathV H ks w u
theorem PathV.mono {H H' : Hp} (e : Same H H') : ∀ {ks : List Int} {v u : V}, PathV H ks v u → PathV H' ks v u
  | [], _, _, h => h
  | k :: ks, _, _, ⟨a, vs, j, w, h1, h2, h3, h4, h5⟩ => ⟨a, vs, j, w, h1, e _ _ h2, h3, h4, PathV.mono e h5⟩
/-- a path that the tree has is there in the heap -/
theorem path_of {K : PySem.W.Frag} {G H : Hp} : ∀ {ks : List Int} {v : V} {t sub : T}, Vw K G H v t → subP ks t = some sub → ∃ u, PathV H ks v u ∧ Vw K G H u sub
  | [], v, t, sub, h, e => by
    simp only [subP, Option.some.injEq] at e
    subst e
    exact ⟨v, rfl, h⟩
  | k :: ks, v, t, sub, h, e => by
    simp only [subP] at e
    split at e
    · rename_i ts
      simp only [Option.bind_eq_some_iff] at e
      obtain ⟨j, e1, c, e2, e3⟩ := e
      cases h with
      | @node a _ vs _ A n l ch =>
        have hj : j < vs.length := by
          rw [l]
          exact (List.getElem?_eq_some_iff.mp e2).1
        obtain ⟨u, p1, p2⟩ := path_of (ch j _ c (List.getElem?_eq_getElem hj) e2) e3
        exact ⟨u, ⟨a, vs, j, _, rfl, n.1, by rw [l]; exact e1, List.getElem?_eq_getElem hj, p1⟩, p2⟩
    · cases e
theorem PathV.det {H : Hp} : ∀ {ks : List Int} {v u u' : V}, PathV H ks v u → PathV H ks v u' → u = u'
  | [], _, _, _, h, h' => h.symm.trans h'
  | k :: ks, _, _, _, ⟨a, vs, j, w, h1, h2, h3, h4, h5⟩, ⟨a', vs', j', w', h1', h2', h3', h4', h5'⟩ => by
    rw [h1] at h1'
    cases h1'
    rw [h2] at h2'
    cases h2'
    rw [h3] at h3'
    cases h3'
    rw [h4] at h4'
    cases h4'
    exact PathV.det h5 h5'
open Classical in
theorem focus {K : PySem.W.Frag} {G H : Hp} : ∀ (ks : List Int) {v u : V} {t sub : T} {S : Addr → Prop}, Own K G H v t S → PathV H ks v u → subP ks t = some sub →
    ∃ S' : Addr → Prop, Own K G H u sub S' ∧ (∀ b, S' b → S b) ∧ ∀ (H2 : Hp) (sub2 : T) (S2 : Addr → Prop), Own K G H2 u sub2 S2 → (∀ b, S2 b → S b → S' b) → (∀ b, S b → ¬ S' b → H2 b = H b) → Own K G H2 v (repP ks t sub2) (fun b => (S b ∧ ¬ S' b) ∨ S2 b)
  | [], v, u, t, sub, S, o, p, e => by
    simp only [subP, Option.some.injEq] at e
    subst e
    have p' : v = u := p
    subst p'
    refine ⟨S, o, fun _ h => h, fun H2 sub2 S2 o2 _ _ => ?_⟩
    show Own K G H2 v sub2 _
    exact o2.congr fun b => ⟨fun h => h.elim (fun z => absurd z.1 z.2) id, .inr⟩
  | k :: ks, v, u, t, sub, S, o, p, e => by
    simp only [subP] at e
    split at e
    · rename_i ts
      simp only [Option.bind_eq_some_iff] at e
      obtain ⟨j, e1, c, e2, e3⟩ := e
      obtain ⟨a, vs, j', w, rfl, p2, p3, p4, p5⟩ := p
      cases o with
      | @node _ _ vs' _ A _ ω n g l ch nn s =>
        have ev : vs' = vs := by
          have := n.1
          rw [p2] at this
          cases this
          rfl
        subst ev
        have ej : j' = j := by
          rw [l, e1] at p3
          cases p3
          rfl
        subst ej
        obtain ⟨S', o', sub', k'⟩ := focus ks (ch j' w c p4 e2) p5 e3
        have hjt : j' < ts.length := (List.getElem?_eq_some_iff.mp e2).1
        have hS' : ∀ b, S' b → ω b = some j' := sub'
        have hA : ∀ b, A b → ¬ S' b := fun b hb hs => by
          have := hS' b hs
          rw [nn b hb] at this
          cases this
        refine ⟨S', o', fun b hb => (s b).mpr (.inr ⟨j', hjt, hS' b hb⟩), fun H2 sub2 S2 o2 h1 h2 => ?_⟩
        have er : repP (k :: ks) (.node .lst ts) sub2 = .node .lst (ts.set j' (repP ks c sub2)) := by
          simp only [repP, e1, e2]
        rw [er]
        have hAH : ∀ b, A b → H2 b = H b := fun b hb => h2 b ((s b).mpr (.inl hb)) (hA b hb)
        have hA2 : ∀ b, A b → ¬ S2 b := fun b hb hs => hA b hb (h1 b hs ((s b).mpr (.inl hb)))
        refine .node (vs := vs') (A := A) (ω := fun b => if S2 b then some j' else if S' b then none else ω b) (nodeAt_step n hAH) g (by rw [List.length_set]; exact l) (fun i x y hx hy => ?_) (fun b hb => ?_) (fun b => ?_)
        · by_cases hij : i = j'
          · subst hij
            rw [List.getElem?_set_self hjt] at hy
            cases hy
            rw [p4] at hx
            cases hx
            refine (k' H2 sub2 S2 o2 (fun b z1 z2 => h1 b z1 ((s b).mpr (.inr ⟨i, hjt, z2⟩))) (fun b z1 z2 => h2 b ((s b).mpr (.inr ⟨i, hjt, z1⟩)) z2)).congr fun b => ?_
            show (if S2 b then some i else if S' b then none else ω b) = some i ↔ (ω b = some i ∧ ¬ S' b) ∨ S2 b
            by_cases hs : S2 b
            · rw [if_pos hs]
              exact ⟨fun _ => .inr hs, fun _ => rfl⟩
            · rw [if_neg hs]
              by_cases hs' : S' b
              · rw [if_pos hs']
                exact ⟨fun z => (by cases z), fun z => z.elim (fun y => absurd hs' y.2) (fun y => absurd y hs)⟩
              · rw [if_neg hs']
                exact ⟨fun z => .inl ⟨z, hs'⟩, fun z => z.elim (fun y => y.1) (fun y => absurd y hs)⟩
          · rw [List.getElem?_set_ne (Ne.symm hij)] at hy
            have hit : i < ts.length := (List.getElem?_eq_some_iff.mp hy).1
            have oc := ch i x y hx hy
            refine (oc.step (fun _ _ z => z) fun b hb => ⟨h2 b ((s b).mpr (.inr ⟨i, hit, hb⟩)) (fun z => ?_), (oc.there b hb).2⟩).congr fun b => ?_
            · have := hS' b z
              rw [hb] at this
              cases this
              exact hij rfl
            · show (if S2 b then some j' else if S' b then none else ω b) = some i ↔ ω b = some i
              by_cases hs : S2 b
              · rw [if_pos hs]
                refine ⟨fun z => absurd (Option.some.inj z).symm hij, fun z => ?_⟩
                have := hS' b (h1 b hs ((s b).mpr (.inr ⟨i, hit, z⟩)))
                rw [z] at this
                cases this
                exact absurd rfl hij
              · rw [if_neg hs]
                by_cases hs' : S' b
                · rw [if_pos hs', hS' b hs']
                  exact ⟨fun z => (by cases z), fun z => absurd (Option.some.inj z).symm hij⟩
                · rw [if_neg hs']
        · show (if S2 b then some j' else if S' b then none else ω b) = none
          rw [if_neg (hA2 b hb), if_neg (hA b hb)]
          exact nn b hb
        · rw [List.length_set]
          constructor
          · intro h
            rcases h with ⟨h, hns⟩ | h
            · rcases (s b).mp h with q | ⟨i, hi, q⟩
              · exact .inl q
              · by_cases hs : S2 b
                · exact .inr ⟨j', hjt, by show (if S2 b then some j' else _) = _; rw [if_pos hs]⟩
                · exact .inr ⟨i, hi, by show (if S2 b then some j' else if S' b then none else ω b) = _; rw [if_neg hs, if_neg hns]; exact q⟩
            · exact .inr ⟨j', hjt, by show (if S2 b then some j' else _) = _; rw [if_pos h]⟩
          · intro h
            by_cases hs : S2 b
            · exact .inr hs
            · rcases h with q | ⟨i, hi, q⟩
              · exact .inl ⟨(s b).mpr (.inl q), hA b q⟩
              · have q' : (if S2 b then some j' else if S' b then none else ω b) = some i := q
                rw [if_neg hs] at q'
                by_cases hs' : S' b
                · rw [if_pos hs'] at q'
                  cases q'
                · rw [if_neg hs'] at q'
                  exact .inl ⟨(s b).mpr (.inr ⟨i, hi, q'⟩), hs'⟩
    · cases e
open Classical in
/-- a slot's tree changed in place -/
theorem Rep.mut {K : PySem.W.Frag} {G H H2 : Hp} {σ : L2.St} {env : Envt} {ω : Own3} (r : Rep K G H σ env ω) {i : Nat} {v : V} {t2 : T} {S2 : Addr → Prop} (hi : i < env.length) (hv : σ[i]? = some (some v)) (o : Own K G H2 v t2 S2) (hS : ∀ b, S2 b → ω b = some i ∨ ω b = none) (hH : ∀ b, dom ω b → ω b ≠ some i → H2 b = H b) (sub : Same G H2) :
    ∃ ω', Rep K G H2 σ (env.set i (some t2)) ω' ∧ ∀ b, dom ω' b → S2 b ∨ (dom ω b ∧ ω b ≠ some i) := by
  refine ⟨fun b => if S2 b then some i else if ω b = some i then none else ω b, ⟨sub, fun j t' hj => ?_, fun b j hb => ?_, by rw [List.length_set]; exact r.len⟩, fun b ⟨j, hj⟩ => ?_⟩
  · by_cases hij : j = i
    · subst hij
      rw [List.getElem?_set_self hi] at hj
      cases hj
      refine ⟨v, hv, o.congr fun b => ?_⟩
      show (if S2 b then some j else if ω b = some j then none else ω b) = some j ↔ S2 b
      by_cases hs : S2 b
      · rw [if_pos hs]
        exact ⟨fun _ => hs, fun _ => rfl⟩
      · rw [if_neg hs]
        refine ⟨fun z => ?_, fun z => absurd z hs⟩
        split at z
        · cases z
        · rename_i y
          exact absurd z y
    · rw [List.getElem?_set_ne (Ne.symm hij)] at hj
      obtain ⟨v', hv', o'⟩ := r.own j t' hj
      refine ⟨v', hv', (o'.step (fun _ _ z => z) fun b hb => ⟨hH b ⟨j, hb⟩ (fun z => hij (Option.some.inj (hb.symm.trans z))), (o'.there b hb).2⟩).congr fun b => ?_⟩
      show (if S2 b then some i else if ω b = some i then none else ω b) = some j ↔ ω b = some j
      by_cases hs : S2 b
      · rw [if_pos hs]
        refine ⟨fun z => absurd (Option.some.inj z).symm hij, fun z => ?_⟩
        rcases hS b hs with w | w
        · rw [w] at z
          exact absurd (Option.some.inj z).symm hij
        · rw [w] at z
          cases z
      · rw [if_neg hs]
        split
        · rename_i y
          rw [y]
          exact ⟨fun z => (by cases z), fun z => absurd (Option.some.inj z).symm hij⟩
        · exact Iff.rfl
  · have hb' : (if S2 b then some i else if ω b = some i then none else ω b) = some j := hb
    by_cases hs : S2 b
    · rw [if_pos hs] at hb'
      cases hb'
      exact ⟨t2, List.getElem?_set_self hi⟩
    · rw [if_neg hs] at hb'
      split at hb'
      · cases hb'
      · rename_i y
        have hij : j ≠ i := fun z => y (z ▸ hb')
        obtain ⟨t', ht'⟩ := r.emp b j hb'
        exact ⟨t', by rw [List.getElem?_set_ne (Ne.symm hij)]; exact ht'⟩
  · have hj' : (if S2 b then some i else if ω b = some i then none else ω b) = some j := hj
    by_cases hs : S2 b
    · exact .inl hs
    · rw [if_neg hs] at hj'
      split at hj'
      · cases hj'
      · rename_i y
        exact .inr ⟨⟨j, hj'⟩, y⟩
/-! ### where a path leads -/
def tP (i : Nat) (ks : List Int) : TE := fun σ H Q => ∃ v u, σ[i]? = some (some v) ∧ PathV H ks v u ∧ Q u H
theorem pe_imp {X : Cx} {e : Expr} {t t' : TE} (h : PE X e t) (k : ∀ σ H Q, t' σ H Q → t σ H Q) : PE X e t' := ⟨fun pins s σ H Q I q => h.run pins s σ H Q I (k σ H Q q)⟩
theorem path_snoc {H : Hp} : ∀ {ks : List Int} {k : Int} {v u : V}, PathV H (ks ++ [k]) v u → ∃ w, PathV H ks v w ∧ PathV H [k] w u
  | [], _, v, _, h => ⟨v, rfl, h⟩
  | _ :: ks, _, _, _, ⟨a, vs, j, w, h1, h2, h3, h4, h5⟩ => by
    obtain ⟨x, p1, p2⟩ := path_snoc (ks := ks) h5
    exact ⟨x, ⟨a, vs, j, w, h1, h2, h3, h4, p1⟩, p2⟩
section
variable {X : Cx} {W : WX} {p pa : Bool} {e a b o : Expr} {ea ev : Ev} {pos apos cpos : Pos}
theorem pe_path0 {i : Nat} (h : PE X e (tVar i)) : PE X e (tP i []) := pe_imp h fun σ H Q ⟨v, u, h1, h2, h3⟩ => ⟨v, h1, by cases (show v = u from h2); exact h3⟩
theorem pe_pathS {i : Nat} {ks : List Int} {k : Int} (h : PE X a (tP i ks)) (hb : PE X b (tC (.int k))) (hs : noSlice b = true) : PE X (.Subscript a b pos) (tP i (ks ++ [k])) := by
  refine pe_imp (pe_ix ix_list h hb (plainIx_of hs)) fun σ H Q ⟨v, u, h1, h2, h3⟩ => ?_
  obtain ⟨w, p1, a', vs, j, w', q1, q2, q3, q4, q5⟩ := path_snoc h2
  cases (show w' = u from q5)
  exact ⟨v, w, h1, p1, a', vs, k, u, q1, rfl, SqL.of q2, by unfold atI; rw [q3]; exact q4, h3⟩
/-- place.append(e): the place is a slot's list, or one within it -/
def evApp (i : Nat) (ks : List Int) (ev : Ev) : Ev := fun env => match env[i]? with
  | some (some t0) => (match subP ks t0 with
    | some (.node .lst _) => (ev env).bind fun y env1 => (match env1[i]? with
      | some (some t1) => (match subP ks t1 with
        | some (.node .lst us) => if us.length < sizeLine then .ok (.dat .none) (env1.set i (some (repP ks t1 (.node .lst (us ++ [y]))))) else .fail
        | _ => .fail)
      | _ => .fail)
    | _ => .fail)
  | _ => .fail
theorem own_snoc {K : PySem.W.Frag} {G H : Hp} {q : Addr} {ts : List T} {vs : List V} {v : V} {t : T} {S' S : Addr → Prop} (o : Own K G H (.ref q) (.node .lst ts) S') (hq : H q = some (.lst vs)) (o2 : Own K G H v t S) (d : ∀ b, S b → ¬ S' b) :
    Own K G (upd H q (.lst (vs ++ [v]))) (.ref q) (.node .lst (ts ++ [t])) (fun b => S' b ∨ S b) := by
  cases o with
  | @node _ _ vs' _ A _ ω n g l ch nn s =>
    have ev : vs' = vs := by
      have := n.1
      rw [hq] at this
      cases this
      rfl
    subst ev
    have hA : ∀ b, A b ↔ b = q := n.2
    have lo : OwnL K G H vs' ts (fun b => match ω b with | some i => if i < ts.length then some i else none | none => none) := by
      refine ⟨l, fun i x y hx hy => (ch i x y hx hy).congr fun b => ?_, fun b i h => ?_⟩
      · have hi : i < ts.length := (List.getElem?_eq_some_iff.mp hy).1
        cases z : ω b with
        | none => simp
        | some j =>
          simp only
          by_cases hj : j < ts.length
          · rw [if_pos hj]
          · rw [if_neg hj]
            refine ⟨fun w => (by cases w), fun w => ?_⟩
            cases w
            exact absurd hi hj
      · cases z : ω b with
        | none => simp [z] at h
        | some j =>
          simp only [z] at h
          split at h
          · rename_i hj
            cases h
            exact hj
          · cases h
    have dl : ∀ b, dom (fun b => match ω b with | some i => if i < ts.length then some i else none | none => none) b → S' b ∧ b ≠ q := by
      intro b ⟨i, hi⟩
      have hi2 := lo.lim b i hi
      have e : ω b = some i := by
        cases z : ω b with
        | none => simp [z] at hi
        | some j =>
          simp only [z] at hi
          split at hi
          · exact hi
          · cases hi
      refine ⟨(s b).mpr (.inr ⟨i, hi2, e⟩), fun z => ?_⟩
      have := nn b ((hA b).mpr z)
      rw [e] at this
      cases this
    have hqS : S' q := (s q).mpr (.inl ((hA q).mpr rfl))
    obtain ⟨τ, l2, dm⟩ := lo.snoc o2 fun b hb => by
      cases z : (fun b => match ω b with | some i => if i < ts.length then some i else none | none => none) b with
      | none => exact z
      | some i => exact absurd (dl b ⟨i, z⟩).1 (d b hb)
    have ne : ∀ b, dom τ b → b ≠ q := fun b hb => by
      rcases (dm b).mp hb with w | w
      · exact (dl b w).2
      · exact fun z => d b w (z ▸ hqS)
    have l3 : OwnL K G (upd H q (.lst (vs' ++ [v]))) (vs' ++ [v]) (ts ++ [t]) τ := l2.step (fun _ _ z => z) fun b hb => ⟨upd_ne (ne b hb), (l2.there hb).2⟩
    refine .node (vs := vs' ++ [v]) (A := fun b => b = q) (ω := τ) ⟨upd_same, fun b => Iff.rfl⟩ (fun b e => by rw [e]; exact g q ((hA q).mpr rfl)) l3.len (fun i x y hx hy => l3.own i x y hx hy) (fun b e => ?_) (fun b => ?_)
    · rw [e]
      cases z : τ q with
      | none => rfl
      | some i => exact absurd rfl (ne q ⟨i, z⟩)
    · constructor
      · intro h
        rcases h with h | h
        · rcases (s b).mp h with w | ⟨i, hi, w⟩
          · exact .inl ((hA b).mp w)
          · obtain ⟨j, hj⟩ := (dm b).mpr (.inl ⟨i, by simp [w, hi]⟩)
            exact .inr ⟨j, l3.lim b j hj, hj⟩
        · obtain ⟨j, hj⟩ := (dm b).mpr (.inr h)
          exact .inr ⟨j, l3.lim b j hj, hj⟩
      · intro h
        rcases h with h | ⟨i, _, h⟩
        · rw [h]
          exact .inl hqS
        · rcases (dm b).mp ⟨i, h⟩ with w | w
          · exact .inl (dl b w).1
          · exact .inr w
theorem app_read {te : TE} {i : Nat} {ks : List Int} (h2 : ∀ G H σ env ω Q, Rep X.K G H σ env ω → GoodE X W p G H σ ω Q (ea env) → te σ H Q) (hp : ks = [] ∨ p = true) {G H : Hp} {σ : L2.St} {env : Envt} {ω : Own3} {Q : VK} (r : Rep X.K G H σ env ω) (g : GoodE X W false G H σ ω Q (evApp i ks ea env)) : tBM X.K "list" rAppend (tP i ks) (tCons te tNil) σ H Q := by
  unfold evApp at g
  split at g
  · rename_i t0 ht0
    split at g
    · rename_i us0 hsub0
      obtain ⟨v, hv, o0⟩ := r.own i t0 ht0
      obtain ⟨u, pv0, vw0⟩ := path_of o0.vw hsub0
      refine ⟨v, u, hv, pv0, ?_, ?_⟩
      · cases vw0 with
        | node n _ _ => exact .inl ⟨rfl, _, SqL.of n.1⟩
      · refine h2 G H σ env ω _ r ?_
        cases q : ea env with
        | exc c env1 =>
          rw [q] at g
          exact g
        | fail =>
          rw [q] at g
          exact g
        | ok y env1 =>
          rw [q] at g
          intro x G1 H1 ω1 S s1 r1 o1 d1 n1 k1
          simp only [R.bind] at g
          split at g
          · rename_i t1 ht1
            split at g
            · rename_i us hsub
              split at g
              · rename_i hz
                have pv1 : PathV H1 ks v u := by
                  rcases hp with rfl | hp
                  · exact pv0
                  · exact pv0.mono (k1 hp)
                obtain ⟨v', hv', o2⟩ := r1.own i t1 ht1
                rw [hv] at hv'
                cases hv'
                obtain ⟨S', os, ss, kk⟩ := focus ks o2 pv1 hsub
                obtain ⟨qa, vs, eu, hq⟩ : ∃ qa vs, u = .ref qa ∧ H1 qa = some (.lst vs) := by
                  cases os with
                  | node n _ _ _ _ _ => exact ⟨_, _, rfl, n.1⟩
                subst eu
                have hlen : vs.length = us.length := by
                  cases os with
                  | @node _ _ vs'' _ _ _ _ n _ l _ _ _ =>
                    have := n.1
                    rw [hq] at this
                    cases this
                    exact l
                have dS : ∀ b, S b → ¬ ω1 b = some i := fun b hb z => by
                  rw [d1 b hb] at z
                  cases z
                have on := own_snoc os hq o1 fun b hb z => dS b hb (ss b z)
                have hqS' : S' qa := by
                  cases os with
                  | node n _ _ _ _ s => exact (s _).mpr (.inl (nodeAt_self n))
                have hne : ∀ b, b ≠ qa → upd H1 qa (.lst (vs ++ [x])) b = H1 b := fun b hb => upd_ne hb
                have onew := kk (upd H1 qa (.lst (vs ++ [x]))) _ _ on (fun b z1 z2 => z1.elim id fun z => absurd z2 (dS b z)) (fun b z1 z2 => hne b fun z => z2 (z ▸ hqS'))
                have hi : i < env1.length := (List.getElem?_eq_some_iff.mp ht1).1
                have hGq : G1 qa = none := (os.there qa hqS').2
                have subN : Same G1 (upd H1 qa (.lst (vs ++ [x]))) := fun b ob eb => by
                  rw [hne b (ne_of_none eb hGq)]
                  exact r1.sub b ob eb
                obtain ⟨ω2, r2, sub2⟩ := r1.mut hi hv onew (fun b z => by
                  rcases z with ⟨z, _⟩ | z | z
                  · exact .inl z
                  · exact .inl (ss b z)
                  · exact .inr (d1 b z)) (fun b z1 z2 => hne b fun z => z2 (ss b (z ▸ hqS'))) subN
                refine ⟨qa, vs, x, rfl, rfl, hq, by rw [hlen]; exact hz, ?_⟩
                have s2 : Step G1 H1 (dom ω1) G1 (upd H1 qa (.lst (vs ++ [x]))) := ⟨fun _ _ z => z, fun b ob nd eb => ⟨by rw [hne b (fun z => nd ⟨i, ss b (z ▸ hqS')⟩)]; exact eb, fun z => z⟩⟩
                have n2 : New H (dom ω) (dom ω2) := fun b hb => by
                  rcases sub2 b hb with z | z
                  · rcases z with ⟨z, _⟩ | z | z
                    · exact n1 b (.inl ⟨i, z⟩)
                    · exact n1 b (.inl ⟨i, ss b z⟩)
                    · exact n1 b (.inr z)
                  · exact n1 b (.inl z.1)
                exact good_dat g (s1.trans s2 (dom_new n1)) r2 n2 (fun z => by cases z) .non
              · exact g.elim
            · exact g.elim
          · exact g.elim
    · exact g.elim
  · exact g.elim
theorem de_app {i : Nat} {ks : List Int} (ho : PE X o (tP i ks)) (h : DE X W p a ea) (hp : ks = [] ∨ p = true) (hs : noStar a = true)
    (hbase : attributeBase o "append" X.env (eval o X.env) = eval o X.env) (hline : (apos.endLine == cpos.line) = true) : DE X W false (.Call (.Attribute o "append" apos) [a] [] cpos) (evApp i ks ea) := by
  obtain ⟨t, h1, h2⟩ := h
  have hst : starEach [a] X.env = (false, eval a X.env) :: starEach [] X.env := star_cons hs
  refine ⟨_, pe_bm PySem.F.plainAttrs_list PySem.F.slot_list_append PySem.F.type_list_append mt_append ho (pa_cons h1 pa_nil hst) hbase (by rw [hst]; rfl) hline hst rfl, fun G H σ env ω Q r g => app_read h2 hp r g⟩
end
end VR

/-! VR13: pop, extend, setdefault, d[k] = v. -/
namespace VR
open PySem PySem.Spec PyProof.Rows L2
section
variable {K : PySem.W.Frag} {G H : Hp}
/-- a node and its parts -/
theorem own_kids {a : Addr} {k : NK} {ts : List T} {S : Addr → Prop} (o : Own K G H (.ref a) (.node k ts) S) : ∃ vs A τ, NodeAt K H a k vs A ∧ (∀ b, A b → G b = none) ∧ OwnL K G H vs ts τ ∧ (∀ b, A b → τ b = none) ∧ ∀ b, S b ↔ A b ∨ dom τ b := by
  cases o with
  | @node _ _ vs _ A _ ω n g l ch nn s =>
    refine ⟨vs, A, fun b => match ω b with | some i => if i < ts.length then some i else none | none => none, n, g, ⟨l, fun i x y hx hy => (ch i x y hx hy).congr fun b => ?_, fun b i h => ?_⟩, fun b hb => by simp [nn b hb], fun b => (s b).trans (or_congr Iff.rfl ⟨fun ⟨i, hi, e⟩ => ⟨i, by simp [e, hi]⟩, fun ⟨i, h⟩ => ?_⟩)⟩
    · have hi : i < ts.length := (List.getElem?_eq_some_iff.mp hy).1
      cases z : ω b with
      | none => simp
      | some j =>
        simp only
        by_cases hj : j < ts.length
        · rw [if_pos hj]
        · rw [if_neg hj]
          refine ⟨fun w => (by cases w), fun w => ?_⟩
          cases w
          exact absurd hi hj
    · cases z : ω b with
      | none => simp [z] at h
      | some j =>
        simp only [z] at h
        split at h
        · rename_i hj
          cases h
          exact hj
        · cases h
    · cases z : ω b with
      | none => simp [z] at h
      | some j =>
        simp only [z] at h
        split at h
        · rename_i hj
          exact ⟨j, hj, rfl⟩
        · cases h
theorem own_of_kids {a : Addr} {k : NK} {ts : List T} {vs : List V} {A : Addr → Prop} {τ : Own3} (n : NodeAt K H a k vs A) (g : ∀ b, A b → G b = none) (l : OwnL K G H vs ts τ) (nn : ∀ b, A b → τ b = none) : Own K G H (.ref a) (.node k ts) (fun b => A b ∨ dom τ b) :=
  .node n g l.len (fun i v t h1 h2 => l.own i v t h1 h2) nn fun b => or_congr Iff.rfl ⟨fun ⟨i, h⟩ => ⟨i, l.lim b i h, h⟩, fun ⟨i, _, h⟩ => ⟨i, h⟩⟩
/-- two rows -/
theorem OwnL.app {vs us : List V} {ts xs : List T} {τ τ2 : Own3} (l : OwnL K G H vs ts τ) (l2 : OwnL K G H us xs τ2) (d : ∀ b, dom τ2 b → τ b = none) : ∃ τ' : Own3, OwnL K G H (vs ++ us) (ts ++ xs) τ' ∧ ∀ b, dom τ' b ↔ dom τ b ∨ dom τ2 b := by
  refine ⟨fun b => match τ b with | some i => some i | none => (τ2 b).map (· + ts.length), ⟨by simp [l.len, l2.len], fun i v t h1 h2 => ?_, fun b i h => ?_⟩, fun b => ⟨fun ⟨i, hi⟩ => ?_, fun h => ?_⟩⟩
  · by_cases hi : i < ts.length
    · rw [List.getElem?_append_left (by rw [l.len]; exact hi)] at h1
      rw [List.getElem?_append_left hi] at h2
      refine (l.own i v t h1 h2).congr fun b => ?_
      cases z : τ b with
      | some j => exact Iff.rfl
      | none =>
        simp only
        refine ⟨fun w => ?_, fun w => by cases w⟩
        rw [Option.map_eq_some_iff] at w
        obtain ⟨j, _, w⟩ := w
        omega
    · rw [List.getElem?_append_right (by rw [l.len]; omega), l.len] at h1
      rw [List.getElem?_append_right (by omega)] at h2
      refine (l2.own (i - ts.length) v t h1 h2).congr fun b => ?_
      cases z : τ b with
      | some j =>
        simp only
        refine ⟨fun w => ?_, fun w => ?_⟩
        · cases w
          have := l.lim b _ z
          omega
        · have := d b ⟨_, w⟩
          rw [z] at this
          cases this
      | none =>
        simp only
        rw [Option.map_eq_some_iff]
        refine ⟨fun ⟨j, w1, w2⟩ => ?_, fun w => ⟨_, w, by omega⟩⟩
        rw [w1]
        congr 1
        omega
  · rw [List.length_append]
    cases z : τ b with
    | some j =>
      simp only [z] at h
      cases h
      have := l.lim b _ z
      omega
    | none =>
      simp only [z] at h
      rw [Option.map_eq_some_iff] at h
      obtain ⟨j, w1, w2⟩ := h
      have := l2.lim b j w1
      omega
  · cases z : τ b with
    | some j => exact .inl ⟨j, z⟩
    | none =>
      simp only [z] at hi
      rw [Option.map_eq_some_iff] at hi
      obtain ⟨j, w1, _⟩ := hi
      exact .inr ⟨j, w1⟩
  · cases z : τ b with
    | some j => exact ⟨j, by simp [z]⟩
    | none =>
      rcases h with ⟨j, h⟩ | ⟨j, h⟩
      · rw [z] at h
        cases h
      · exact ⟨j + ts.length, by simp [z, h]⟩
/-- one taken out of the row -/
theorem OwnL.erase {vs : List V} {ts : List T} {τ : Own3} (l : OwnL K G H vs ts τ) (j : Nat) : ∃ τ' : Own3, OwnL K G H (vs.eraseIdx j) (ts.eraseIdx j) τ' ∧ ∀ b, dom τ' b ↔ dom τ b ∧ ¬ τ b = some j := by
  refine ⟨fun b => match τ b with | some m => if m = j then none else if m < j then some m else some (m - 1) | none => none, ⟨?_, fun i v t h1 h2 => ?_, fun b i h => ?_⟩, fun b => ⟨fun ⟨i, hi⟩ => ?_, fun ⟨⟨m, hm⟩, hn⟩ => ?_⟩⟩
  · by_cases hj : j < ts.length
    · rw [List.length_eraseIdx_of_lt hj, List.length_eraseIdx_of_lt (by rw [l.len]; exact hj), l.len]
    · have hl := l.len
      rw [List.eraseIdx_of_length_le (by omega), List.eraseIdx_of_length_le (by omega)]
      exact hl
  · rw [List.getElem?_eraseIdx] at h1 h2
    by_cases hij : i < j
    · rw [if_pos hij] at h1 h2
      refine (l.own i v t h1 h2).congr fun b => ?_
      cases z : τ b with
      | none => simp
      | some m =>
        simp only [Option.some.injEq]
        by_cases e1 : m = j
        · rw [if_pos e1]
          exact ⟨fun w => (by cases w), fun w => by omega⟩
        · rw [if_neg e1]
          by_cases e2 : m < j
          · rw [if_pos e2, Option.some.injEq]
          · rw [if_neg e2, Option.some.injEq]
            omega
    · rw [if_neg hij] at h1 h2
      refine (l.own (i + 1) v t h1 h2).congr fun b => ?_
      cases z : τ b with
      | none => simp
      | some m =>
        simp only [Option.some.injEq]
        by_cases e1 : m = j
        · rw [if_pos e1]
          exact ⟨fun w => (by cases w), fun w => by omega⟩
        · rw [if_neg e1]
          by_cases e2 : m < j
          · rw [if_pos e2, Option.some.injEq]
            omega
          · rw [if_neg e2, Option.some.injEq]
            omega
  · cases z : τ b with
    | none => simp [z] at h
    | some m =>
      simp only [z] at h
      have hm := l.lim b m z
      split at h
      · cases h
      · split at h
        · cases h
          by_cases hj : j < ts.length
          · rw [List.length_eraseIdx_of_lt hj]
            omega
          · rw [List.eraseIdx_of_length_le (by omega)]
            exact hm
        · cases h
          rw [List.length_eraseIdx_of_lt (by omega)]
          omega
  · cases z : τ b with
    | none => simp [z] at hi
    | some m =>
      simp only [z] at hi
      refine ⟨⟨m, z⟩, fun w => ?_⟩
      cases w
      rw [if_pos rfl] at hi
      cases hi
  · have : m ≠ j := fun e => hn (e ▸ hm)
    by_cases e2 : m < j
    · exact ⟨m, by simp [hm, this, e2]⟩
    · exact ⟨m - 1, by simp [hm, this, e2]⟩
open Classical in
/-- one exchanged -/
theorem OwnL.set {vs : List V} {ts : List T} {τ : Own3} {j : Nat} {v : V} {t : T} {S : Addr → Prop} (l : OwnL K G H vs ts τ) (hj : j < ts.length) (o : Own K G H v t S) (d : ∀ b, S b → τ b = none) : ∃ τ' : Own3, OwnL K G H (vs.set j v) (ts.set j t) τ' ∧ ∀ b, dom τ' b → dom τ b ∨ S b := by
  refine ⟨fun b => if S b then some j else if τ b = some j then none else τ b, ⟨by rw [List.length_set, List.length_set]; exact l.len, fun i v' t' h1 h2 => ?_, fun b i h => ?_⟩, fun b ⟨i, hi⟩ => ?_⟩
  · by_cases hij : i = j
    · subst hij
      rw [List.getElem?_set_self (by rw [l.len]; exact hj)] at h1
      rw [List.getElem?_set_self hj] at h2
      cases h1
      cases h2
      refine o.congr fun b => ?_
      show (if S b then some i else if τ b = some i then none else τ b) = some i ↔ S b
      by_cases hs : S b
      · rw [if_pos hs]
        exact ⟨fun _ => hs, fun _ => rfl⟩
      · rw [if_neg hs]
        refine ⟨fun z => ?_, fun z => absurd z hs⟩
        split at z
        · cases z
        · rename_i y
          exact absurd z y
    · rw [List.getElem?_set_ne (Ne.symm hij)] at h1 h2
      refine (l.own i v' t' h1 h2).congr fun b => ?_
      show (if S b then some j else if τ b = some j then none else τ b) = some i ↔ τ b = some i
      by_cases hs : S b
      · rw [if_pos hs, d b hs]
        exact ⟨fun z => absurd (Option.some.inj z).symm hij, fun z => by cases z⟩
      · rw [if_neg hs]
        split
        · rename_i y
          rw [y]
          exact ⟨fun z => (by cases z), fun z => absurd (Option.some.inj z).symm hij⟩
        · exact Iff.rfl
  · have h' : (if S b then some j else if τ b = some j then none else τ b) = some i := h
    rw [List.length_set]
    by_cases hs : S b
    · rw [if_pos hs] at h'
      cases h'
      exact hj
    · rw [if_neg hs] at h'
      split at h'
      · cases h'
      · exact l.lim b i h'
  · have h' : (if S b then some j else if τ b = some j then none else τ b) = some i := hi
    by_cases hs : S b
    · exact .inr hs
    · rw [if_neg hs] at h'
      split at h'
      · cases h'
      · exact .inl ⟨i, h'⟩
end
/-! ### x.pop(e) -/
def evPop (i : Nat) (ev : Ev) : Ev := fun env => match env[i]? with
  | some (some (.node .lst _)) => (ev env).bind fun y env1 => (match env1[i]? with
    | some (some (.node .lst ts)) => (match y.int? with
      | some k => (match ixN ts.length k with
        | some j => (match ts[j]? with
          | some t => if ts.length ≤ 1000000 then .ok t (env1.set i (some (.node .lst (ts.eraseIdx j)))) else .fail
          | none => .fail)
        | none => .fail)
      | none => .fail)
    | _ => .fail)
  | _ => .fail
section
variable {X : Cx} {W : WX} {p pa : Bool} {e a b o : Expr} {ea ev : Ev} {pos apos cpos : Pos}
theorem de_pop {i : Nat} (ho : PE X o (tVar i)) (h : DE X W p a ea) (hs : noStar a = true) (hbase : attributeBase o "pop" X.env (eval o X.env) = eval o X.env) (hline : (apos.endLine == cpos.line) = true) : DE X W false (.Call (.Attribute o "pop" apos) [a] [] cpos) (evPop i ea) := by
  obtain ⟨t, h1, h2⟩ := h
  have hst : starEach [a] X.env = (false, eval a X.env) :: starEach [] X.env := star_cons hs
  refine ⟨_, pe_bm PySem.F.plainAttrs_list PySem.F.slot_list_pop PySem.F.type_list_pop mt_popAt ho (pa_cons h1 pa_nil hst) hbase (by rw [hst]; rfl) hline hst rfl, fun G H σ env ω Q r g => ?_⟩
  unfold evPop at g
  split at g
  · rename_i ts0 ht0
    obtain ⟨v, hv, o0⟩ := r.own i _ ht0
    have hv0 := o0.vw
    refine ⟨v, hv, ?_, ?_⟩
    · cases hv0 with
      | node n _ _ => exact .inl ⟨rfl, _, SqL.of n.1⟩
    · refine h2 G H σ env ω _ r ?_
      cases q : ea env with
      | exc c env1 =>
        rw [q] at g
        exact g
      | fail =>
        rw [q] at g
        exact g
      | ok y env1 =>
        rw [q] at g
        intro x G1 H1 ω1 S s1 r1 o1 d1 n1 k1
        simp only [R.bind] at g
        split at g
        · rename_i ts ht1
          split at g
          · rename_i k hk
            split at g
            · rename_i j hj
              split at g
              · rename_i tj htj
                split at g
                case isFalse => exact g.elim
                rename_i hz
                obtain ⟨v', hv', o2⟩ := r1.own i _ ht1
                rw [hv] at hv'
                cases hv'
                have ey := int?_eq hk
                subst ey
                have ex : x = .int k := by
                  cases o1 with
                  | dat hd _ => exact dq_int hd
                subst ex
                obtain ⟨qa, hqa⟩ : ∃ qa, v = .ref qa := by
                  cases o2 with
                  | node n _ _ _ _ _ => exact ⟨_, rfl⟩
                subst hqa
                obtain ⟨vs, A, τ, n, gA, l, nA, sS⟩ := own_kids o2
                have hA : ∀ b, A b ↔ b = qa := n.2
                obtain ⟨z1, z2, z3, z4⟩ := ixN_seq hj
                have hjv : j < vs.length := by rw [l.len]; exact z2
                have oj := l.own j _ tj (List.getElem?_eq_getElem hjv) htj
                obtain ⟨τ', l', dm'⟩ := l.erase j
                have neq : ∀ b, dom τ b → b ≠ qa := fun b ⟨m, hm⟩ z => by
                  rw [nA b ((hA b).mpr z)] at hm
                  cases hm
                have hne : ∀ b, b ≠ qa → upd H1 qa (.lst (vs.eraseIdx j)) b = H1 b := fun b hb => upd_ne hb
                have on := own_of_kids (k := .lst) (A := fun b => b = qa) (a := qa) (vs := vs.eraseIdx j) (H := upd H1 qa (.lst (vs.eraseIdx j))) (G := G1) (K := X.K) ⟨upd_same, fun b => Iff.rfl⟩ (fun b hb => gA b ((hA b).mpr hb)) (l'.step (fun _ _ z => z) fun b hb => ⟨hne b (neq b ((dm' b).mp hb).1), (l'.there hb).2⟩) (fun b hb => by
                  cases z : τ' b with
                  | none => rfl
                  | some m => exact absurd hb (neq b ((dm' b).mp ⟨m, z⟩).1))
                have hi : i < env1.length := (List.getElem?_eq_some_iff.mp ht1).1
                have inS : ∀ b, (b = qa ∨ dom τ b) → ω1 b = some i := fun b hb => (sS b).mpr (hb.imp (hA b).mpr id)
                have hGq : G1 qa = none := gA qa ((hA qa).mpr rfl)
                have subN : Same G1 (upd H1 qa (.lst (vs.eraseIdx j))) := fun b ob eb => by
                  rw [hne b (ne_of_none eb hGq)]
                  exact r1.sub b ob eb
                -- the item's tree no longer belongs to the slot
                obtain ⟨ω2, r2, sub2⟩ := r1.mut hi hv on (fun b z => .inl (inS b (z.imp id fun w => ((dm' b).mp w).1))) (fun b z1 z2 => hne b fun z => z2 (inS b (.inl z))) subN
                refine ⟨qa, vs, k, j, vs[j], rfl, rfl, n.1, ?_, ?_, by rw [l.len]; exact z1, List.getElem?_eq_getElem hjv, ?_⟩
                · omega
                · omega
                · have s2 : Step G1 H1 (dom ω1) G1 (upd H1 qa (.lst (vs.eraseIdx j))) := ⟨fun _ _ z => z, fun b ob nd eb => ⟨by rw [hne b (fun z => nd ⟨i, inS b (.inl z)⟩)]; exact eb, fun z => z⟩⟩
                  have jq : ∀ b, τ b = some j → b ≠ qa := fun b hb => neq b ⟨j, hb⟩
                  refine g _ G1 _ ω2 (fun b => τ b = some j) (s1.trans s2 (dom_new n1)) r2 (oj.step (fun _ _ z => z) fun b hb => ⟨hne b (jq b hb), (oj.there b hb).2⟩) (fun b hb => ?_) (fun b hb => ?_) fun z => by cases z
                  · cases z : ω2 b with
                    | none => rfl
                    | some m =>
                      rcases sub2 b ⟨m, z⟩ with w | w
                      · rcases w with w | w
                        · exact absurd w (jq b hb)
                        · exact absurd hb ((dm' b).mp w).2
                      · exact absurd (inS b (.inr ⟨j, hb⟩)) w.2
                  · rcases hb with hb | hb
                    · rcases sub2 b hb with w | w
                      · exact n1 b (.inl ⟨i, inS b (w.imp id fun y => ((dm' b).mp y).1)⟩)
                      · exact n1 b (.inl w.1)
                    · exact n1 b (.inl ⟨i, inS b (.inr ⟨j, hb⟩)⟩)
              · exact g.elim
            · exact g.elim
          · exact g.elim
        · exact g.elim
  · exact g.elim
end
end VR

/-! VR14: extend; d.setdefault(k, []).append(e). -/
namespace VR
open PySem PySem.Spec PyProof.Rows L2
/-! ### x.extend(e) -/
def extT (ts : List T) : T → Option (List T)
  | .node .lst us => some (ts ++ us)
  | .dat (.list ds) => some (ts ++ ds.map T.dat)
  | _ => none
def evExt (i : Nat) (ev : Ev) : Ev := fun env => match env[i]? with
  | some (some (.node .lst _)) => (ev env).bind fun y env1 => (match env1[i]? with
    | some (some (.node .lst ts)) => (match extT ts y with
      | some ts' => if ts'.length ≤ sizeLine then .ok (.dat .none) (env1.set i (some (.node .lst ts'))) else .fail
      | none => .fail)
    | _ => .fail)
  | _ => .fail
section
variable {X : Cx} {W : WX} {p pa : Bool} {e a b o : Expr} {ea ev : Ev} {pos apos cpos : Pos}
/-- list.extend, whatever else the other list has -/
theorem ext_two (l b : Addr) (items items2 : Array Value) (n n2 : Nat) (dd2 : Option Addr) (sl2 : Array (Option Value)) (hc0 : ¬(!items.isEmpty && Builtin.List.listTooLong (items.size + items2.size)) = true) (hc1 : items.size ≤ sizeLine) (hs2 : items.size + items2.size ≤ sizeLine + 1) :
    Meets (Builtin.«list.extend» ⟨[.ref l, .ref b], []⟩) (fun _ R s => s.heap.get? l = some { cls := .type "list", dict := none, data := .seq items n, slots := #[] } ∧ s.heap.get? b = some { cls := .type "list", dict := dd2, data := .seq items2 n2, slots := sl2 } ∧ R (.ok (.ret Value.none)) { s with heap := s.heap.update l (Obj.mapSeq fun x => x ++ items2), toks := s.toks }) :=
  .of_wp fun prog w A R s h => by
    obtain ⟨hp, g, d, tk, os⟩ := s
    obtain ⟨hl, hb, h⟩ := h
    have f1 := AutoSeq1.idx_int
    have f2 := AutoSeq1.sub_tuple_tuple
    have f3 := AutoSeq1.sub_list_list
    have f4 := AutoSeq1.sub_tuple_list
    have f5 := AutoSeq1.sub_list_tuple
    have hz' : (items ++ items2).size ≤ sizeLine + 1 := by rw [Array.size_append]; exact hs2
    wp_walk using (wpAny_updateSeq hl rfl (hz := hc1) (_hz' := hz')), wpAny_loadPart' hl, wpAny_loadPart' hb
    exact ⟨_, rfl, h⟩
theorem mt_extendR : MtM X "list.extend" (fun x vs H Q => ∃ l b xs zs, x = .ref l ∧ vs = [.ref b] ∧ H l = some (.lst xs) ∧ SqL X.K H b zs ∧ xs.length + zs.length ≤ sizeLine ∧ Q .non (upd H l (.lst (xs ++ zs)))) := by
  intro pins s σ H x vs v us Q I rx rv h
  obtain ⟨l, b, xs, zs, rfl, rfl, hH, hB, hz, q⟩ := h
  cases rx
  obtain ⟨u, rfl, ru⟩ := rv.one
  cases ru
  obtain ⟨z, its, n, r, hl, e⟩ := I.lstM hH
  obtain ⟨its2, r2, pl2, z2⟩ := I.list hB
  obtain ⟨⟨cls2, dd2, dat2, sl2⟩, ho2, hc2, n2, hd2⟩ := pl2.isList
  simp only at hc2 hd2
  subst hc2 hd2
  have hl2 := r2.length
  have hsz : its.toArray.size + its2.toArray.size ≤ sizeLine := by rw [List.size_toArray, List.size_toArray]; omega
  have hlong : ¬ (!its.toArray.isEmpty && Builtin.List.listTooLong (its.toArray.size + its2.toArray.size)) = true := by
    rw [notLongL hsz, Bool.and_false]
    exact Bool.false_ne_true
  refine call_meets PySem.F.slot_list_extend ⟨_, e, rfl⟩ PySem.F.entry_list_extend (PySem.F.args_list_extend_2 _ _)
    (ext_two l b its.toArray its2.toArray n n2 dd2 sl2 hlong (by rw [List.size_toArray]; omega) (by omega)) ⟨e, ho2, ?_⟩
  refine ⟨.non, _, I.lset (its' := its ++ its2) hH e (by simp) (r.append r2) ?_, rfl, q⟩
  rw [List.length_append]
  omega
/-- a row of frozen items -/
theorem ownL_dat {K : PySem.W.Frag} {G H : Hp} {vs : List V} {ds : List PyData} (h : DqAll K G vs ds) : OwnL K G H vs (ds.map T.dat) (fun _ => none) := by
  refine ⟨by rw [List.length_map]; exact dpAll_len h, fun i v t h1 h2 => ?_, fun b i z => by cases z⟩
  rw [List.getElem?_map, Option.map_eq_some_iff] at h2
  obtain ⟨d, e, rfl⟩ := h2
  obtain ⟨d', e1, e2⟩ := dpAll_at h h1
  rw [e] at e1
  cases e1
  exact .dat e2 fun _ z => by cases z
theorem ext_row {K : PySem.W.Frag} {G H : Hp} {ω : Own3} {x : V} {y : T} {ts ts' : List T} {S : Addr → Prop} (sg : Same G H) (o : Own K G H x y S) (e : extT ts y = some ts') : ∃ b zs us τ2, x = .ref b ∧ SqL K H b zs ∧ ts' = ts ++ us ∧ OwnL K G H zs us τ2 ∧ ∀ c, dom τ2 c → S c := by
  unfold extT at e
  split at e
  · cases e
    obtain ⟨qa, hqa⟩ : ∃ qa, x = .ref qa := by
      cases o with
      | node n _ _ _ _ _ => exact ⟨_, rfl⟩
    subst hqa
    obtain ⟨vs, A, τ, n, _, l, _, sS⟩ := own_kids o
    exact ⟨qa, vs, _, τ, rfl, SqL.of n.1, rfl, l, fun c hc => (sS c).mpr (.inr hc)⟩
  · cases e
    cases o with
    | dat h _ =>
      cases h with
      | lst z1 z2 => exact ⟨_, _, _, _, rfl, same_sqL sg z1, rfl, ownL_dat z2, fun c ⟨_, z⟩ => by cases z⟩
  · cases e
theorem de_ext {i : Nat} (ho : PE X o (tVar i)) (h : DE X W p a ea) (hs : noStar a = true) (hbase : attributeBase o "extend" X.env (eval o X.env) = eval o X.env) (hline : (apos.endLine == cpos.line) = true) : DE X W false (.Call (.Attribute o "extend" apos) [a] [] cpos) (evExt i ea) := by
  obtain ⟨t, h1, h2⟩ := h
  have hst : starEach [a] X.env = (false, eval a X.env) :: starEach [] X.env := star_cons hs
  refine ⟨_, pe_bm PySem.F.plainAttrs_list PySem.F.slot_list_extend PySem.F.type_list_extend mt_extendR ho (pa_cons h1 pa_nil hst) hbase (by rw [hst]; rfl) hline hst rfl, fun G H σ env ω Q r g => ?_⟩
  unfold evExt at g
  split at g
  · rename_i ts0 ht0
    obtain ⟨v, hv, o0⟩ := r.own i _ ht0
    have hv0 := o0.vw
    refine ⟨v, hv, ?_, ?_⟩
    · cases hv0 with
      | node n _ _ => exact .inl ⟨rfl, _, SqL.of n.1⟩
    · refine h2 G H σ env ω _ r ?_
      cases q : ea env with
      | exc c env1 =>
        rw [q] at g
        exact g
      | fail =>
        rw [q] at g
        exact g
      | ok y env1 =>
        rw [q] at g
        intro x G1 H1 ω1 S s1 r1 o1 d1 n1 k1
        simp only [R.bind] at g
        split at g
        · rename_i ts ht1
          split at g
          · rename_i ts' hext
            split at g
            · rename_i hz
              obtain ⟨v', hv', o2⟩ := r1.own i _ ht1
              rw [hv] at hv'
              cases hv'
              obtain ⟨qa, hqa⟩ : ∃ qa, v = .ref qa := by
                cases o2 with
                | node n _ _ _ _ _ => exact ⟨_, rfl⟩
              subst hqa
              obtain ⟨vs, A, τ, n, gA, l, nA, sS⟩ := own_kids o2
              have hA : ∀ b, A b ↔ b = qa := n.2
              obtain ⟨bb, zs, us, τ2, rfl, rd, rfl, l2, dm2⟩ := ext_row (ω := ω1) r1.sub o1 hext
              have inS : ∀ b, (b = qa ∨ dom τ b) → ω1 b = some i := fun b hb => (sS b).mpr (hb.imp (hA b).mpr id)
              have dS : ∀ b, S b → ω1 b ≠ some i := fun b hb z => by
                rw [d1 b hb] at z
                cases z
              obtain ⟨τ3, l3, dm3⟩ := l.app l2 fun b hb => by
                cases z : τ b with
                | none => rfl
                | some m => exact absurd (inS b (.inr ⟨m, z⟩)) (dS b (dm2 b hb))
              have neq : ∀ b, dom τ3 b → b ≠ qa := fun b hb z => by
                rcases (dm3 b).mp hb with ⟨m, w⟩ | w
                · rw [nA b ((hA b).mpr z)] at w
                  cases w
                · exact dS b (dm2 b w) (inS b (.inl z))
              have hne : ∀ b, b ≠ qa → upd H1 qa (.lst (vs ++ zs)) b = H1 b := fun b hb => upd_ne hb
              have on := own_of_kids (k := .lst) (A := fun b => b = qa) (a := qa) (vs := vs ++ zs) (H := upd H1 qa (.lst (vs ++ zs))) (G := G1) (K := X.K) ⟨upd_same, fun b => Iff.rfl⟩ (fun b hb => gA b ((hA b).mpr hb)) (l3.step (fun _ _ z => z) fun b hb => ⟨hne b (neq b hb), (l3.there hb).2⟩) (fun b hb => by
                cases z : τ3 b with
                | none => rfl
                | some m => exact absurd hb (neq b ⟨m, z⟩))
              have hi : i < env1.length := (List.getElem?_eq_some_iff.mp ht1).1
              have hGq : G1 qa = none := gA qa ((hA qa).mpr rfl)
              have subN : Same G1 (upd H1 qa (.lst (vs ++ zs))) := fun b ob eb => by
                rw [hne b (ne_of_none eb hGq)]
                exact r1.sub b ob eb
              obtain ⟨ω2, r2, sub2⟩ := r1.mut hi hv on (fun b z => by
                rcases z with z | z
                · exact .inl (inS b (.inl z))
                · rcases (dm3 b).mp z with w | w
                  · exact .inl (inS b (.inr w))
                  · exact .inr (d1 b (dm2 b w))) (fun b z1 z2 => hne b fun z => z2 (inS b (.inl z))) subN
              refine ⟨qa, bb, vs, zs, rfl, rfl, n.1, rd, ?_, ?_⟩
              · rw [l.len, l2.len, ← List.length_append]
                exact hz
              · have s2 : Step G1 H1 (dom ω1) G1 (upd H1 qa (.lst (vs ++ zs))) := ⟨fun _ _ z => z, fun b ob nd eb => ⟨by rw [hne b (fun z => nd ⟨i, inS b (.inl z)⟩)]; exact eb, fun z => z⟩⟩
                refine good_dat g (s1.trans s2 (dom_new n1)) r2 (fun b hb => ?_) (fun z => by cases z) .non
                rcases sub2 b hb with w | w
                · rcases w with w | w
                  · exact n1 b (.inl ⟨i, inS b (.inl w)⟩)
                  · rcases (dm3 b).mp w with y | y
                    · exact n1 b (.inl ⟨i, inS b (.inr y)⟩)
                    · exact n1 b (.inr (dm2 b y))
                · exact n1 b (.inl w.1)
            · exact g.elim
          · exact g.elim
        · exact g.elim
  · exact g.elim
end
/-! ### a part of a row changed where it stands -/
open Classical in
theorem OwnL.focus {K : PySem.W.Frag} {G H H2 : Hp} {vs : List V} {ts : List T} {τ : Own3} {j : Nat} {v : V} {t2 : T} {S2 : Addr → Prop} (l : OwnL K G H vs ts τ) (hj : j < ts.length) (hv : vs[j]? = some v) (o : Own K G H2 v t2 S2) (hS : ∀ b, S2 b → τ b = some j ∨ τ b = none) (hH : ∀ b, dom τ b → τ b ≠ some j → H2 b = H b) :
    ∃ τ' : Own3, OwnL K G H2 vs (ts.set j t2) τ' ∧ ∀ b, dom τ' b → S2 b ∨ (dom τ b ∧ τ b ≠ some j) := by
  refine ⟨fun b => if S2 b then some j else if τ b = some j then none else τ b, ⟨by rw [List.length_set]; exact l.len, fun i x y hx hy => ?_, fun b i h => ?_⟩, fun b ⟨i, hi⟩ => ?_⟩
  · by_cases hij : i = j
    · subst hij
      rw [List.getElem?_set_self hj] at hy
      cases hy
      rw [hv] at hx
      cases hx
      refine o.congr fun b => ?_
      show (if S2 b then some i else if τ b = some i then none else τ b) = some i ↔ S2 b
      by_cases hs : S2 b
      · rw [if_pos hs]
        exact ⟨fun _ => hs, fun _ => rfl⟩
      · rw [if_neg hs]
        refine ⟨fun z => ?_, fun z => absurd z hs⟩
        split at z
        · cases z
        · rename_i y
          exact absurd z y
    · rw [List.getElem?_set_ne (Ne.symm hij)] at hy
      have oc := l.own i x y hx hy
      refine (oc.step (fun _ _ z => z) fun b hb => ⟨hH b ⟨i, hb⟩ (fun z => hij (Option.some.inj (hb.symm.trans z))), (oc.there b hb).2⟩).congr fun b => ?_
      show (if S2 b then some j else if τ b = some j then none else τ b) = some i ↔ τ b = some i
      by_cases hs : S2 b
      · rw [if_pos hs]
        refine ⟨fun z => absurd (Option.some.inj z).symm hij, fun z => ?_⟩
        rcases hS b hs with w | w
        · rw [w] at z
          exact absurd (Option.some.inj z).symm hij
        · rw [w] at z
          cases z
      · rw [if_neg hs]
        split
        · rename_i y
          rw [y]
          exact ⟨fun z => (by cases z), fun z => absurd (Option.some.inj z).symm hij⟩
        · exact Iff.rfl
  · have h' : (if S2 b then some j else if τ b = some j then none else τ b) = some i := h
    rw [List.length_set]
    by_cases hs : S2 b
    · rw [if_pos hs] at h'
      cases h'
      exact hj
    · rw [if_neg hs] at h'
      split at h'
      · cases h'
      · exact l.lim b i h'
  · have h' : (if S2 b then some j else if τ b = some j then none else τ b) = some i := hi
    by_cases hs : S2 b
    · exact .inl hs
    · rw [if_neg hs] at h'
      split at h'
      · cases h'
      · rename_i y
        exact .inr ⟨⟨i, h'⟩, y⟩
/-! ### d.setdefault(k, []).append(e) -/
def evSda (i : Nat) (ek ev : Ev) : Ev := fun env => match env[i]? with
  | some (some (.node (.dct _ false _) _)) => (ek env).bind fun kt env1 => (match env1[i]?, kt.frz.bind DK.of with
    | some (some (.node (.dct ks false false) ts)), some (.inl k) => if ts.length < 1000000 then (match ixK ks (.inl k) with
        | some j => (match ts[j]? with
          | some (.node .lst us) => (ev (env1.set i none)).bind fun y env2 => if us.length < sizeLine ∧ i < env2.length then .ok (.dat .none) (env2.set i (some (.node (.dct ks false false) (ts.set j (.node .lst (us ++ [y])))))) else .fail
          | _ => .fail)
        | none => (ev (env1.set i none)).bind fun y env2 => if i < env2.length then .ok (.dat .none) (env2.set i (some (.node (.dct (ks ++ [.inl k]) false false) (ts ++ [.node .lst [y]])))) else .fail) else .fail
    | _, _ => .fail)
  | _ => .fail
theorem valV_ix {κ : Type} [DecidableEq κ] {f : κ → DK} (hf : ∀ x y, f x = f y → x = y) (k : κ) (kvs : List (κ × V)) : (ixK (kvs.map fun q => f q.1) (f k)).bind (fun i => (kvs.map (·.2))[i]?) = valV kvs k := findIdx_val hf k kvs
section
variable {X : Cx} {W : WX} {p pk : Bool} {e a b o : Expr} {ea ek ev : Ev} {pos apos cpos apos2 cpos2 lpos : Pos}
/-- the tail: the inner list stands at u, the j-th part of the dict's tree, which is ours meanwhile -/
theorem sda_tail {te : TE} (he : ∀ G H σ env ω (Q : VK), Rep X.K G H σ env ω → GoodE X W p G H σ ω Q (ev env) → te σ H Q)
    {G H G1 H3 : Hp} {σ : L2.St} {ω ω3 : Own3} {env3 : Envt} {i j : Nat} {aa : Addr} {ks : List DK} {ts : List T} {us : List T} {S : Addr → Prop} {u : V} {Q : VK} (s3 : Step G H (dom ω) G1 H3) (r3 : Rep X.K G1 H3 σ env3 ω3) (n3 : New H (dom ω) fun b => dom ω3 b ∨ S b) (hv : σ[i]? = some (some (.ref aa)))
    (ot : Own X.K G1 H3 (.ref aa) (.node (.dct ks false false) ts) S) (dt : ∀ b, S b → ω3 b = none) (hu : ∃ vs A, NodeAt X.K H3 aa (.dct ks false false) vs A ∧ vs[j]? = some u) (hts : ts[j]? = some (.node .lst us))
    (g : GoodE X W false G H σ ω Q ((ev env3).bind fun y env2 => if us.length < sizeLine ∧ i < env2.length then .ok (.dat .none) (env2.set i (some (.node (.dct ks false false) (ts.set j (.node .lst (us ++ [y])))))) else .fail)) :
    tyV X.K "list" u H3 ∧ (tCons te tNil) σ H3 fun xs H4 => rAppend u xs H4 Q := by
  have hj : j < ts.length := (List.getElem?_eq_some_iff.mp hts).1
  -- the inner list's place
  have place : ∀ {G' H' : Hp}, Own X.K G' H' (.ref aa) (.node (.dct ks false false) ts) S → (∃ vs A, NodeAt X.K H' aa (.dct ks false false) vs A ∧ vs[j]? = some u) → ∃ vs A τ, NodeAt X.K H' aa (.dct ks false false) vs A ∧ (∀ b, A b → G' b = none) ∧ OwnL X.K G' H' vs ts τ ∧ (∀ b, A b → τ b = none) ∧ (∀ b, S b ↔ A b ∨ dom τ b) ∧ vs[j]? = some u ∧ ∀ b, A b ↔ b = aa := by
    intro G' H' o' ⟨vs0, A0, n0, hu0⟩
    obtain ⟨vs, A, τ, n, gA, l, nA, sS⟩ := own_kids o'
    have ev : vs = vs0 := by
      rcases n.2.1 with ⟨_, kvs, e1, e2, c⟩ | ⟨z, _⟩
      · rcases n0.2.1 with ⟨_, kvs0, e1', e2', c'⟩ | ⟨z, _⟩
        · have c1 : H' aa = some (.dK kvs) := c
          have c2 : H' aa = some (.dK kvs0) := c'
          rw [c1] at c2
          cases c2
          rw [← e2, ← e2']
        · cases z
      · cases z
    subst ev
    exact ⟨vs, A, τ, n, gA, l, nA, sS, hu0, n.2.2⟩
  obtain ⟨vs, A, τ, n, gA, l, nA, sS, hu1, hA⟩ := place ot hu
  have oj := l.own j u _ hu1 hts
  obtain ⟨qa, hqa⟩ : ∃ qa, u = .ref qa := by
    cases oj with
    | node n _ _ _ _ _ => exact ⟨_, rfl⟩
  subst hqa
  refine ⟨?_, ?_⟩
  · cases oj with
    | node n _ _ _ _ _ => exact .inl ⟨rfl, _, SqL.of n.1⟩
  · refine he G1 H3 σ env3 ω3 _ r3 ?_
    cases q : ev env3 with
    | exc c env2 =>
      rw [q] at g
      exact goodX_step s3 (dom_new n3) g
    | fail =>
      rw [q] at g
      exact g
    | ok y env2 =>
      rw [q] at g
      intro x G4 H4 ω4 S4 s4 r4 o4 d4 n4 k4
      simp only [R.bind] at g
      split at g
      · rename_i hz
        obtain ⟨ot4, nt4⟩ := ot.carry dt s4 n4
        have hH : ∀ b, S b → H4 b = H3 b := fun b hb => by
          obtain ⟨⟨ob, ho⟩, _⟩ := ot.there b hb
          obtain ⟨z, _⟩ := s4.frm b ob (fun ⟨m, w⟩ => by rw [dt b hb] at w; cases w) ho
          exact z.trans ho.symm
        obtain ⟨vs4, A4, τ4, m4, gA4, l4, nA4, sS4, hu4, hA4⟩ := place ot4 ⟨vs, A, nodeAt_step n fun b hb => hH b ((sS b).mpr (.inl hb)), hu1⟩
        have oj4 := l4.own j _ _ hu4 hts
        obtain ⟨zs, hq⟩ : ∃ zs, H4 qa = some (.lst zs) := by
          cases oj4 with
          | node n _ _ _ _ _ => exact ⟨_, n.1⟩
        have hlen : zs.length = us.length := by
          obtain ⟨vs', A', τ', n', _, l', _, _⟩ := own_kids oj4
          have := n'.1
          rw [hq] at this
          cases this
          exact l'.len
        have hqτ : τ4 qa = some j := by
          obtain ⟨vs', A', τ', n', _, l', _, s'⟩ := own_kids oj4
          exact (s' qa).mpr (.inl (nodeAt_self n'))
        have apart : ∀ b, S4 b → ¬ S b := fun b hb hs => nt4 b hs (.inr hb)
        have on := own_snoc oj4 hq o4 fun b hb z => apart b hb ((sS4 b).mpr (.inr ⟨j, z⟩))
        have hne : ∀ b, b ≠ qa → upd H4 qa (.lst (zs ++ [x])) b = H4 b := fun b hb => upd_ne hb
        obtain ⟨τ5, l5, dm5⟩ := l4.focus (H2 := upd H4 qa (.lst (zs ++ [x]))) hj hu4 on (fun b z => by
          rcases z with z | z
          · exact .inl z
          · right
            cases w : τ4 b with
            | none => rfl
            | some m => exact absurd ((sS4 b).mpr (.inr ⟨m, w⟩)) (apart b z)) (fun b z1 z2 => hne b fun z => z2 (z ▸ hqτ))
        have naq : aa ≠ qa := fun z => by
          have := nA4 aa ((hA4 aa).mpr rfl)
          rw [z, hqτ] at this
          cases this
        have on5 := own_of_kids (k := .dct ks false false) (A := A4) (a := aa) (vs := vs4) (H := upd H4 qa (.lst (zs ++ [x]))) (G := G4) (K := X.K) (nodeAt_step m4 fun b hb => hne b (by rw [(hA4 b).mp hb]; exact naq)) gA4 l5 (fun b hb => by
          cases z : τ5 b with
          | none => rfl
          | some m =>
            rcases dm5 b ⟨m, z⟩ with w | w
            · rcases w with w | w
              · rw [nA4 b hb] at w
                cases w
              · exact absurd ((sS4 b).mpr (.inl hb)) (apart b w)
            · obtain ⟨⟨m', w1⟩, _⟩ := w
              rw [nA4 b hb] at w1
              cases w1)
        have hGq : G4 qa = none := (oj4.there qa hqτ).2
        have subN : Same G4 (upd H4 qa (.lst (zs ++ [x]))) := fun b ob eb => by
          rw [hne b (ne_of_none eb hGq)]
          exact r4.sub b ob eb
        have total : ∀ b, (A4 b ∨ dom τ5 b) → S b ∨ S4 b := fun b hb => by
          rcases hb with hb | hb
          · exact .inl ((sS4 b).mpr (.inl hb))
          · rcases dm5 b hb with w | w
            · rcases w with w | w
              · exact .inl ((sS4 b).mpr (.inr ⟨j, w⟩))
              · exact .inr w
            · exact .inl ((sS4 b).mpr (.inr w.1))
        have none4 : ∀ b, S b → ω4 b = none := fun b hb => by
          cases w : ω4 b with
          | none => rfl
          | some m => exact absurd (Or.inl ⟨m, w⟩) (nt4 b hb)
        have hqS : S qa := (sS4 qa).mpr (.inr ⟨j, hqτ⟩)
        obtain ⟨ω5, r5, sub5⟩ := r4.mut hz.2 hv on5 (fun b z => .inr ((total b z).elim (none4 b) (d4 b))) (fun b z1 _ => hne b fun z => by
          obtain ⟨m, w⟩ := z1
          rw [z, none4 qa hqS] at w
          cases w) subN
        refine ⟨qa, zs, x, rfl, rfl, hq, by rw [hlen]; exact hz.1, ?_⟩
        have s34 := s3.trans s4 (dom_new n3)
        have s5 : Step G H (dom ω) G4 (upd H4 qa (.lst (zs ++ [x]))) := by
          refine ⟨s34.ext, fun b ob nd eb => ?_⟩
          obtain ⟨z1, z2⟩ := s34.frm b ob nd eb
          refine ⟨?_, z2⟩
          rw [hne b]
          · exact z1
          · intro z
            rcases n3 b (.inr (z ▸ hqS)) with w | w
            · exact nd w
            · rw [eb] at w
              cases w
        refine good_dat g s5 r5 (fun b hb => ?_) (fun z => by cases z) .non
        rcases sub5 b hb with w | w
        · rcases total b w with y | y
          · exact n3 b (.inr y)
          · exact New.trans s3 (dom_new n3) n4 b (.inr y)
        · exact New.trans s3 (dom_new n3) n4 b (.inl w.1)
      · exact g.elim
end
end VR

/-! VS0: sets of numbers, of texts, of nested tuples of such. -/
namespace VR
open PySem PySem.Spec PyProof.Rows L2
def kN : Key → NestedKey
  | .inl i => .num i
  | .inr x => .text x
theorem kN_hash (P : Program) (w : World) (k : Key) : (kN k).hash w = (mixKind P w).hash k := by
  cases k <;> rfl
theorem kN_inj {a b : Key} (h : kN a = kN b) : a = b := by
  cases a <;> cases b <;> simp [kN] at h <;> rw [h]
/-- one that a set may hold: sc, a number or a text; else a tuple -/
structure Elm (P : Program) (w : World) (h : Heap) (sc : Bool) (p : Value × NestedKey) : Prop where
  is : NestedIs h p.2 p.1
  dp : p.2.depth ≤ 8
  knd : if sc = true then ∃ k : Key, (mixKind P w).is k p.1 = true ∧ p.2 = kN k ∧ p.1.scannable = true else ∃ b, p.1 = .ref b
abbrev EL := List (Value × NestedKey)
abbrev eRows (w : World) (L : EL) : List (Int × Value) := L.map fun p => (p.2.hash w, p.1)
/-- the set at a -/
structure SG (P : Program) (w : World) (h : Heap) (a : Addr) (sc : Bool) (L : EL) (es : Array (Int × Value)) (ep : Nat) (t : SetTable) : Prop where
  ob : ∃ o, h.get? a = some o ∧ o.ExactSet ∧ o.data = .set es ep t
  rows : es.toList = eRows w L
  nd : (L.map (·.2)).Nodup
  el : ∀ p ∈ L, Elm P w h sc p
  led : w.params.followText "set-order" = true ∨ t.led = true
  ris : Ris t.place.toList
  fit : t.fits es.size = true
  few : L.length < scanBound
  tab : sc = false → TabOk t (L.map fun p => p.2.hash w) ∧ L.length * 5 < t.mask * 3 ∧ L.length < 64
theorem Elm.at {P : Program} {w : World} {h h' : Heap} {sc : Bool} {p : Value × NestedKey} (x : Elm P w h sc p) (hk : ∀ a o vs n, h.get? a = some o → o.data = .seq vs n → h'.get? a = some o) : Elm P w h' sc p := ⟨NestedIs.at hk _ _ x.is, x.dp, x.knd⟩
/-- a set that is changed is no tuple -/
theorem Elm.but {P : Program} {w : World} {h h' : Heap} {sc : Bool} {p : Value × NestedKey} {a : Addr} {o : Obj} {es : Array (Int × Value)} {ep : Nat} {t : SetTable} (x : Elm P w h sc p) (ho : h.get? a = some o) (hd : o.data = .set es ep t) (hs : Heap.SameBut a h h') : Elm P w h' sc p :=
  x.at fun b ob vs n hb hc => by
    refine (hs.2 b fun e => ?_).trans hb
    rw [e, ho] at hb
    cases hb
    rw [hd] at hc
    cases hc
theorem erows_len {w : World} {L : EL} {es : Array (Int × Value)} (h : es.toList = eRows w L) : es.size = L.length := by
  rw [← Array.length_toList, h, List.length_map]
section
variable {P : Program} {w : World} {A : Around} {E : Value → Shared → Prop} {s : Shared}
/-! ### small questions -/
mutual
theorem hashBy_key : ∀ (k : NestedKey) (v : Value) (n : Nat) (Q : Bool → Shared → Prop), NestedIs s.heap k v → (∀ r, Q r s) → wpAny (model P w) A (hashByValue n v) Q E s
  | .none, _, n, Q, x, h => by
    cases x
    cases n <;> exact wpAny_pure (h _)
  | .num i, _, n, Q, x, h => by
    cases x <;> cases n <;> exact wpAny_pure (h _)
  | .text i, _, n, Q, x, h => by
    cases x
    cases n <;> exact wpAny_pure (h _)
  | .tup ks, _, 0, Q, x, h => by
    cases x
    exact wpAny_pure (h _)
  | .tup ks, _, n + 1, Q, x, h => by
    cases x with
    | @tup a o vs m _ ho hc hd hk =>
      unfold hashByValue
      refine wpAny_bind (wpAny_specialOf ⟨o, ho, hc⟩ F.slot_tuple_hash.lookup ?_)
      show wpAny _ _ (seqItems? (.ref a) >>= _) _ _ s
      refine wpAny_bind (wpAny_seqItems ho hd ?_)
      refine wpAny_bind ?_
      show wpAny _ _ (forIn vs _ _) _ _ s
      rw [← Array.forIn_toList]
      refine hashBy_keys ks vs.toList n _ _ hk (fun r => ?_)
      rcases r with ⟨_ | b, u⟩
      · exact wpAny_pure (h _)
      · exact wpAny_pure (h _)
theorem hashBy_keys : ∀ (ks : List NestedKey) (vs : List Value) (n : Nat) (b : Option Bool × Unit) (Q : Option Bool × Unit → Shared → Prop), NestedAll s.heap ks vs → (∀ r, Q r s) →
    wpAny (model P w) A (forIn vs b fun x r => do
      let y ← hashByValue n x
      if (!y) = true then pure (ForInStep.done (some false, ())) else pure (ForInStep.yield (none, ()))) Q E s
  | [], _, n, b, Q, x, h => by
    cases x
    exact wpAny_pure (h b)
  | k :: ks, _, n, b, Q, x, h => by
    cases x with
    | cons x1 x2 =>
      rw [List.forIn_cons]
      refine wpAny_bind (wpAny_bind (hashBy_key k _ n _ x1 fun r => ?_))
      cases r
      · exact wpAny_pure (wpAny_pure (h _))
      · exact wpAny_pure (hashBy_keys ks _ n _ _ x2 h)
end
mutual
theorem ofCls_key : ∀ (k : NestedKey) (v : Value) (n : Nat) (Q : Bool → Shared → Prop), NestedIs s.heap k v → k.depth ≤ n → Q false s → wpAny (model P w) A (ofAClassStatement n v) Q E s
  | .none, _, n, Q, x, _, h => by
    cases x
    cases n <;> exact wpAny_pure h
  | .num i, _, n, Q, x, _, h => by
    cases x <;> cases n <;> exact wpAny_pure h
  | .text i, _, n, Q, x, _, h => by
    cases x
    cases n <;> exact wpAny_pure h
  | .tup ks, _, 0, Q, x, hn, h => by
    simp [NestedKey.depth] at hn
  | .tup ks, _, n + 1, Q, x, hn, h => by
    cases x with
    | @tup a o vs m _ ho hc hd hk =>
      unfold ofAClassStatement
      refine wpAny_bind (wpAny_typeOf (T := "tuple") ⟨o, ho, hc⟩ ?_)
      dsimp only
      have e : (("tuple" : String) == "tuple") = true := by decide
      simp only [e, if_true]
      refine wpAny_bind (wpAny_pure ?_)
      simp only [Bool.not_true, Bool.false_eq_true, if_false]
      show wpAny _ _ (seqItems? (.ref a) >>= _) _ _ s
      refine wpAny_bind (wpAny_seqItems ho hd ?_)
      dsimp only
      refine wpAny_bind ?_
      show wpAny _ _ (forIn vs _ _) _ _ s
      rw [← Array.forIn_toList]
      refine ofCls_keys ks vs.toList n _ _ hk (by simp only [NestedKey.depth] at hn; omega) rfl fun r hr => ?_
      obtain ⟨r1, r2⟩ := r
      simp only at hr
      subst hr
      exact wpAny_pure h
theorem ofCls_keys : ∀ (ks : List NestedKey) (vs : List Value) (n : Nat) (b : Option Bool × Unit) (Q : Option Bool × Unit → Shared → Prop), NestedAll s.heap ks vs → NestedKey.depthAll ks ≤ n → b.1 = none → (∀ r, r.1 = none → Q r s) →
    wpAny (model P w) A (forIn vs b fun x r => do
      let y ← ofAClassStatement n x
      if y = true then pure (ForInStep.done (some true, ())) else pure (ForInStep.yield (none, ()))) Q E s
  | [], _, n, b, Q, x, _, hb, h => by
    cases x
    exact wpAny_pure (h b hb)
  | k :: ks, _, n, b, Q, x, hn, hb, h => by
    cases x with
    | cons x1 x2 =>
      simp only [NestedKey.depthAll] at hn
      rw [List.forIn_cons]
      refine wpAny_bind (wpAny_bind (ofCls_key k _ n _ x1 (by omega) ?_))
      exact wpAny_pure (ofCls_keys ks _ n _ _ x2 (by omega) rfl h)
end
theorem wp_ite {α : Type} {M : Model} {c : Prop} [Decidable c] {x y : Sem α} {Q : α → Shared → Prop} (h1 : c → wpAny M A x Q E s) (h2 : ¬ c → wpAny M A y Q E s) : wpAny M A (if c then x else y) Q E s := by
  by_cases z : c
  · exact wp_if_pos z (h1 z)
  · exact wp_if_neg z (h2 z)
/-- a search among keys shows nothing -/
theorem unseen {k : NestedKey} {x : Value} {ys : List Value} {Q : Bool → Shared → Prop} (hk : NestedIs s.heap k x) (hd : k.depth ≤ 8) (hy : ∀ y ∈ ys, ∃ k', NestedIs s.heap k' y ∧ k'.depth ≤ 8) (h : Q false s) : wpAny (model P w) A (searchCouldBeSeen x ys) Q E s := by
  unfold searchCouldBeSeen
  refine wpAny_bind ?_
  refine wpAny_forIn_list _ (fun todo acc z => acc.1 = none ∧ z = s ∧ ∀ y ∈ todo, ∃ k', NestedIs s.heap k' y ∧ k'.depth ≤ 8) _ ?_ ?_ _ _ ⟨rfl, rfl, hy⟩
  · rintro v todo acc z ⟨e1, rfl, e3⟩
    obtain ⟨k', q1, q2⟩ := e3 v List.mem_cons_self
    have e4 : ∀ y ∈ todo, ∃ k', NestedIs z.heap k' y ∧ k'.depth ≤ 8 := fun y hy => e3 y (List.mem_cons_of_mem _ hy)
    dsimp only
    refine wp_ite (fun _ => wpAny_pure ⟨rfl, rfl, e4⟩) fun _ => ?_
    refine wpAny_bind (quiet_key k x 8 z hk hd A E _ ?_)
    simp only [Bool.not_true, Bool.false_eq_true, if_false]
    refine wpAny_bind (quiet_key k' v 8 z q1 q2 A E _ ?_)
    simp only [Bool.not_true, Bool.false_eq_true, if_false]
    refine wpAny_bind (ofCls_key k x 8 _ hk hd ?_)
    simp only [Bool.false_eq_true, if_false]
    refine wpAny_bind (ofCls_key k' v 8 _ q1 q2 ?_)
    simp only [Bool.false_eq_true, if_false]
    exact wpAny_pure ⟨rfl, rfl, e4⟩
  · rintro ⟨r1, r2⟩ z ⟨e1, rfl, _⟩
    simp only at e1
    subst e1
    exact wpAny_pure h
/-! ### the search -/
variable {a : Addr} {L : EL} {es : Array (Int × Value)} {ep : Nat} {t : SetTable} {sc : Bool}
theorem SG.entry (R : SG P w s.heap a sc L es ep t) {i : Nat} {p : Value × NestedKey} (h : L[i]? = some p) : es[i]? = some (p.2.hash w, p.1) := by
  rw [← Array.getElem?_toList, R.rows, List.getElem?_map, h]
  rfl
abbrev stepAt (m : Nat) (h : Int) (c : Nat) : SetTable.Probe := nth m (runAt m (SetTable.bits h % (m + 1)) (SetTable.bits h)) c
theorem stepAt_dummy (m : Nat) (h : Int) (c : Nat) : (stepAt m h c).dummy = none := by
  have key : ∀ (n : Nat) (p : SetTable.Probe), p.dummy = none → (nth m p n).dummy = none := by
    intro n
    induction n with
    | zero => exact fun p h => h
    | succ n ih =>
      intro p h
      refine ih (adv m p) ?_
      unfold adv
      split <;> exact h
  exact key c _ rfl
theorem stepAt_add (m : Nat) (h : Int) (c q : Nat) : nth m (stepAt m h c) q = stepAt m h (c + q) := (nth_add m c _ q).symm
theorem search_go (R : SG P w s.heap a false L es ep t) {x : Value} {k : NestedKey} (hx : Elm P w s.heap false (x, k)) (hu : A.units + 8 < cLine) {K : Nat} (hKf : K < 10 * SetTable.turns t.mask)
    (hK : way t.mask (k.hash w) K ∉ t.place.toList) (hKb : ∀ c, c < K → way t.mask (k.hash w) c ∈ t.place.toList) {Q : SetFound → Shared → Prop}
    (hin : k ∈ L.map (·.2) → Q (.there none) s) (hout : k ∉ L.map (·.2) → Q (.free (way t.mask (k.hash w) K) false) s) :
    ∀ (f c : Nat) (st : Option SetTable.Probe), st.getD (t.probeStart (k.hash w)) = stepAt t.mask (k.hash w) c → c ≤ K → K - c < f →
      (∀ (i : Nat) p, L[i]? = some p → p.2 = k → ∃ c', c ≤ c' ∧ c' < K ∧ t.place.toList[i]? = some (way t.mask (k.hash w) c')) →
      wpAny (model P w) A (setSearchFrom a x (k.hash w) true f st) Q E s := by
  obtain ⟨o, ho, hex, hd⟩ := R.ob
  obtain ⟨T, hroom, h64⟩ := R.tab rfl
  intro f
  induction f with
  | zero => exact fun c st _ _ hf => absurd hf (Nat.not_lt_zero _)
  | succ f ih =>
    intro c st hst hc hf hre
    have hgw : ¬ t.gaveWay = true := by
      unfold SetTable.gaveWay
      rw [mask_odd T.mok]
      decide
    have hsame : t.sameMemory t.moves t.mask = some true := sameMem t
    have ej : ∀ q, (nth t.mask (stepAt t.mask (k.hash w) c) q).j = way t.mask (k.hash w) (c + q) := fun q => congrArg SetTable.Probe.j (stepAt_add _ _ c q)
    have hh : ∀ (i : Nat) p, L[i]? = some p → (es[i]?.map (·.1)).getD 0 = p.2.hash w := fun i p hp => by rw [R.entry hp]; rfl
    rw [setSearchFrom_succ]
    refine wpAny_bind (wpAny_setState_of ho hd R.fit ?_)
    dsimp only
    refine wp_if_neg hgw ?_
    try refine wpAny_bind (wpAny_pure ?_)
    rcases go_spec t T.ris T.dm (fun i => (es[i]?.map (·.1)).getD 0) (k.hash w) (10 * SetTable.turns t.mask) (K - c) (stepAt t.mask (k.hash w) c) (stepAt_dummy _ _ _) (by omega)
      (fun q hq => by rw [ej]; exact hKb (c + q) (by omega)) (by rw [ej, show c + (K - c) = K by omega]; exact hK) with ⟨q, i, hq, hi, he, hno, hpr⟩ | ⟨hno, hpr⟩
    · rw [ej] at hi hpr
      rw [stepAt_add] at hpr
      have hpr2 : t.probe (fun i => (es[i]?.map (·.1)).getD 0) (k.hash w) (st.getD (t.probeStart (k.hash w))) = some (.candidate (way t.mask (k.hash w) (c + q)) i (stepAt t.mask (k.hash w) (c + (q + 1)))) := by
        rw [hst]
        exact hpr
      rw [hpr2]
      dsimp only
      have hil : i < L.length := by
        have q1 := (List.getElem?_eq_some_iff.mp hi).1
        have q2 := T.sz
        rw [List.length_map] at q2
        rw [Array.length_toList, q2] at q1
        exact q1
      have hp : L[i]? = some L[i] := List.getElem?_eq_getElem hil
      generalize L[i] = p at hp
      have hmem : p ∈ L := List.mem_of_getElem? hp
      have hpk := R.el p hmem
      have go : wpAny (model P w) A (searchRest a x (k.hash w) true f es t (way t.mask (k.hash w) (c + q)) i (stepAt t.mask (k.hash w) (c + (q + 1)))) Q E s := by
        unfold searchRest
        rw [R.entry hp]
        dsimp only
        refine wpAny_bind (wpAny_holding (eqAt_key p.2 k A s p.1 x hpk.is hx.is (by have := hpk.dp; omega) _ _ _ _ ?_))
        rw [← NestedKey.decide_eq]
        refine wpAny_bind (wpAny_setState_of ho hd R.fit ?_)
        dsimp only
        by_cases hkk : p.2 = k
        · refine wp_if_pos (by simp [hkk]) ?_
          exact wpAny_pure (hin (List.mem_map.mpr ⟨p, hmem, hkk⟩))
        · refine wp_if_neg (by simp [hkk]) ?_
          try refine wpAny_bind (wpAny_pure ?_)
          rw [hsame]
          dsimp only
          have hsl : t.slot (way t.mask (k.hash w) (c + q)) = .live i := slot_live T.ris hi
          simp only [if_true, hsl, R.entry hp]
          obtain ⟨b, hb⟩ : ∃ b, p.1 = Value.ref b := by simpa using hpk.knd
          rw [hb]
          refine wpAny_bind (wpAny_isSame_ref_self (wpAny_bind (wpAny_pure ?_)))
          simp only [if_true]
          refine wp_if_neg (by simp [hkk]) ?_
          refine ih (c + (q + 1)) _ rfl (by omega) (by omega) fun i0 p0 h0 hk0 => ?_
          obtain ⟨c', a1, a2, a3⟩ := hre i0 p0 h0 hk0
          refine ⟨c', ?_, a2, a3⟩
          rcases Nat.lt_trichotomy c' (c + q) with z | z | z
          · refine absurd ?_ (hno (c' - c) i0 (by omega) (by rw [ej, show c + (c' - c) = c' by omega]; exact a3))
            rw [hh i0 p0 h0, hk0]
          · rw [z] at a3
            have s0 := slot_live T.ris a3
            rw [hsl] at s0
            injection s0 with s0
            rw [← s0, hp] at h0
            injection h0 with h0
            rw [← h0] at hk0
            exact absurd hk0 hkk
          · omega
      by_cases hl : t.led = true
      · refine wp_if_neg (by simp [hl]) ?_
        try refine wpAny_bind (wpAny_pure ?_)
        exact go
      · refine wp_if_pos (by simp [hl]) ?_
        refine wpAny_bind (unseen hx.is hx.dp (fun y hy => ?_) ?_)
        · obtain ⟨e, he, ee⟩ := List.mem_map.mp hy
          have he2 : e ∈ es.toList := by
            have : e ∈ es ∧ e.1 = k.hash w := by simpa using he
            simpa using this.1
          rw [R.rows] at he2
          obtain ⟨p2, hp2, e2⟩ := List.mem_map.mp he2
          refine ⟨p2.2, ?_, (R.el p2 hp2).dp⟩
          rw [← ee, ← e2]
          exact (R.el p2 hp2).is
        · refine wp_if_neg (by decide) ?_
          try refine wpAny_bind (wpAny_pure ?_)
          exact go
    · rw [ej, show c + (K - c) = K by omega] at hpr
      have hpr2 : t.probe (fun i => (es[i]?.map (·.1)).getD 0) (k.hash w) (st.getD (t.probeStart (k.hash w))) = some (.empty (way t.mask (k.hash w) K) none) := by
        rw [hst]
        exact hpr
      rw [hpr2]
      dsimp only
      refine wpAny_pure (hout fun hm => ?_)
      obtain ⟨p0, h0, hk0⟩ := List.mem_map.mp hm
      obtain ⟨i0, hi0, e0⟩ := List.getElem_of_mem h0
      have h00 : L[i0]? = some p0 := by rw [List.getElem?_eq_getElem hi0, e0]
      obtain ⟨c', a1, a2, a3⟩ := hre i0 p0 h00 hk0
      refine hno (c' - c) i0 (by omega) (by rw [ej, show c + (c' - c) = c' by omega]; exact a3) ?_
      rw [hh i0 p0 h00, hk0]
theorem search_in (R : SG P w s.heap a false L es ep t) {x : Value} {k : NestedKey} (hx : Elm P w s.heap false (x, k)) (hu : A.units + 8 < cLine) {Q : SetFound → Shared → Prop}
    (hin : k ∈ L.map (·.2) → Q (.there none) s)
    (hout : ∀ K, k ∉ L.map (·.2) → way t.mask (k.hash w) K ∉ t.place.toList → (∀ c, c < K → way t.mask (k.hash w) c ∈ t.place.toList) → Q (.free (way t.mask (k.hash w) K) false) s) :
    wpAny (model P w) A (setSearch a x (k.hash w) true) Q E s := by
  obtain ⟨T, hroom, h64⟩ := R.tab rfl
  obtain ⟨K, hKf, hK, hKb⟩ := T.first (by rw [List.length_map]; omega) (k.hash w)
  have hbig : 10 * SetTable.turns t.mask ≤ 1420 := by
    unfold SetTable.turns
    rcases T.mok with e | e | e <;> omega
  unfold setSearch
  refine search_go R hx hu hKf hK hKb hin (fun hn => hout K hn hK hKb) 100000 0 none rfl (Nat.zero_le _) (by omega) fun i p hp hk => ?_
  have hi : (L.map fun p => p.2.hash w)[i]? = some (k.hash w) := by
    rw [List.getElem?_map, hp, ← hk]
    rfl
  have hil : i < t.place.toList.length := by
    have q1 := (List.getElem?_eq_some_iff.mp hp).1
    have q2 := T.sz
    rw [List.length_map] at q2
    rw [Array.length_toList]
    omega
  obtain ⟨c, q1, q2⟩ := T.before hK hi (List.getElem?_eq_getElem hil)
  exact ⟨c, Nat.zero_le _, q1, by rw [List.getElem?_eq_getElem hil, q2]⟩
end
end VR

/-! VS1: a set gets one more; set(xs). -/
namespace VR
open PySem PySem.Spec PyProof.Rows L2
section
variable {P : Program} {w : World} {A : Around} {E : Value → Shared → Prop} {s : Shared}
variable {a : Addr} {L : EL} {es : Array (Int × Value)} {ep : Nat} {t : SetTable} {sc : Bool}
/-- the entries in another order -/
theorem erows_order {w : World} (L : EL) (es : Array (Int × Value)) (order : Array Nat) (hr : es.toList = eRows w L) (hp : order.toList.Perm (List.range L.length)) :
    ∃ L2 : EL, (order.filterMap (es[·]?)).toList = eRows w L2 ∧ L2.Perm L ∧ (L2.map fun p => p.2.hash w) = order.toList.map fun i => (es.map (·.1)).getD i 0 := by
  have ent : ∀ i : Nat, es[i]? = (L[i]?).map fun (p : Value × NestedKey) => (p.2.hash w, p.1) := fun i => by rw [← Array.getElem?_toList, hr, List.getElem?_map]
  have hlt : ∀ i ∈ order.toList, i < L.length := fun i hi => List.mem_range.mp (hp.mem_iff.mp hi)
  have all : ∀ l : List Nat, (∀ i ∈ l, i < L.length) → l.filterMap (fun i => es[i]?) = eRows w (l.filterMap fun i => L[i]?) ∧ ((l.filterMap fun i => L[i]?).map fun p => p.2.hash w) = l.map fun i => (es.map (·.1)).getD i 0 := by
    intro l
    induction l with
    | nil => exact fun _ => ⟨rfl, rfl⟩
    | cons i l ih =>
      intro hl
      obtain ⟨e1, e2⟩ := ih fun j hj => hl j (List.mem_cons_of_mem _ hj)
      have hi0 := hl i List.mem_cons_self
      have hi : L[i]? = some (L[i]'hi0) := List.getElem?_eq_getElem hi0
      have he : es[i]? = some ((L[i]'hi0).2.hash w, (L[i]'hi0).1) := by rw [ent i, hi]; rfl
      rw [List.filterMap_cons_some he, List.filterMap_cons_some hi, e1]
      refine ⟨rfl, ?_⟩
      rw [List.map_cons, List.map_cons, e2]
      congr 1
      have e5 : (es.map (·.1))[i]? = some ((L[i]'hi0).2.hash w) := by rw [Array.getElem?_map, he]; rfl
      simp [Array.getD_eq_getD_getElem?, e5]
  obtain ⟨e1, e2⟩ := all order.toList hlt
  refine ⟨order.toList.filterMap fun i => L[i]?, ?_, ?_, e2⟩
  · rw [Array.toList_filterMap]
    exact e1
  · have q : (List.range L.length).filterMap (fun i => L[i]?) = L := by
      have take : ∀ n, n ≤ L.length → (List.range n).filterMap (fun i => L[i]?) = L.take n := by
        intro n
        induction n with
        | zero => exact fun _ => rfl
        | succ n ih =>
          intro hn
          have z : L[n]? = some L[n] := List.getElem?_eq_getElem hn
          rw [List.range_succ, List.filterMap_append, ih (by omega), List.take_succ, List.filterMap_cons_some z, z]
          rfl
      rw [take _ (Nat.le_refl _), List.take_length]
    have z := hp.filterMap fun i => L[i]?
    rw [q] at z
    exact z
theorem fits_mk {t : SetTable} {n : Nat} (hsz : t.place.size = n) (hdm : t.dummies = #[]) (hfl : n ≤ t.mask) : t.fits n = true := by
  unfold SetTable.fits SetTable.fill
  rw [hdm, Bool.and_eq_true, beq_iff_eq, decide_eq_true_eq]
  show t.place.size = n ∧ t.place.size + 0 ≤ t.mask
  omega
/-- the table laid anew, larger -/
theorem relay_in {o : Obj} (ho : s.heap.get? a = some o) (hex : o.ExactSet) (hd : o.data = .set es ep t) (hrows : es.toList = eRows w L) (hfits : t.fits es.size = true) (nd : (L.map (·.2)).Nodup) (el : ∀ p ∈ L, Elm P w s.heap false p) (ld : w.params.followText "set-order" = true ∨ t.led = true) (few : L.length < 64)
    {wanted M : Nat} (hw : SetTable.sizeAbove wanted - 1 = M) (hM : MaskOk M) (hw2 : SetTable.sizeAbove wanted ≤ 128) (hn : L.length * 5 < M * 3) {Q : Unit → Shared → Prop}
    (hQ : ∀ h' L' es' ep' t', Heap.SameBut a s.heap h' → SG P w h' a false L' es' ep' t' → L'.Perm L → Q () { s with heap := h' }) : wpAny (model P w) A (setRelay a wanted) Q E s := by
  have hsl := erows_len hrows
  obtain ⟨t', order, e, hp, T, em, el', ep', ed⟩ := relaid_ok t (hs := es.map (·.1)) (wanted := wanted) hw hM (by rw [Array.size_map, hsl]; omega)
  rw [Array.size_map, hsl] at hp
  obtain ⟨L2, r1, r2, r3⟩ := erows_order L es order hrows hp
  rw [← r3] at T
  have hs2 : (order.filterMap (es[·]?)).size = es.size := by rw [erows_len r1, r2.length_eq, hsl]
  rw [setRelay_eq]
  refine wpAny_bind (wpAny_setState_of ho hd hfits ?_)
  dsimp only
  refine wp_if_neg (by rw [sizeLine_eq]; omega) ?_
  try refine wpAny_bind (wpAny_pure ?_)
  rw [e]
  dsimp only
  refine wpAny_bind ?_
  refine wp_if_neg (by rw [hs2]; simp) ?_
  try refine wpAny_bind (wpAny_pure ?_)
  refine wpAny_pure ?_
  dsimp only
  refine wpAny_storeSet_of ho hd ?_ (by rw [hs2, hsl, sizeLine_eq]; omega)
  have sb : Heap.SameBut a s.heap (s.heap.update a (Obj.putSet (order.filterMap (es[·]?)) t')) := Heap.SameBut.update ..
  have hsz : t'.place.size = L2.length := by
    have q := T.sz
    rw [List.length_map] at q
    exact q
  refine hQ _ L2 _ (ep + 1) t' sb ⟨⟨_, store_at ho hd, ⟨hex.1, hex.2.1, hex.2.2⟩, rfl⟩, r1, (r2.map (·.2)).nodup_iff.mpr nd, fun p hpm => (el p (r2.mem_iff.mp hpm)).but ho hd sb, by rw [el']; exact ld, T.ris, ?_, ?_, fun _ => ⟨T, ?_, ?_⟩⟩ r2
  · refine fits_mk (by rw [hsz, erows_len r1]) ed ?_
    rw [erows_len r1, r2.length_eq, em]
    omega
  · have := r2.length_eq
    unfold scanBound
    omega
  · rw [r2.length_eq, em]
    exact hn
  · rw [r2.length_eq]
    exact few
theorem perm_ins {α : Type} (L : List α) (p : Nat) (x : α) : (L.take p ++ x :: L.drop p).Perm (x :: L) := by
  have h : (L.take p ++ x :: L.drop p).Perm (x :: (L.take p ++ L.drop p)) := List.perm_middle
  rwa [List.take_append_drop] at h
theorem tabOk_plain {t : SetTable} {hs : List Int} (T : TabOk t hs) : TabOk { t with plain := false } hs := ⟨T.ris, T.dm, T.sz, T.mok, T.bd, T.reach⟩
/-- one tuple more -/
theorem add_tup (R : SG P w s.heap a false L es ep t) {x : Value} {k : NestedKey} (hx : Elm P w s.heap false (x, k)) (hu : A.units + 8 < cLine) (hfew : L.length + 1 < 64) {Q : Bool → Shared → Prop}
    (hQ : ∀ b h' L' es' ep' t', Heap.SameBut a s.heap h' → SG P w h' a false L' es' ep' t' → (k ∈ L.map (·.2) → L' = L) → (k ∉ L.map (·.2) → L'.Perm ((x, k) :: L)) → Q b { s with heap := h' }) :
    wpAny (model P w) A (setAddHashed a x (k.hash w)) Q E s := by
  obtain ⟨o, ho, hex, hd⟩ := R.ob
  obtain ⟨T, hroom, h64⟩ := R.tab rfl
  have hsl := erows_len R.rows
  obtain ⟨bx, hbx⟩ : ∃ b, x = Value.ref b := by simpa using hx.knd
  unfold setAddHashed
  refine wpAny_holding ?_
  rw [show (100000 : Nat) = 99999 + 1 from rfl, setAddHashedIn_succ]
  refine wpAny_bind (wpAny_setState_of ho hd R.fit ?_)
  dsimp only
  refine wp_if_neg (by simp [byScan, hbx, Value.scannable]) ?_
  try refine wpAny_bind (wpAny_pure ?_)
  refine wpAny_bind (search_in R hx hu (fun hm => ?_) fun K hm hK hb => ?_)
  · dsimp only
    exact wpAny_pure (hQ false s.heap L es ep t (Heap.SameBut.refl a s.heap) R (fun _ => rfl) fun z => absurd hm z)
  · dsimp only
    refine wpAny_bind (wpAny_setState_of ho hd R.fit ?_)
    dsimp only
    obtain ⟨q1, q2, q3, q4, q5, q6, q7, q8, q9⟩ := T.put hK hb
    generalize hpt : t.put (way t.mask (k.hash w) K) = pt at q1 q3 q4 q5 q6 q7 q8 q9 ⊢
    obtain ⟨t1, p⟩ := pt
    dsimp only at q1 q3 q4 q5 q6 q7 q8 q9 ⊢
    subst q1
    have hin : (SetTable.insertAt es (SetTable.below t.place (way t.mask (k.hash w) K)) (k.hash w, x)).toList = eRows w (L.take (SetTable.below t.place (way t.mask (k.hash w) K)) ++ (x, k) :: L.drop (SetTable.below t.place (way t.mask (k.hash w) K))) := by
      rw [SetTable.toList_insertAt, R.rows]
      unfold eRows
      rw [List.map_append, List.map_cons, List.map_take, List.map_drop]
    generalize hpp : SetTable.below t.place (way t.mask (k.hash w) K) = p at q2 q3 hin ⊢
    have pm := perm_ins L p (x, k)
    have hlen : (L.take p ++ (x, k) :: L.drop p).length = L.length + 1 := pm.length_eq
    have hhs : (L.take p ++ (x, k) :: L.drop p).map (fun p => p.2.hash w) = (L.map fun p => p.2.hash w).take p ++ k.hash w :: (L.map fun p => p.2.hash w).drop p := by
      rw [List.map_append, List.map_cons, List.map_take, List.map_drop]
    rw [← hhs] at q3
    have nd1 : ((L.take p ++ (x, k) :: L.drop p).map (·.2)).Nodup := by
      refine (pm.map (·.2)).nodup_iff.mpr ?_
      rw [List.map_cons]
      exact List.nodup_cons.mpr ⟨hm, R.nd⟩
    have hes := erows_len hin
    rw [hlen] at hes
    generalize SetTable.insertAt es p (k.hash w, x) = es1 at hin hes ⊢
    generalize L.take p ++ (x, k) :: L.drop p = L1 at pm hlen q3 nd1 hin
    have key : ∀ t2 : SetTable, t2.mask = t.mask → t2.led = t.led → TabOk t2 (L1.map fun p => p.2.hash w) → t2.fill = L.length + 1 → wpAny (model P w) A (do
        storeSet a es1 t2
        if (!false && t2.tooFull) = true then do
            setRelay a (SetTable.grown (es.size + 1))
            pure true
          else pure true) Q E s := by
      intro t2 z1 z2 T2 z3
      refine wpAny_bind (wpAny_storeSet_of ho hd ?_ (by rw [hes, sizeLine_eq]; omega))
      have sb : Heap.SameBut a s.heap (s.heap.update a (Obj.putSet es1 t2)) := Heap.SameBut.update ..
      have ho1 := store_at (es' := es1) (t' := t2) ho hd
      generalize s.heap.update a (Obj.putSet es1 t2) = h1 at sb ho1 ⊢
      have el1 : ∀ p ∈ L1, Elm P w h1 false p := fun p hp => by
        rcases List.mem_cons.mp (pm.mem_iff.mp hp) with e | hp
        · rw [e]; exact hx.but ho hd sb
        · exact (R.el p hp).but ho hd sb
      have ld1 : w.params.followText "set-order" = true ∨ t2.led = true := by rw [z2]; exact R.led
      have hsz1 : t2.place.size = es1.size := by
        have h := T2.sz
        rw [List.length_map, hlen] at h
        rw [h, hes]
      have hmk : L.length + 1 ≤ t2.mask := by
        rw [z1]
        rcases T.mok with e | e | e <;> omega
      have hft : t2.fits es1.size = true := fits_mk hsz1 T2.dm (by rw [hes]; exact hmk)
      by_cases hf : t2.tooFull = true
      · refine wp_if_pos (by simp [hf]) ?_
        have hfull : (L.length + 1) * 5 ≥ t2.mask * 3 := by
          have h := hf
          unfold SetTable.tooFull at h
          rw [decide_eq_true_eq, z3] at h
          exact h
        have cases2 : (t.mask = 7 ∧ L.length = 4) ∨ (t.mask = 31 ∧ L.length = 18) := by
          rw [z1] at hfull
          rcases T.mok with e | e | e
          · left; exact ⟨e, by omega⟩
          · right; exact ⟨e, by omega⟩
          · exfalso; omega
        rw [hsl]
        have go : ∀ M, SetTable.sizeAbove (SetTable.grown (L.length + 1)) - 1 = M → MaskOk M → SetTable.sizeAbove (SetTable.grown (L.length + 1)) ≤ 128 → (L.length + 1) * 5 < M * 3 →
            wpAny (model P w) A (setRelay a (SetTable.grown (L.length + 1))) (fun _ s' => wpAny (model P w) A (pure true) Q E s') E { s with heap := h1 } := fun M y1 y2 y3 y4 => by
          refine relay_in (s := { s with heap := h1 }) ho1 ⟨hex.1, hex.2.1, hex.2.2⟩ rfl hin hft nd1 el1 ld1 (by rw [hlen]; exact hfew) y1 y2 y3 (by rw [hlen]; exact y4) ?_
          intro h2 L2 es2 ep2 t3 sb2 R2 pm2
          exact wpAny_pure (hQ true h2 L2 es2 ep2 t3 (sb.trans sb2) R2 (fun z => absurd z hm) fun _ => pm2.trans pm)
        refine wpAny_bind ?_
        rcases cases2 with ⟨_, e2⟩ | ⟨_, e2⟩
        · exact go 31 (by rw [e2, size_20]) (.inr (.inl rfl)) (by rw [e2, size_20]; decide) (by omega)
        · exact go 127 (by rw [e2, size_76]) (.inr (.inr rfl)) (by rw [e2, size_76]; decide) (by omega)
      · refine wp_if_neg (by simp [hf]) ?_
        refine wpAny_pure (hQ true h1 L1 es1 (ep + 1) t2 sb ⟨⟨_, ho1, ⟨hex.1, hex.2.1, hex.2.2⟩, rfl⟩, hin, nd1, el1, ld1, T2.ris, hft, by rw [hlen]; unfold scanBound; omega, fun _ => ⟨T2, ?_, by rw [hlen]; exact hfew⟩⟩ (fun z => absurd z hm) fun _ => pm)
        have h := hf
        unfold SetTable.tooFull at h
        rw [decide_eq_true_eq, z3] at h
        rw [hlen]
        omega
    have q9' : t1.fill = L.length + 1 := by rw [q9, List.length_map]
    by_cases hpl : t1.plain = true
    · refine wp_if_pos hpl ?_
      refine wpAny_bind ?_
      refine hashBy_key k x 8 _ hx.is fun r => ?_
      cases r
      · exact key { t1 with plain := false } q4 q5 (tabOk_plain q3) q9'
      · exact key t1 q4 q5 q3 q9'
    · refine wp_if_neg hpl ?_
      try refine wpAny_bind (wpAny_pure ?_)
      exact key t1 q4 q5 q3 q9'
end
end VR

/-! VS2: numbers and texts put in; set(xs). -/
namespace VR
open PySem PySem.Spec PyProof.Rows L2
theorem perm_map_inv {α β : Type} {f : α → β} : ∀ {l : List β} {L : List α}, l.Perm (L.map f) → ∃ L2 : List α, L2.Perm L ∧ l = L2.map f
  | [], L, h => by
    have e : L.map f = [] := List.nil_perm.mp h
    rw [List.map_eq_nil_iff] at e
    subst e
    exact ⟨[], List.Perm.refl _, rfl⟩
  | x :: l, L, h => by
    obtain ⟨y, hy, rfl⟩ := List.mem_map.mp (h.mem_iff.mp List.mem_cons_self)
    obtain ⟨u, v, rfl⟩ := List.append_of_mem hy
    have pm : (u ++ y :: v).Perm (y :: (u ++ v)) := List.perm_middle
    have q := h.trans (pm.map f)
    rw [List.map_cons] at q
    obtain ⟨L2, q1, q2⟩ := perm_map_inv q.cons_inv
    exact ⟨y :: L2, (q1.cons y).trans pm.symm, by rw [List.map_cons, q2]⟩
section
variable {P : Program} {w : World} {A : Around} {E : Value → Shared → Prop} {s : Shared}
variable {a : Addr} {L : EL} {es : Array (Int × Value)} {ep : Nat} {t : SetTable} {sc : Bool}
theorem SG.elems (R : SG P w s.heap a true L es ep t) : ElemsOf (mixKind P w) es.toList := fun e he => by
  rw [R.rows] at he
  obtain ⟨p, hp, rfl⟩ := List.mem_map.mp he
  obtain ⟨k, h1, h2, h3⟩ : ∃ k : Key, (mixKind P w).is k p.1 = true ∧ p.2 = kN k ∧ p.1.scannable = true := by simpa using (R.el p hp).knd
  exact ⟨⟨k, h1, by rw [h2]; exact kN_hash P w k⟩, h3⟩
/-- one number or text more -/
theorem add_key (R : SG P w s.heap a true L es ep t) {x : Value} {k : NestedKey} (hx : Elm P w s.heap true (x, k)) (hfew : L.length + 1 < scanBound) {Q : Bool → Shared → Prop}
    (hQ : ∀ b h' L' es' ep' t', Heap.SameBut a s.heap h' → SG P w h' a true L' es' ep' t' → (k ∈ L.map (·.2) → L' = L) → (k ∉ L.map (·.2) → L'.Perm ((x, k) :: L)) → Q b { s with heap := h' }) :
    wpAny (model P w) A (setAddHashed a x (k.hash w)) Q E s := by
  obtain ⟨o, ho, hex, hd⟩ := R.ob
  obtain ⟨c, hc1, hc2, hc3⟩ : ∃ c : Key, (mixKind P w).is c x = true ∧ k = kN c ∧ x.scannable = true := by simpa using hx.knd
  have hel := R.elems
  have hsl := erows_len R.rows
  have hb : es.size < scanBound := by rw [hsl]; exact R.few
  have hash : k.hash w = (mixKind P w).hash c := by rw [hc2]; exact kN_hash P w c
  -- what stands there is found by its key
  have look : ∀ e ∈ es.toList, (mixKind P w).is c e.2 = true → k ∈ L.map (·.2) := fun e he q => by
    rw [R.rows] at he
    obtain ⟨p, hp, rfl⟩ := List.mem_map.mp he
    obtain ⟨k2, h1, h2, h3⟩ : ∃ k : Key, (mixKind P w).is k p.1 = true ∧ p.2 = kN k ∧ p.1.scannable = true := by simpa using (R.el p hp).knd
    rw [(mixKind P w).inj _ _ _ h1 q, ← hc2] at h2
    exact List.mem_map.mpr ⟨p, hp, h2⟩
  rw [hash]
  unfold setAddHashed setAddHashedIn
  refine wpAny_holding (wpAny_bind (wpAny_setState_of ho hd R.fit ?_))
  dsimp only
  rw [byScan_of hc3 hb hel]
  simp only [↓reduceIte]
  unfold setAddByScan
  refine wpAny_bind (wpAny_bind (wpAny_rule (wpAny_bind (wpAny_setScan_of hc1 ho hd R.fit hel ?_))))
  cases hfi : List.findIdx? (fun e => (mixKind P w).is c e.2) es.toList with
  | some j =>
    dsimp only
    obtain ⟨hj, pj, _⟩ := List.findIdx?_eq_some_iff_getElem.mp hfi
    refine wpAny_pure (wpAny_pure ?_)
    exact hQ false s.heap L es ep t (Heap.SameBut.refl a s.heap) R (fun _ => rfl) fun z => absurd (look _ (List.getElem_mem hj) pj) z
  | none =>
    dsimp only
    have hnk : k ∉ L.map (·.2) := fun z => by
      obtain ⟨p, hp, e⟩ := List.mem_map.mp z
      obtain ⟨k2, h1, h2, h3⟩ : ∃ k : Key, (mixKind P w).is k p.1 = true ∧ p.2 = kN k ∧ p.1.scannable = true := by simpa using (R.el p hp).knd
      rw [h2, hc2] at e
      rw [kN_inj e] at h1
      have q := List.findIdx?_eq_none_iff.mp hfi (p.2.hash w, p.1) (by rw [R.rows]; exact List.mem_map.mpr ⟨p, hp, rfl⟩)
      rw [h1] at q
      cases q
    have pm := layNew_perm t es ((mixKind P w).hash c) x
    have hf1 := layNew_fits t es ((mixKind P w).hash c) x
    have hr1 := layNew_ris t es ((mixKind P w).hash c) x R.ris
    have hl1 := layNew_led t es ((mixKind P w).hash c) x
    generalize layNew t es ((mixKind P w).hash c) x = Z at pm hf1 hr1 hl1 ⊢
    obtain ⟨es1, t1, dm, gave⟩ := Z
    dsimp only at pm hf1 hr1 hl1 ⊢
    rw [Array.toList_push] at pm
    have pc : es1.toList.Perm (eRows w ((x, k) :: L)) := by
      refine (pm.trans (List.perm_append_singleton _ _)).trans ?_
      rw [R.rows, ← hash]
      exact List.Perm.refl _
    -- entries are the rows of a list of elements, in any order
    have rowsOf : ∀ z : Array (Int × Value), z.toList.Perm (eRows w ((x, k) :: L)) → ∃ L2 : EL, z.toList = eRows w L2 ∧ L2.Perm ((x, k) :: L) := fun z hz => by
      obtain ⟨L2, q1, q2⟩ := perm_map_inv hz
      exact ⟨L2, q2, q1⟩
    have fin : ∀ (z : Array (Int × Value)) (t3 : SetTable) (h' : Heap) (ep' : Nat) (o' : Obj), Heap.SameBut a s.heap h' → h'.get? a = some o' → o'.ExactSet → o'.data = .set z ep' t3 → z.toList.Perm (eRows w ((x, k) :: L)) → t3.fits z.size = true → Ris t3.place.toList → t3.led = t.led → Q true { s with heap := h' } := by
      intro z t3 h' ep' o' sb g1 g2 g3 pz f3 r3 l3
      obtain ⟨L2, q1, q2⟩ := rowsOf z pz
      refine hQ true h' L2 z ep' t3 sb ⟨⟨o', g1, g2, g3⟩, q1, ?_, fun p hp => ?_, by rw [l3]; exact R.led, r3, f3, ?_, fun z => nomatch z⟩ (fun z => absurd z hnk) fun _ => q2
      · refine (q2.map (·.2)).nodup_iff.mpr ?_
        rw [List.map_cons]
        exact List.nodup_cons.mpr ⟨hnk, R.nd⟩
      · rcases List.mem_cons.mp (q2.mem_iff.mp hp) with e | e
        · rw [e]; exact hx.but ho hd sb
        · exact (R.el p e).but ho hd sb
      · rw [q2.length_eq, List.length_cons]
        exact hfew
    have hsz : es1.size = L.length + 1 := by rw [← Array.length_toList, pc.length_eq, List.length_map, List.length_cons]
    have hb1 : es1.size < scanBound := by rw [hsz]; exact hfew
    have tail : ∀ t2 : SetTable, t2.fits es1.size = true → Ris t2.place.toList → t2.led = t.led → ∀ g : Bool → Sem Unit, (∀ (b : Bool) (s₁ : Shared) (Q' : Unit → Shared → Prop), Q' () s₁ → wpAny (model P w) A (g b) Q' E s₁) → wpAny (model P w) A (do
        storeSet a es1 t2
        if (!dm && t2.tooFull) = true then do
            g (relayAll t2 es1 (SetTable.grown es1.size)).2.2
            storeSet a (relayAll t2 es1 (SetTable.grown es1.size)).1 (relayAll t2 es1 (SetTable.grown es1.size)).2.1
            pure (some true)
          else pure (some true)) (fun r z => r = some true ∧ Q true z) E s := by
      intro t2 f2 r2 l2 g hg
      refine wpAny_bind (wpAny_storeSet_of ho hd ?_ (fits_of_scanBound hb1))
      have ho1 := store_at (es' := es1) (t' := t2) ho hd
      have sb1 := Heap.SameBut.update s.heap a (Obj.putSet es1 t2)
      refine wp_ite (fun _ => ?_) fun _ => wpAny_pure ⟨rfl, fin es1 t2 _ _ _ sb1 ho1 ⟨hex.1, hex.2.1, hex.2.2⟩ rfl pc f2 r2 l2⟩
      have pm3 := relayAll_perm t2 es1 (SetTable.grown es1.size)
      have hf3 := relayAll_fits t2 es1 (SetTable.grown es1.size)
      have hr3 := relayAll_ris t2 es1 (SetTable.grown es1.size)
      have hl3 := relayAll_led t2 es1 (SetTable.grown es1.size)
      generalize relayAll t2 es1 (SetTable.grown es1.size) = Z at pm3 hf3 hr3 hl3 ⊢
      obtain ⟨es2, t3, gv⟩ := Z
      dsimp only at pm3 hf3 hr3 hl3 ⊢
      have hb2 : es2.size < scanBound := by
        rw [← Array.length_toList, pm3.length_eq, Array.length_toList]
        exact hb1
      refine wpAny_bind (hg _ _ _ ?_)
      refine wpAny_bind (wpAny_storeSet_of ho1 rfl ?_ (fits_of_scanBound hb2))
      have ho2 := store_at (es' := es2) (t' := t3) ho1 rfl
      exact wpAny_pure ⟨rfl, fin es2 t3 _ _ _ (sb1.trans (Heap.SameBut.update _ a _)) ho2 ⟨hex.1, hex.2.1, hex.2.2⟩ rfl (pm3.trans pc) hf3 hr3 (hl3.trans l2)⟩
    have done : ∀ m : Sem (Option Bool), wpAny (model P w) A m (fun r z => r = some true ∧ Q true z) E s → wpAny (model P w) A m (fun r z => wpAny (model P w) A (match r with
        | some added => pure added
        | none => setAddHashedIn a x ((mixKind P w).hash c) 99999) Q E z) E s := fun m hm => wpAny_mono hm (fun r z q => by
      rw [q.1]
      exact wpAny_pure q.2) fun _ _ q => q
    have gw : ∀ (b : Bool) (s₁ : Shared) (Q' : Unit → Shared → Prop), Q' () s₁ → wpAny (model P w) A (match b with | true => rule "set.scan.the-table-gave-way" | false => pure ()) Q' E s₁ :=
      fun b s₁ Q' q => by cases b <;> first | exact wpAny_pure q | exact wpAny_rule q
    refine done _ ?_
    refine wpAny_bind (gw _ _ _ ?_)
    refine wp_ite (fun hp => ?_) fun hp => ?_
    · refine wpAny_bind ?_
      rw [hashByValue_scannable 8 hc3]
      refine wpAny_pure ?_
      by_cases hpk : plainKind x = true
      · rw [if_pos hpk]
        exact tail t1 hf1 hr1 hl1 _ gw
      · rw [if_neg hpk]
        exact tail { t1 with plain := false } (SetTable.fits_plain_off hf1) hr1 hl1 _ gw
    · try refine wpAny_bind (wpAny_pure ?_)
      simp only [↓reduceIte]
      exact tail t1 hf1 hr1 hl1 _ gw
end
end VR

/-! VS3: set(xs), its walk. -/
namespace VR
open PySem PySem.Spec PyProof.Rows L2
def setRoom (sc : Bool) : Nat := if sc = true then scanBound else 64
/-- what a set has of the first i of ks -/
structure GotE (ks : EL) (i : Nat) (L : EL) : Prop where
  sub : ∀ p ∈ L, p ∈ ks.take i
  all : ∀ p ∈ ks.take i, p.2 ∈ L.map (·.2)
  len : L.length ≤ i
theorem GotE.next {ks L L' : EL} {i : Nat} {x : Value × NestedKey} (g : GotE ks i L) (h : ks[i]? = some x) (c1 : x.2 ∈ L.map (·.2) → L' = L) (c2 : x.2 ∉ L.map (·.2) → L'.Perm (x :: L)) : GotE ks (i + 1) L' := by
  have e : ks.take (i + 1) = ks.take i ++ [x] := by rw [List.take_succ, h]; rfl
  by_cases hm : x.2 ∈ L.map (·.2)
  · rw [c1 hm]
    refine ⟨fun p hp => by rw [e]; exact List.mem_append_left _ (g.sub p hp), fun p hp => ?_, Nat.le_succ_of_le g.len⟩
    rw [e, List.mem_append] at hp
    rcases hp with hp | hp
    · exact g.all p hp
    · rw [List.mem_singleton.mp hp]; exact hm
  · have pm := c2 hm
    refine ⟨fun p hp => ?_, fun p hp => ?_, ?_⟩
    · rw [e, List.mem_append]
      rcases List.mem_cons.mp (pm.mem_iff.mp hp) with z | z
      · exact .inr (by rw [z]; exact List.mem_singleton.mpr rfl)
      · exact .inl (g.sub p z)
    · rw [(pm.map (·.2)).mem_iff, List.map_cons, List.mem_cons]
      rw [e, List.mem_append] at hp
      rcases hp with hp | hp
      · exact .inr (g.all p hp)
      · exact .inl (by rw [List.mem_singleton.mp hp])
    · rw [pm.length_eq, List.length_cons]
      exact Nat.succ_le_succ g.len
section
variable {P : Program} {w : World} {A : Around} {E : Value → Shared → Prop} {s : Shared}
variable {a : Addr} {L : EL} {es : Array (Int × Value)} {ep : Nat} {t : SetTable} {sc : Bool}
theorem SG.add (R : SG P w s.heap a sc L es ep t) {x : Value} {k : NestedKey} (hx : Elm P w s.heap sc (x, k)) (hu : A.units + 8 < cLine) (hfew : L.length + 1 < setRoom sc) {Q : Bool → Shared → Prop}
    (hQ : ∀ b h' L' es' ep' t', Heap.SameBut a s.heap h' → SG P w h' a sc L' es' ep' t' → (k ∈ L.map (·.2) → L' = L) → (k ∉ L.map (·.2) → L'.Perm ((x, k) :: L)) → Q b { s with heap := h' }) :
    wpAny (model P w) A (setAddHashed a x (k.hash w)) Q E s := by
  cases sc
  · exact add_tup R hx hu hfew hQ
  · exact add_key R hx hfew hQ
theorem SG.keep {h h' : Heap} (R : SG P w h a sc L es ep t) (ha : ∀ o, h.get? a = some o → h'.get? a = some o) (ht : ∀ p ∈ L, Elm P w h' sc p) : SG P w h' a sc L es ep t := by
  obtain ⟨o, ho, r⟩ := R.ob
  exact ⟨⟨o, ha o ho, r⟩, R.rows, R.nd, ht, R.led, R.ris, R.fit, R.few, R.tab⟩
abbrev newSetO (w : World) : Obj := { cls := .type "set", dict := none, data := .set #[] 0 (.fresh 0 0 (!w.params.followText "set-order")) }
theorem SG.new {h : Heap} (ho : h.get? a = some (newSetO w)) : SG P w h a sc [] #[] 0 (.fresh 0 0 (!w.params.followText "set-order")) where
  ob := ⟨_, ho, ⟨rfl, rfl, rfl⟩, rfl⟩
  rows := rfl
  nd := List.nodup_nil
  el := fun p hp => (by cases hp)
  led := by
    show _ ∨ (!w.params.followText "set-order") = true
    cases w.params.followText "set-order"
    · exact .inr rfl
    · exact .inl rfl
  ris := List.Pairwise.nil
  fit := rfl
  few := by decide
  tab := fun _ => ⟨⟨List.Pairwise.nil, rfl, rfl, .inl rfl, fun x hx => (by cases hx), fun i h j hi => (by simp at hi)⟩, show 0 * 5 < 7 * 3 by decide, show 0 < 64 by decide⟩
theorem Elm.keep {h h' : Heap} {p : Value × NestedKey} (x : Elm P w h sc p) (hk : ∀ c o, h.get? c = some o → h'.get? c = some o) : Elm P w h' sc p := x.at fun a o _ _ e _ => hk a o e
/-- the loop that fills it -/
theorem set_fill {I : Addr} {fp wr : List Addr} {G : Array GenState → Array GenState → Prop} {n : Nat} {Pv : Nat → Value → Prop} {St : Nat → Shared → Prop} {R : Result → Shared → Prop}
    (W : WalksS P w A.in1 I fp wr G n Pv St) (S : Addr) (hSf : S ∉ fp) (ks : EL) (hn : n = ks.length) (hfew : ks.length < setRoom sc) (hval : ∀ i v, Pv i v → ∃ p, ks[i]? = some p ∧ v = p.1)
    (h0 : Heap) (hk : ∀ p ∈ ks, Elm P w h0 sc p) (hS0 : h0.get? S = none) (hw0 : ∀ b ∈ wr, h0.get? b = none) (hu : A.in1.units + 8 < cLine) :
    ∀ (k i : Nat) (s : Shared), n - i = k → i ≤ n → St i s → (∀ b o, h0.get? b = some o → s.heap.get? b = some o) → (∃ L es ep t, SG P w s.heap S sc L es ep t ∧ GotE ks i L) →
      (∀ s' L es ep t, Moved (S :: wr) G s s' → SG P w s'.heap S sc L es ep t → GotE ks n L → (∀ b o, h0.get? b = some o → s'.heap.get? b = some o) → R (.ok (.ret .none)) s') →
      codeAny (model P w) A (.builtin "set.update.loop" ⟨[.ref S, .ref I], []⟩) R s := by
  have hSw : S ∉ wr := fun h => hSf (W.sub _ h)
  have hsub : ∀ b ∈ wr, b ∈ S :: wr := fun b hb => List.mem_cons_of_mem _ hb
  have old : ∀ {s s' : Shared}, Moved wr G s s' → (∀ b o, h0.get? b = some o → s.heap.get? b = some o) → ∀ b o, h0.get? b = some o → s'.heap.get? b = some o := fun hm hkp b o e =>
    hm.heap b o (fun hb => by rw [hw0 b hb] at e; cases e) (hkp b o e)
  have stay : ∀ {s s' : Shared} {L es ep t i}, Moved wr G s s' → GotE ks i L → (∀ b o, h0.get? b = some o → s'.heap.get? b = some o) → SG P w s.heap S sc L es ep t → SG P w s'.heap S sc L es ep t := fun hm g hkp r =>
    r.keep (fun o e => hm.heap S o hSw e) fun p hp => (hk p (List.mem_of_mem_take (g.sub p hp))).keep hkp
  intro k
  induction k with
  | zero =>
    intro i s hk' hi hst hkp ⟨L, es, ep, t, hS, g⟩ hR
    have hin : i = n := by omega
    subst hin
    refine codeAny_builtin F.entry_set_update_loop ?_
    rw [Around.under_plainId F.plain_set_update_loop _]
    show wpAny _ A.in1 (pyNext (.ref I) >>= _) _ _ s
    refine wpAny_bind (W.done s _ _ hst fun s' hm => ?_)
    show wpAny _ A.in1 (ret Value.none) _ _ s'
    have q := old hm hkp
    exact wpAny_pure (hR s' L es ep t (hm.mono hsub) (stay hm g q hS) g q)
  | succ k ih =>
    intro i s hk' hi hst hkp ⟨L, es, ep, t, hS, g⟩ hR
    have hlt : i < n := by omega
    refine codeAny_builtin F.entry_set_update_loop ?_
    rw [Around.under_plainId F.plain_set_update_loop _]
    show wpAny _ A.in1 (pyNext (.ref I) >>= _) _ _ s
    refine wpAny_bind (W.item i s _ _ hlt hst fun v s' hP hst' hm => ?_)
    obtain ⟨⟨v, kk⟩, hp, rfl⟩ := hval i v hP
    have q := old hm hkp
    have hS' := stay hm g q hS
    have hx := (hk _ (List.mem_of_getElem? hp)).keep q
    show wpAny _ A.in1 (holding [v] (setAdd S v) >>= _) _ _ s'
    refine wpAny_bind (wpAny_holding ?_)
    unfold setAdd
    refine wpAny_holding ?_
    refine wpAny_bind (pyHash_key kk v _ _ _ hx.is (by have := hx.dp; simp only at this; omega) ?_)
    refine SG.add (s := { s' with toks := s'.toks + kk.draws }) hS' hx hu (by have := g.len; omega) fun b h' L' es' ep' t' hsb hS2 c1 c2 => ?_
    have q2 : ∀ b o, h0.get? b = some o → h'.get? b = some o := fun b o e => (hsb.2 b (fun z => by rw [z, hS0] at e; cases e)).trans (q b o e)
    refine wpAny_pure ⟨plainId_quiet F.plain_set_update_loop _, ih (i + 1) _ (by omega) hlt (W.frame _ s' _ _ hst' (Nat.le_add_right _ _) fun b hb o e => ?_) q2 ⟨L', es', ep', t', hS2, g.next hp c1 c2⟩ fun s'' L2 es2 ep2 t2 hm'' hS'' g'' hkp'' => ?_⟩
    · exact (hsb.2 b fun z => hSf (z ▸ hb)).trans e
    · exact hR s'' L2 es2 ep2 t2 (Moved.trans W.gtrans ((hm.mono hsub).then_heap (Nat.le_add_right _ _) fun b o hb e => (hsb.2 b fun z => hb (z ▸ List.mem_cons_self)).trans e) hm'') hS'' g'' hkp''
theorem val_of {items : Array Value} {ks : EL} (hit : items.toList = ks.map (·.1)) : ∀ (i : Nat) (v : Value), items[i]? = some v → ∃ p, ks[i]? = some p ∧ v = p.1 := fun i v hv => by
  have q : items.toList[i]? = some v := by rw [Array.getElem?_toList]; exact hv
  rw [hit, List.getElem?_map] at q
  cases e : ks[i]? with
  | none =>
    rw [e] at q
    cases q
  | some p =>
    rw [e] at q
    exact ⟨p, rfl, (Option.some.inj q).symm⟩
theorem none_above {h : Heap} {b : Addr} (hb : h.objs.size ≤ b) : h.get? b = none := by
  cases q : h.get? b with
  | none => rfl
  | some o => exact absurd (Nat.lt_of_lt_of_le (Heap.lt_size q) hb) (Nat.lt_irrefl _)
/-- filling from a list's, from a tuple's iterator -/
def FillOk (P : Program) (w : World) (A : Around) (E : Value → Shared → Prop) (s : Shared) (sc : Bool) (ks : EL) (R : Result → Shared → Prop) : Prop :=
  ∀ s' L es ep t, SG P w s'.heap s.heap.objs.size sc L es ep t → GotE ks ks.length L → (∀ b o, s.heap.get? b = some o → s'.heap.get? b = some o) → s'.gens = s.gens → s'.drawn = s.drawn → s'.os = s.os → R (.ok (.ret .none)) s'
theorem fill_list {l : Addr} {items : Array Value} {ks : EL} {R : Result → Shared → Prop} (hh : A.handled = none) (hl : s.heap.IsList l items) (hit : items.toList = ks.map (·.1)) (hk : ∀ p ∈ ks, Elm P w s.heap sc p) (hfew : ks.length < setRoom sc) (hu : A.units + 60 < cLine) (hR : FillOk P w A E s sc ks R) :
    codeAny (model P w) A (.builtin "set.update.loop" ⟨[.ref s.heap.objs.size, .ref (s.heap.objs.size + 1)], []⟩) R { s with heap := (s.heap.push (newSetO w)).push { cls := .type "list_iterator", data := .fields #[.ref l, .int 0 0] } } := by
  have hisz : items.size = ks.length := by rw [← Array.length_toList, hit, List.length_map]
  obtain ⟨o, ho, _⟩ := id hl
  have hlS : l < s.heap.objs.size := Heap.lt_size ho
  have z1 : (s.heap.push (newSetO w)).objs.size = s.heap.objs.size + 1 := Heap.size_push ..
  have hget : ((s.heap.push (newSetO w)).push { cls := .type "list_iterator", data := .fields #[.ref l, .int 0 0] }).get? s.heap.objs.size = some (newSetO w) := Heap.get?_push_of_some _ (Heap.get?_push_size _ rfl)
  have hgi : ((s.heap.push (newSetO w)).push { cls := .type "list_iterator", data := .fields #[.ref l, .int 0 0] }).get? (s.heap.objs.size + 1) = some { cls := .type "list_iterator", data := .fields #[.ref l, .int 0 0] } := by
    rw [← z1]
    exact Heap.get?_push_size _ rfl
  refine set_fill ((Walks.list (A := A.in1) (by simp [hh]) (s.heap.objs.size + 1) l (Nat.ne_of_lt (Nat.lt_succ_of_lt hlS)) items).toS) s.heap.objs.size (by simp only [List.mem_cons, List.not_mem_nil, or_false, not_or]; exact ⟨Nat.ne_of_lt (Nat.lt_succ_self _), Nat.ne_of_gt hlS⟩) ks hisz hfew (val_of hit) s.heap hk (none_above (Nat.le_refl _)) (fun b hb => none_above (by rw [List.mem_singleton.mp hb]; exact Nat.le_succ _)) (show A.in1.units + 8 < cLine from (by show A.units + 1 + 8 < cLine; omega)) (items.size - 0) 0 _ (by omega) (Nat.zero_le _)
    ⟨⟨_, hgi, rfl, rfl⟩, (hl.push _).push _⟩ (fun b o e => Heap.get?_push_of_some _ (Heap.get?_push_of_some _ e)) ⟨[], #[], 0, _, SG.new hget, ⟨fun p h => (by cases h), fun p h => (by simp at h), Nat.le_refl _⟩⟩ fun s' L es ep t hm hS g hkp => ?_
  rw [hisz] at g
  exact hR s' L es ep t hS g hkp hm.gens hm.drawn hm.os
theorem fill_tup {l : Addr} {items : Array Value} {ks : EL} {R : Result → Shared → Prop} (hh : A.handled = none) (hl : s.heap.IsTuple l items) (hit : items.toList = ks.map (·.1)) (hk : ∀ p ∈ ks, Elm P w s.heap sc p) (hfew : ks.length < setRoom sc) (hu : A.units + 60 < cLine) (hR : FillOk P w A E s sc ks R) :
    codeAny (model P w) A (.builtin "set.update.loop" ⟨[.ref s.heap.objs.size, .ref (s.heap.objs.size + 1)], []⟩) R { s with heap := (s.heap.push (newSetO w)).push { cls := .type "tuple_iterator", data := .fields #[.ref l, .int 0 0] } } := by
  have hisz : items.size = ks.length := by rw [← Array.length_toList, hit, List.length_map]
  obtain ⟨o, ho, _⟩ := id hl
  have hlS : l < s.heap.objs.size := Heap.lt_size ho
  have z1 : (s.heap.push (newSetO w)).objs.size = s.heap.objs.size + 1 := Heap.size_push ..
  have hget : ((s.heap.push (newSetO w)).push { cls := .type "tuple_iterator", data := .fields #[.ref l, .int 0 0] }).get? s.heap.objs.size = some (newSetO w) := Heap.get?_push_of_some _ (Heap.get?_push_size _ rfl)
  have hgi : ((s.heap.push (newSetO w)).push { cls := .type "tuple_iterator", data := .fields #[.ref l, .int 0 0] }).get? (s.heap.objs.size + 1) = some { cls := .type "tuple_iterator", data := .fields #[.ref l, .int 0 0] } := by
    rw [← z1]
    exact Heap.get?_push_size _ rfl
  refine set_fill ((Walks.tuple (A := A.in1) (by simp [hh]) (s.heap.objs.size + 1) l (Nat.ne_of_lt (Nat.lt_succ_of_lt hlS)) items).toS) s.heap.objs.size (by simp only [List.mem_cons, List.not_mem_nil, or_false, not_or]; exact ⟨Nat.ne_of_lt (Nat.lt_succ_self _), Nat.ne_of_gt hlS⟩) ks hisz hfew (val_of hit) s.heap hk (none_above (Nat.le_refl _)) (fun b hb => none_above (by rw [List.mem_singleton.mp hb]; exact Nat.le_succ _)) (show A.in1.units + 8 < cLine from (by show A.units + 1 + 8 < cLine; omega)) (items.size - 0) 0 _ (by omega) (Nat.zero_le _)
    ⟨⟨_, hgi, rfl, rfl⟩, (hl.push _).push _⟩ (fun b o e => Heap.get?_push_of_some _ (Heap.get?_push_of_some _ e)) ⟨[], #[], 0, _, SG.new hget, ⟨fun p h => (by cases h), fun p h => (by simp at h), Nat.le_refl _⟩⟩ fun s' L es ep t hm hS g hkp => ?_
  rw [hisz] at g
  exact hR s' L es ep t hS g hkp hm.gens hm.drawn hm.os
end
end VR

/-! VS4: the calls set(xs), sorted(set(xs)), len(set(xs)). -/
namespace VR
open PySem PySem.Spec PyProof.Rows L2
section
variable {P : Program} {w : World} {A : Around} {E : Value → Shared → Prop} {s : Shared} {sc : Bool}
/-- set.__init__ of a new set -/
theorem init_set {l : Addr} {items : Array Value} {ks : EL} {Q : Value → Shared → Prop} (hh : A.handled = none) (hl : s.heap.IsList l items ∨ s.heap.IsTuple l items) (hit : items.toList = ks.map (·.1)) (hk : ∀ p ∈ ks, Elm P w s.heap sc p) (hfew : ks.length < setRoom sc) (hu : A.units + 60 < cLine)
    (h : ∀ (h' : Heap) (tk : Nat) L es ep t, SG P w h' s.heap.objs.size sc L es ep t → GotE ks ks.length L → (∀ b o, s.heap.get? b = some o → h'.get? b = some o) → Q .none { s with heap := h', toks := tk }) :
    wpAny (model P w) A (Builtin.«set.__init__» ⟨[.ref s.heap.objs.size, .ref l], []⟩) (fun fin s' => ∃ r, fin = .done (.ret r) ∧ Q r s') E { s with heap := s.heap.push (newSetO w) } := by
  have hS : (s.heap.push (newSetO w)).get? s.heap.objs.size = some (newSetO w) := Heap.get?_push_size _ rfl
  unfold Builtin.«set.__init__» noKeywords Builtin.Frozenset.updateFrom
  rcases hl with hl | hl
  · obtain ⟨ol, hol, hcl, nl, hdl⟩ := id hl
    obtain ⟨ocls, odict, odata, oslots⟩ := ol
    simp only at hcl hdl
    subst hcl
    subst hdl
    have hol' : (s.heap.push (newSetO w)).get? l = some { cls := .type "list", dict := odict, data := .seq items nl, slots := oslots } := Heap.get?_push_of_some _ hol
    have w1 := F.sub_list_set
    have w2 := F.sub_list_frozenset
    have w3 : (Value.type "list" == Value.type "dict") = false := by decide
    have hl1 : (s.heap.push (newSetO w)).IsList l items := ⟨_, hol', rfl, nl, rfl⟩
    generalize hPI : pyIter = PI
    wp_walk
    subst hPI
    refine wpAny_pyIter_list hl1 ?_
    refine wpAny_bind (wpAny_runValue ?_)
    have z1 : (s.heap.push (newSetO w)).objs.size = s.heap.objs.size + 1 := Heap.size_push ..
    dsimp only
    rw [z1]
    refine fill_list (E := E) hh hl hit hk hfew hu fun s' L es ep t hS' g' hkp e1 e2 e3 => ?_
    refine wpAny_pure (wpAny_pure ⟨_, rfl, ?_⟩)
    obtain ⟨h', g2, d', tk', os'⟩ := s'
    cases e1
    cases e2
    cases e3
    exact h _ _ _ _ _ _ hS' g' hkp
  · obtain ⟨ol, hol, hcl, nl, hdl⟩ := id hl
    obtain ⟨ocls, odict, odata, oslots⟩ := ol
    simp only at hcl hdl
    subst hcl
    subst hdl
    have hol' : (s.heap.push (newSetO w)).get? l = some { cls := .type "tuple", dict := odict, data := .seq items nl, slots := oslots } := Heap.get?_push_of_some _ hol
    have w1 := F.sub_tuple_set
    have w2 := F.sub_tuple_frozenset
    have w3 : (Value.type "tuple" == Value.type "dict") = false := by decide
    have hl1 : (s.heap.push (newSetO w)).IsTuple l items := ⟨_, hol', rfl, nl, rfl⟩
    generalize hPI : pyIter = PI
    wp_walk
    subst hPI
    refine wpAny_pyIter_tuple hl1 ?_
    refine wpAny_bind (wpAny_runValue ?_)
    have z1 : (s.heap.push (newSetO w)).objs.size = s.heap.objs.size + 1 := Heap.size_push ..
    dsimp only
    rw [z1]
    refine fill_tup (E := E) hh hl hit hk hfew hu fun s' L es ep t hS' g' hkp e1 e2 e3 => ?_
    refine wpAny_pure (wpAny_pure ⟨_, rfl, ?_⟩)
    obtain ⟨h', g2, d', tk', os'⟩ := s'
    cases e1
    cases e2
    cases e3
    exact h _ _ _ _ _ _ hS' g' hkp
/-- set(xs) -/
theorem call_setG {l : Addr} {items : Array Value} {ks : EL} {Q : Value → Shared → Prop} (hh : A.handled = none) (hl : s.heap.IsList l items ∨ s.heap.IsTuple l items) (hit : items.toList = ks.map (·.1)) (hk : ∀ p ∈ ks, Elm P w s.heap sc p) (hfew : ks.length < setRoom sc) (hu : A.units + 64 < cLine)
    (h : ∀ (h' : Heap) (tk : Nat) L es ep t, SG P w h' s.heap.objs.size sc L es ep t → GotE ks ks.length L → (∀ b o, s.heap.get? b = some o → h'.get? b = some o) → Q (.ref s.heap.objs.size) { s with heap := h', toks := tk }) :
    wpAny (model P w) A (call (.type "set") [.ref l]) Q E s := by
  obtain ⟨c, tl, hmro⟩ := F.called_set.mro
  have v1 := F.called_set.made
  have v2 := F.called_set.sub
  have v3 := F.called_set.notType
  have v4 := F.called_set.canCreate
  have v5 := F.typeCall_set_1 (.ref l)
  refine wpAny_call (codeAny_of_tree ?_)
  show wpAny _ _ (callAny (.type "set") _) _ _ _
  refine wpAny_pure ⟨Code.quiet_builtin _ (by decide +kernel), codeAny_builtin F.entry_type_call ?_⟩
  rw [Around.under_plain (weight_type_call_type "set" [.ref l] []) rfl]
  repeat (any_goals (first | assumption | wp_step))
  refine codeAny_mono (code_set_led1 (.ref l) (E := E) (Q₁ := fun ob z => ob = .ref s.heap.objs.size ∧ z = { s with heap := s.heap.push (newSetO w) }) ⟨rfl, rfl⟩) fun r z hr => ?_
  cases r with
  | error e => exact hr
  | ok fl =>
    cases fl with
    | ret ob =>
      obtain ⟨rfl, rfl⟩ := hr
      have hS : (s.heap.push (newSetO w)).get? s.heap.objs.size = some (newSetO w) := Heap.get?_push_size _ rfl
      have hT : Shared.TypeIs { s with heap := s.heap.push (newSetO w) } (.ref s.heap.objs.size) "set" := ⟨_, hS, rfl⟩
      have u1 := F.called_set.init.lookup
      have u2 := F.called_set.init.bind (.ref s.heap.objs.size)
      repeat (any_goals (first | assumption | wp_step))
      refine codeAny_mono (codeAny_call_builtin (R := wants (fun r z => r = .none ∧ Q (.ref s.heap.objs.size) z) E) F.called_set.init.plain F.entry_set_init (check_set_init_1 hT ?_)) fun r2 z2 hr2 => ?_
      · refine wpAny_mono (init_set (E := E) (Q := fun r z => r = .none ∧ Q (.ref s.heap.objs.size) z) ?_ hl hit hk hfew ?_ fun h' tk L es ep t a1 a2 a3 => ⟨rfl, h h' tk L es ep t a1 a2 a3⟩) ?_ ?_
        · simp [hh]
        · show A.units + 1 + 1 + 60 < cLine
          omega
        · rintro fin z ⟨r, rfl, q⟩
          exact q
        · exact fun e z q => q
      · cases r2 with
        | error e => exact hr2
        | ok fl2 =>
          cases fl2 with
          | ret r =>
            obtain ⟨rfl, q⟩ := hr2
            repeat (any_goals (first | assumption | wp_step))
          | _ => exact hr2.elim
    | _ => exact hr.elim
end
end VR

/-! VS5: sorted(set(e)), len(set(e)) by trees. -/
namespace VR
open PySem PySem.Spec PyProof.Rows L2
/-! ### data as keys -/
mutual
def nkD : PyData → Option NestedKey
  | .int i => some (.num i)
  | .str x => some (.text x)
  | .tuple ds => match nkDs ds with
    | some ks => some (.tup ks)
    | none => none
  | _ => none
def nkDs : List PyData → Option (List NestedKey)
  | [] => some []
  | d :: ds => match nkD d, nkDs ds with
    | some k, some ks => some (k :: ks)
    | _, _ => none
end
mutual
theorem nkD_inj : ∀ (d e : PyData) (k : NestedKey), nkD d = some k → nkD e = some k → d = e
  | .none, e, k, h, _ => by simp [nkD] at h
  | .bool _, e, k, h, _ => by simp [nkD] at h
  | .list _, e, k, h, _ => by simp [nkD] at h
  | .dict _, e, k, h, _ => by simp [nkD] at h
  | .int i, e, k, h, h2 => by
    simp only [nkD, Option.some.injEq] at h
    subst h
    cases e <;> simp only [nkD] at h2 <;> try cases h2
    · rfl
    · split at h2 <;> cases h2
  | .str i, e, k, h, h2 => by
    simp only [nkD, Option.some.injEq] at h
    subst h
    cases e <;> simp only [nkD] at h2 <;> try cases h2
    · rfl
    · split at h2 <;> cases h2
  | .tuple ds, e, k, h, h2 => by
    simp only [nkD] at h
    split at h
    · rename_i ks e1
      cases h
      cases e <;> simp only [nkD] at h2 <;> try cases h2
      split at h2
      · rename_i ks2 e2
        cases h2
        rw [nkDs_inj ds _ ks e1 e2]
      · cases h2
    · cases h
theorem nkDs_inj : ∀ (ds es : List PyData) (ks : List NestedKey), nkDs ds = some ks → nkDs es = some ks → ds = es
  | [], es, ks, h, h2 => by
    simp only [nkDs, Option.some.injEq] at h
    subst h
    cases es with
    | nil => rfl
    | cons e es =>
      simp only [nkDs] at h2
      split at h2 <;> cases h2
  | d :: ds, es, ks, h, h2 => by
    simp only [nkDs] at h
    split at h
    · rename_i k kr e1 e2
      cases h
      cases es with
      | nil => simp [nkDs] at h2
      | cons e es =>
        simp only [nkDs] at h2
        split at h2
        · rename_i k' kr' f1 f2
          cases h2
          rw [nkD_inj d e k e1 f1, nkDs_inj ds es kr e2 f2]
        · cases h2
    · cases h
end
section
variable {X : Cx} {pins : List (Addr × Obj)} {σ : L2.St} {H : Hp} {s : Shared}
mutual
theorem dq_nest (I : Inv X pins σ H s) : ∀ (d : PyData) (v : V) (u : Value) (k : NestedKey), Dq X.K H v d → RelV v u → nkD d = some k → NestedIs s.heap k u
  | .none, _, _, _, _, _, h => by simp [nkD] at h
  | .bool _, _, _, _, _, _, h => by simp [nkD] at h
  | .list _, _, _, _, _, _, h => by simp [nkD] at h
  | .dict _, _, _, _, _, _, h => by simp [nkD] at h
  | .int i, _, _, _, h, r, e => by
    simp only [nkD, Option.some.injEq] at e
    subst e
    cases h
    obtain ⟨t, rfl⟩ := r
    exact .int i t
  | .str i, _, _, _, h, r, e => by
    simp only [nkD, Option.some.injEq] at e
    subst e
    cases h
    obtain ⟨t, rfl⟩ := r
    exact .text i t
  | .tuple ds, _, _, _, h, r, e => by
    simp only [nkD] at e
    split at e
    · rename_i ks e1
      cases e
      cases h with
      | tup h1 h2 =>
        cases r
        obtain ⟨its, rv, ⟨o, ho, hc, n, hd⟩, _⟩ := I.tuple (SqT.of h1)
        exact .tup ho hc hd (by simpa using dq_nests I ds _ its ks h2 rv e1)
    · cases e
theorem dq_nests (I : Inv X pins σ H s) : ∀ (ds : List PyData) (vs : List V) (us : List Value) (ks : List NestedKey), DqAll X.K H vs ds → Vals vs us → nkDs ds = some ks → NestedAll s.heap ks us
  | [], _, _, _, h, r, e => by
    simp only [nkDs, Option.some.injEq] at e
    subst e
    cases h
    cases r
    exact .nil
  | d :: ds, _, _, _, h, r, e => by
    simp only [nkDs] at e
    split at e
    · rename_i k kr e1 e2
      cases e
      cases h with
      | cons h1 h2 =>
        cases r with
        | cons r1 r2 => exact .cons (dq_nest I d _ _ k h1 r1 e1) (dq_nests I ds _ _ kr h2 r2 e2)
    · cases e
end
end
/-- what a set may be made of: numbers and texts (sc), or tuples -/
def setOk1 (sc : Bool) (d : PyData) : Bool := match d with
  | .int _ => sc
  | .str _ => sc
  | .tuple _ => !sc && (match nkD d with
    | some k => decide (k.depth ≤ 8)
    | none => false)
  | _ => false
def setOk (sc : Bool) (ds : List PyData) : Bool := ds.all (setOk1 sc) && decide (ds.length < setRoom sc)
theorem setOk1_key {sc : Bool} {d : PyData} (h : setOk1 sc d = true) : ∃ k, nkD d = some k ∧ k.depth ≤ 8 := by
  unfold setOk1 at h
  split at h
  · exact ⟨_, rfl, by simp [NestedKey.depth]⟩
  · exact ⟨_, rfl, by simp [NestedKey.depth]⟩
  · rw [Bool.and_eq_true] at h
    split at h
    · rename_i k e
      exact ⟨k, e, of_decide_eq_true h.2⟩
    · exact absurd h.2 (by decide)
  · cases h
theorem setOk1_elm {X : Cx} {pins : List (Addr × Obj)} {σ : L2.St} {H : Hp} {s : Shared} (I : Inv X pins σ H s) {sc : Bool} {d : PyData} {v : V} {u : Value} {k : NestedKey} (h : setOk1 sc d = true) (hd : Dq X.K H v d) (r : RelV v u) (hk : nkD d = some k) : Elm X.prog X.w s.heap sc (u, k) := by
  refine ⟨dq_nest I d v u k hd r hk, ?_, ?_⟩
  · obtain ⟨k', e, q⟩ := setOk1_key h
    rw [hk] at e
    cases e
    exact q
  · unfold setOk1 at h
    split at h
    · subst h
      cases hd
      obtain ⟨t, rfl⟩ := r
      simp only [nkD, Option.some.injEq] at hk
      subst hk
      simp only [if_true]
      exact ⟨.inl _, keyIs_int _ t, rfl, rfl⟩
    · subst h
      cases hd
      obtain ⟨t, rfl⟩ := r
      simp only [nkD, Option.some.injEq] at hk
      subst hk
      simp only [if_true]
      exact ⟨.inr _, keyIs_str _ t, rfl, rfl⟩
    · rw [Bool.and_eq_true] at h
      cases sc
      · cases hd
        cases r
        simp only [Bool.false_eq_true, if_false]
        exact ⟨_, rfl⟩
      · cases h.1
    · cases h
/-! ### each once -/
def dedupD : List PyData → List PyData
  | [] => []
  | d :: ds => if d ∈ ds then dedupD ds else d :: dedupD ds
theorem mem_dedup {d : PyData} : ∀ {ds : List PyData}, d ∈ dedupD ds ↔ d ∈ ds
  | [] => Iff.rfl
  | e :: ds => by
    unfold dedupD
    split
    · rename_i h
      rw [mem_dedup, List.mem_cons]
      exact ⟨.inr, fun z => z.elim (fun q => by rw [q]; exact h) id⟩
    · rw [List.mem_cons, List.mem_cons, mem_dedup]
theorem nodup_dedup : ∀ ds : List PyData, (dedupD ds).Nodup
  | [] => List.nodup_nil
  | e :: ds => by
    unfold dedupD
    split
    · exact nodup_dedup ds
    · rename_i h
      exact List.nodup_cons.mpr ⟨fun z => h (mem_dedup.mp z), nodup_dedup ds⟩
/-! ### alike data in order: one order alone -/
mutual
theorem toks_inj : ∀ (x y : PyData) (l m : List (Int ⊕ List Nat)), PySem.W.alike x y = true → PySem.W.keyToks x ++ l = PySem.W.keyToks y ++ m → x = y ∧ l = m
  | .none, y, l, m, h, e => by
    cases y <;> simp [PySem.W.alike] at h
    simpa [PySem.W.keyToks] using e
  | .bool b, y, l, m, h, e => by
    cases y <;> simp [PySem.W.alike] at h
    rename_i c
    cases b <;> cases c <;> simp [PySem.W.keyToks] at e <;> simp [e]
  | .int b, y, l, m, h, e => by
    cases y <;> simp [PySem.W.alike] at h
    simp [PySem.W.keyToks] at e
    simp [e]
  | .str b, y, l, m, h, e => by
    cases y <;> simp [PySem.W.alike] at h
    rename_i c
    simp only [PySem.W.keyToks, List.cons_append, List.nil_append, List.cons.injEq, Sum.inr.injEq] at e
    exact ⟨by rw [PySem.W.str_of_cps e.1], e.2⟩
  | .list xs, y, l, m, h, e => by
    cases y <;> simp only [PySem.W.alike] at h <;> try cases h
    simp only [PySem.W.keyToks] at e
    obtain ⟨q1, q2⟩ := toksAll_inj xs _ l m h e
    exact ⟨by rw [q1], q2⟩
  | .tuple xs, y, l, m, h, e => by
    cases y <;> simp only [PySem.W.alike] at h <;> try cases h
    simp only [PySem.W.keyToks] at e
    obtain ⟨q1, q2⟩ := toksAll_inj xs _ l m h e
    exact ⟨by rw [q1], q2⟩
  | .dict _, y, l, m, h, e => by cases y <;> simp [PySem.W.alike] at h
theorem toksAll_inj : ∀ (xs ys : List PyData) (l m : List (Int ⊕ List Nat)), PySem.W.alikeAll xs ys = true → PySem.W.keyToksAll xs ++ l = PySem.W.keyToksAll ys ++ m → xs = ys ∧ l = m
  | [], [], l, m, h, e => by simpa [PySem.W.keyToksAll] using e
  | [], _ :: _, l, m, h, e => by simp [PySem.W.keyToksAll] at e
  | _ :: _, [], l, m, h, e => by simp [PySem.W.keyToksAll] at e
  | x :: xs, y :: ys, l, m, h, e => by
    rw [PySem.W.alikeAll, Bool.and_eq_true] at h
    simp only [PySem.W.keyToksAll, List.cons_append, List.append_assoc, List.cons.injEq, true_and] at e
    obtain ⟨q1, q2⟩ := toks_inj x y _ _ h.1 e
    obtain ⟨q3, q4⟩ := toksAll_inj xs ys l m h.2 q2
    exact ⟨by rw [q1, q3], q4⟩
end
theorem dataLe_anti {x y : PyData} (h : PySem.W.alike x y = true) (h1 : PySem.W.dataLe false id x y = true) (h2 : PySem.W.dataLe false id y x = true) : x = y := by
  have e1 : PyProof.Rows.lexLt itemOrd (PySem.W.keyToks y) (PySem.W.keyToks x) = false := by
    have q : (!PyProof.Rows.lexLt itemOrd (PySem.W.keyToks y) (PySem.W.keyToks x)) = true := h1
    simpa using q
  have e2 : PyProof.Rows.lexLt itemOrd (PySem.W.keyToks x) (PySem.W.keyToks y) = false := by
    have q : (!PyProof.Rows.lexLt itemOrd (PySem.W.keyToks x) (PySem.W.keyToks y)) = true := h2
    simpa using q
  have e3 := PyProof.Rows.lex_total (O := itemOrd) _ _ e2 e1
  exact (toks_inj x y [] [] h (by rw [e3])).1
theorem sorted_unique {α : Type} {le : α → α → Bool} : ∀ {l m : List α}, l.Perm m → (∀ x ∈ l, ∀ y ∈ l, le x y = true → le y x = true → x = y) → l.Pairwise (fun x y => le x y = true) → m.Pairwise (fun x y => le x y = true) → l = m
  | [], m, p, _, _, _ => (List.nil_perm.mp p).symm
  | x :: l, m, p, an, s1, s2 => by
    cases m with
    | nil => exact absurd (List.perm_nil.mp p) (List.cons_ne_nil _ _)
    | cons y m =>
      have e : x = y := by
        have a1 : y ∈ x :: l := p.mem_iff.mpr List.mem_cons_self
        have a2 : x ∈ y :: m := p.mem_iff.mp List.mem_cons_self
        rcases List.mem_cons.mp a1 with z | z
        · exact z.symm
        · rcases List.mem_cons.mp a2 with z2 | z2
          · exact z2
          · exact an x List.mem_cons_self y a1 ((List.pairwise_cons.mp s1).1 y z) ((List.pairwise_cons.mp s2).1 x z2)
      subst e
      rw [sorted_unique (List.Perm.cons_inv p) (fun u hu v hv => an u (List.mem_cons_of_mem _ hu) v (List.mem_cons_of_mem _ hv)) (List.pairwise_cons.mp s1).2 (List.pairwise_cons.mp s2).2]
theorem dataLe_trans (x y z : PyData) (h1 : PySem.W.dataLe false id x y = true) (h2 : PySem.W.dataLe false id y z = true) : PySem.W.dataLe false id x z = true := (PySem.W.sortLe_total (listOrd itemOrd) false fun b => PySem.W.keyToks (id b)).trans x y z h1 h2
theorem dataLe_total (x y : PyData) : (PySem.W.dataLe false id x y || PySem.W.dataLe false id y x) = true := by
  rw [Bool.or_eq_true]
  exact (PySem.W.sortLe_total (listOrd itemOrd) false fun b => PySem.W.keyToks (id b)).total x y
theorem sortD_perm (ds : List PyData) : (sortD ds).Perm ds := List.mergeSort_perm _ _
theorem sortD_sorted (ds : List PyData) : (sortD ds).Pairwise (fun x y => PySem.W.dataLe false id x y = true) := List.pairwise_mergeSort dataLe_trans dataLe_total ds
theorem sortD_eq {ds es : List PyData} (p : ds.Perm es) (al : PySem.W.AllAlike ds) : sortD ds = sortD es :=
  sorted_unique ((sortD_perm ds).trans (p.trans (sortD_perm es).symm)) (fun x hx y hy h1 h2 => dataLe_anti (al x ((sortD_perm ds).mem_iff.mp hx) y ((sortD_perm ds).mem_iff.mp hy)) h1 h2) (sortD_sorted ds) (sortD_sorted es)
/-! ### the set as a thing of the heap -/
abbrev VD := V × PyData
/-- the set at a: its elements -/
structure SG0 (w : World) (h : Heap) (a : Addr) (sc : Bool) (L : EL) (es : Array (Int × Value)) (ep : Nat) (t : SetTable) : Prop where
  ob : ∃ o, h.get? a = some o ∧ o.ExactSet ∧ o.data = .set es ep t
  rows : es.toList = eRows w L
  led : w.params.followText "set-order" = true ∨ t.led = true
  ris : Ris t.place.toList
  fit : t.fits es.size = true
  few : L.length < scanBound
def SetEO (w : World) (a : Addr) (sc : Bool) (M : List VD) : HO := .ext fun h => ∃ L es ep t, SG0 w h a sc L es ep t ∧ PySem.W.EachIs (fun (p : Value × NestedKey) (b : VD) => RelV b.1 p.1) L M
theorem setEO_new {P : Program} {w : World} {H : Hp} {h : Heap} {a : Addr} {sc : Bool} {L : EL} {es : Array (Int × Value)} {ep : Nat} {t : SetTable} {M : List VD} (R : SG0 w h a sc L es ep t) (e : PySem.W.EachIs (fun (p : Value × NestedKey) (b : VD) => RelV b.1 p.1) L M) : ObjOk P w H h a (SetEO w a sc M) := by
  obtain ⟨o, ho, r⟩ := R.ob
  refine ⟨⟨L, es, ep, t, R, e⟩, ⟨o, ho⟩, fun h1 h2 q k => ?_⟩
  obtain ⟨L', es', ep', t', R', e'⟩ := q
  obtain ⟨o', ho', r'⟩ := R'.ob
  exact ⟨L', es', ep', t', ⟨⟨o', k o' ho', r'⟩, R'.rows, R'.led, R'.ris, R'.fit, R'.few⟩, e'⟩
/-- the sources of a set -/
theorem each_src {X : Cx} {pins : List (Addr × Obj)} {σ : L2.St} {H : Hp} {s : Shared} {sc : Bool} (I : Inv X pins σ H s) : ∀ {vs : List V} {ds : List PyData} {us : List Value}, DqAll X.K H vs ds → Vals vs us → ds.all (setOk1 sc) = true →
    ∃ ks : EL, ks.map (·.1) = us ∧ PySem.W.EachIs (fun (p : Value × NestedKey) (b : VD) => RelV b.1 p.1 ∧ nkD b.2 = some p.2 ∧ setOk1 sc b.2 = true) ks (vs.zip ds) ∧ ∀ p ∈ ks, Elm X.prog X.w s.heap sc p
  | _, _, _, .nil, .nil, _ => ⟨[], rfl, .nil, fun p hp => by cases hp⟩
  | v :: vs, d :: ds, u :: us, .cons h1 h2, .cons r1 r2, ok => by
    rw [List.all_cons, Bool.and_eq_true] at ok
    obtain ⟨ks, e1, e2, e3⟩ := each_src I h2 r2 ok.2
    obtain ⟨k, q1, q2⟩ := setOk1_key ok.1
    refine ⟨(u, k) :: ks, by rw [List.map_cons, e1], .cons ⟨r1, q1, ok.1⟩ e2, fun p hp => ?_⟩
    rcases List.mem_cons.mp hp with z | z
    · rw [z]; exact setOk1_elm I ok.1 h1 r1 q1
    · exact e3 p z
theorem each_get {α β : Type} {R : α → β → Prop} : ∀ {as : List α} {bs : List β}, PySem.W.EachIs R as bs → ∀ a ∈ as, ∃ b ∈ bs, R a b
  | _, _, .nil, a, h => by cases h
  | _, _, .cons r t, a, h => by
    rcases List.mem_cons.mp h with z | z
    · exact ⟨_, List.mem_cons_self, by rw [z]; exact r⟩
    · obtain ⟨b, q1, q2⟩ := each_get t a z
      exact ⟨b, List.mem_cons_of_mem _ q1, q2⟩
theorem each_back {α β : Type} {R : α → β → Prop} : ∀ {as : List α} {bs : List β}, PySem.W.EachIs R as bs → ∀ b ∈ bs, ∃ a ∈ as, R a b
  | _, _, .nil, a, h => by cases h
  | _, _, .cons r t, a, h => by
    rcases List.mem_cons.mp h with z | z
    · exact ⟨_, List.mem_cons_self, by rw [z]; exact r⟩
    · obtain ⟨b, q1, q2⟩ := each_back t a z
      exact ⟨b, List.mem_cons_of_mem _ q1, q2⟩
theorem each_pick {α β : Type} {R : α → β → Prop} {B : List β} : ∀ {as : List α}, (∀ a ∈ as, ∃ b ∈ B, R a b) → ∃ bs : List β, PySem.W.EachIs R as bs ∧ ∀ b ∈ bs, b ∈ B
  | [], _ => ⟨[], .nil, fun b h => by cases h⟩
  | a :: as, h => by
    obtain ⟨b, q1, q2⟩ := h a List.mem_cons_self
    obtain ⟨bs, e1, e2⟩ := each_pick (as := as) fun x hx => h x (List.mem_cons_of_mem _ hx)
    refine ⟨b :: bs, .cons q2 e1, fun x hx => ?_⟩
    rcases List.mem_cons.mp hx with z | z
    · rw [z]; exact q1
    · exact e2 x z
theorem each_perm {α β : Type} {R : α → β → Prop} : ∀ {as as' : List α} {bs : List β}, as'.Perm as → PySem.W.EachIs R as bs → ∃ bs' : List β, bs'.Perm bs ∧ PySem.W.EachIs R as' bs' := by
  intro as as' bs p
  induction p generalizing bs with
  | nil => exact fun h => ⟨bs, List.Perm.refl _, h⟩
  | cons x _ ih =>
    intro h
    cases h with
    | cons r t =>
      obtain ⟨bs', q1, q2⟩ := ih t
      exact ⟨_ :: bs', q1.cons _, .cons r q2⟩
  | swap x y l =>
    intro h
    cases h with
    | cons r t =>
      cases t with
      | cons r2 t2 => exact ⟨_ :: _ :: _, List.Perm.swap .., .cons r2 (.cons r t2)⟩
  | trans _ _ ih1 ih2 =>
    intro h
    obtain ⟨b1, q1, q2⟩ := ih2 h
    obtain ⟨b2, q3, q4⟩ := ih1 q2
    exact ⟨b2, q3.trans q1, q4⟩
section
variable {X : Cx} {W : WX} {p : Bool} {a : Expr} {ea : Ev}
/-- set(e) -/
def rSetE (K : PySem.W.Frag) (w : World) : List V → Hp → VK → Prop := fun xs H Q => ∃ (G : Hp) (x : V) (t : T) (b : Bool) (ds : List PyData) (sc : Bool), xs = [x] ∧ Same G H ∧ Vw K G H x t ∧ t.seq = some (b, ds) ∧ setOk sc ds = true ∧
  ∀ (q : Addr) (M : List VD), H q = none → (∀ y ∈ M, Dq K G y.1 y.2) → (M.map (·.2)).Nodup → (∀ d, d ∈ M.map (·.2) ↔ d ∈ ds) → Q (.ref q) (upd H q (SetEO w q sc M))
theorem cr_setE (hc : X.calm = true) (hu : X.A.units + 64 < cLine) : CallR X (.type "set") (rSetE X.K X.w) := by
  intro pins s σ H xs us Q I r h
  obtain ⟨G, x, t, b, ds, sc, rfl, sg, h1, e, ok, k⟩ := h
  obtain ⟨l, vs, rfl, q1, q2, q3⟩ := vw_seq sg h1 e
  rw [Vals.ref1 r]
  unfold setOk at ok
  rw [Bool.and_eq_true, decide_eq_true_eq] at ok
  have hn : H s.heap.objs.size = none := I.hok.fresh (Nat.le_refl _)
  have src : ∃ its : List Value, Vals vs its ∧ (s.heap.IsList l its.toArray ∨ s.heap.IsTuple l its.toArray) := by
    cases b
    · obtain ⟨its, rv, pl, hz⟩ := I.list (q2 rfl)
      exact ⟨its, rv, .inl pl.isList⟩
    · obtain ⟨its, rv, ⟨o, ho, hcl, n, hd⟩, _⟩ := I.tuple (SqT.of (q3 rfl))
      exact ⟨its, rv, .inr ⟨o, ho, hcl, n, hd⟩⟩
  obtain ⟨its, rv, hl⟩ := src
  obtain ⟨ks, e1, e2, e3⟩ := each_src I (dpAll_mono sg _ _ q1) rv ok.1
  have hlen := dpAll_len q1
  have hkl : ks.length = ds.length := by
    have z := congrArg List.length e1
    rw [List.length_map, ← rv.length] at z
    omega
  refine call_setG (ks := ks) (I.ok.hd hc) hl (by rw [e1]) e3 (by rw [hkl]; exact ok.2) hu fun h' tk L es ep t' R g kp => ?_
  have sub : ∀ p ∈ L, p ∈ ks := fun p hp => List.mem_of_mem_take (g.sub p hp)
  obtain ⟨M, m1, m2⟩ := each_pick (R := fun (p : Value × NestedKey) (b : VD) => RelV b.1 p.1 ∧ nkD b.2 = some p.2) (B := vs.zip ds) (as := L) fun p hp => by
    obtain ⟨b, z1, z2⟩ := each_get e2 p (sub p hp)
    exact ⟨b, z1, z2.1, z2.2.1⟩
  have hM : ∀ y ∈ M, Dq X.K G y.1 y.2 := fun y hy => zip_at q1 y (m2 y hy)
  refine ⟨.ref s.heap.objs.size, upd H s.heap.objs.size (SetEO X.w s.heap.objs.size sc M), I.laid (t' := tk) kp (Nat.le_refl _) (setEO_new ⟨R.ob, R.rows, R.led, R.ris, R.fit, R.few⟩ (m1.mono fun _ _ z => z.1)), rfl, k _ M hn hM ?_ fun d => ?_⟩
  · -- keys are apart, so the data are
    have key : ∀ {L : EL} {M : List VD}, PySem.W.EachIs (fun (p : Value × NestedKey) (b : VD) => RelV b.1 p.1 ∧ nkD b.2 = some p.2) L M → (L.map (·.2)).Nodup → (M.map (·.2)).Nodup := by
      intro L M hE
      induction hE with
      | nil => exact fun _ => List.nodup_nil
      | @cons p b L M r t ih =>
        intro nd
        rw [List.map_cons, List.nodup_cons] at nd ⊢
        refine ⟨fun z => nd.1 ?_, ih nd.2⟩
        obtain ⟨y, y1, y2⟩ := List.mem_map.mp z
        obtain ⟨p2, z1, z2⟩ := each_back t y y1
        have : p2.2 = p.2 := by
          have w1 := r.2
          rw [← y2, z2.2] at w1
          exact Option.some.inj w1
        exact List.mem_map.mpr ⟨p2, z1, this⟩
    exact key m1 R.nd
  · constructor
    · intro z
      obtain ⟨y, y1, rfl⟩ := List.mem_map.mp z
      exact (List.of_mem_zip (m2 y y1)).2
    · intro z
      obtain ⟨i, hi, ei⟩ := List.getElem_of_mem z
      have hz : (vs.zip ds)[i]? = some (vs[i]'(by omega), d) := by
        rw [List.getElem?_eq_getElem (by rw [List.length_zip]; omega), List.getElem_zip, ei]
      obtain ⟨p, p1, p2⟩ := each_back e2 _ (List.mem_of_getElem? hz)
      have hp2 : p.2 ∈ L.map (·.2) := g.all p (by rw [List.take_length]; exact p1)
      obtain ⟨p', w1, w2⟩ := List.mem_map.mp hp2
      obtain ⟨y, y1, y2⟩ := each_get m1 p' w1
      have : y.2 = d := nkD_inj _ _ p.2 (by rw [y2.2, w2]) p2.2.1
      exact List.mem_map.mpr ⟨y, y1, this⟩
end
end VR

/-! VS6: sorted(set(e)), len(set(e)). -/
namespace VR
open PySem PySem.Spec PyProof.Rows L2
section
variable {X : Cx} {W : WX} {p : Bool} {a : Expr} {ea : Ev}
def rSortE (K : PySem.W.Frag) (w : World) : List V → Hp → VK → Prop := fun xs H Q => ∃ (q : Addr) (sc : Bool) (M : List VD), xs = [.ref q] ∧ H q = some (SetEO w q sc M) ∧ (∀ y ∈ M, Dq K H y.1 y.2) ∧ okSort (M.map (·.2)) = true ∧
  ∀ (p : Addr) (M' : List VD), M'.Perm M → H p = none → Q (.ref p) (upd H p (.lst ((M'.mergeSort (PySem.W.dataLe false Prod.snd)).map (·.1))))
theorem each_two {X : Cx} {pins : List (Addr × Obj)} {σ : L2.St} {H : Hp} {s : Shared} {h' : Heap} {q : Addr} (I : Inv X pins σ H s) (k : ∀ b o, s.heap.get? b = some o → h'.get? b = some o) (hq : s.heap.get? q = none) : ∀ {us : List Value} {M : List VD}, PySem.W.EachIs (fun u (b : VD) => RelV b.1 u) us M → (∀ y ∈ M, Dq X.K H y.1 y.2) → PySem.W.EachIs (fun u (b : VD) => ∃ as, Reads h' u b.2 as ∧ q ∉ as) us M
  | _, _, .nil, _ => .nil
  | _, _, .cons r t, h => by
    refine .cons ?_ (each_two I k hq t fun y hy => h y (List.mem_cons_of_mem _ hy))
    obtain ⟨as, z⟩ := Dp.reads I _ _ _ (dq_dp _ _ (h _ List.mem_cons_self)) r
    refine ⟨as, Reads.keeps k z, fun hm => ?_⟩
    obtain ⟨o, ho⟩ := PyProof.On.reads_mem_get z q hm
    rw [hq] at ho
    cases ho
theorem each_first {α β γ : Type} {R : γ → β → Prop} {f : α → γ} : ∀ {as : List α} {bs : List β}, PySem.W.EachIs (fun a b => R (f a) b) as bs → PySem.W.EachIs R (as.map f) bs
  | _, _, .nil => .nil
  | _, _, .cons r t => .cons r (each_first t)
theorem cr_sortE (hc : X.calm = true) (hu : X.A.units + 64 < cLine) : CallR X (.builtin "sorted") (rSortE X.K X.w) := by
  intro pins s σ H xs us Q I r h
  obtain ⟨q, sc, M, rfl, hq, hM, ok, k⟩ := h
  obtain ⟨L, es, ep, t, R, hE⟩ : ∃ L es ep t, SG0 X.w s.heap q sc L es ep t ∧ PySem.W.EachIs (fun (p : Value × NestedKey) (b : VD) => RelV b.1 p.1) L M := (I.hok q _ hq).1
  rw [Vals.ref1 r]
  obtain ⟨o, ho, hex, hd⟩ := R.ob
  have hsz := erows_len R.rows
  obtain ⟨al, so, dp⟩ := okSort_ok ok
  refine Calls.call_function_entry kind_sorted plain_sorted entry_sorted (args_sorted1 _) ?_
  unfold Builtin.«sorted»
  refine wpAny_bind (m := checkCount "sorted" 1 1 _) (wpAny_pure ?_)
  refine wpAny_bind (collect_set (A := X.A.in1) (I.ok.hd hc) ⟨o, ho, hex.1, hd⟩ R.fit (by rw [hsz]; exact R.few) R.ris R.led fun s1 vs k1 hz g1 o1 pm => ?_)
  rw [R.rows, List.map_map] at pm
  obtain ⟨L2, pL, eL⟩ := perm_map_inv pm
  obtain ⟨M', pM, hE'⟩ := each_perm pL hE
  have hML : M'.length = vs.length := by rw [eL, List.length_map, hE'.length]
  have hvl : vs.length < scanBound := by rw [eL, List.length_map, pL.length_eq]; exact R.few
  have hvs : vs.length ≤ sizeLine := by
    unfold scanBound at hvl
    rw [sizeLine_eq]
    omega
  refine wpAny_bind (wpAny_newList ?_ hvs)
  have hoL : (s1.heap.push (seqObj "list" vs.toArray 0)).get? s1.heap.objs.size = some (seqObj "list" vs.toArray 0) := Heap.get?_push_size _ rfl
  have hEv : PySem.W.EachIs (fun u (b : VD) => RelV b.1 u) vs M' := by
    rw [eL]
    exact each_first (f := (fun p : Value × NestedKey => ((p.2.hash X.w, p.1) : Int × Value).2)) hE'
  have em : (M'.map (·.2)).Perm (M.map (·.2)) := pM.map _
  have al' : PySem.W.AllAlike (M'.map Prod.snd) := fun d hd e he => al d (em.mem_iff.mp hd) e (em.mem_iff.mp he)
  have so' : PySem.W.Sortable (M'.map Prod.snd) := so.imp (fun z d hd => z d (em.mem_iff.mp hd)) fun z d hd => z d (em.mem_iff.mp hd)
  refine wpAny_bind (wpAny_holding (PySem.W.list_sort_data (β := VD) (enc := Prod.snd) (R := fun u b => RelV b.1 u) (bs := M') (s := { s1 with heap := s1.heap.push (seqObj "list" vs.toArray 0) }) hoL hEv (each_two I (fun b u e => Heap.get?_push_of_some _ (k1 b u e)) (none_above hz) hEv fun y hy => hM y (pM.mem_iff.mp hy)) al' so' (by rw [hML]; exact hvs) (fun b hb => ?_) fun out ho1 ho2 => ?_))
  · have z := dp b.2 (em.mem_iff.mp (List.mem_map.mpr ⟨b, hb, rfl⟩))
    show X.A.units + 1 + 1 + b.2.depth < cLine
    omega
  · obtain ⟨c, hc'⟩ := sortedHeap_at (vs := vs) (out := out.toArray) hoL
    have vv := each_vals ho2
    have lv : ((M'.mergeSort (PySem.W.dataLe false Prod.snd)).map (·.1)).length ≤ sizeLine := by
      rw [vv.length, ho1, hML]
      exact hvs
    have hn : H s1.heap.objs.size = none := I.hok.fresh hz
    have old : ∀ b u, s.heap.get? b = some u → (sortedHeap (s1.heap.push (seqObj "list" vs.toArray 0)) s1.heap.objs.size vs out.toArray).get? b = some u := fun b u e => by
      have z := k1 b u e
      have hlt := Heap.lt_size z
      rw [sortedHeap_old (Nat.ne_of_lt hlt) (by rw [size_push']; exact Nat.lt_succ_of_lt hlt)]
      exact Heap.get?_push_of_some _ z
    have J : Inv X pins σ (upd H s1.heap.objs.size (.lst ((M'.mergeSort (PySem.W.dataLe false Prod.snd)).map (·.1)))) { s with heap := sortedHeap (s1.heap.push (seqObj "list" vs.toArray 0)) s1.heap.objs.size vs out.toArray, gens := s1.gens, drawn := s1.drawn, toks := s1.toks } :=
      I.call (ch := []) (Un.laid old hz hn) (I.hok.laid old hz ⟨lv, out, c, vv, hc'⟩) (by rw [g1]; exact I.bare) (fun _ z => nomatch z)
    refine wpAny_pure ⟨_, rfl, .ref s1.heap.objs.size, _, ?_, rfl, k _ M' pM hn⟩
    have e : ({ s1 with heap := sortedHeap (s1.heap.push (seqObj "list" vs.toArray 0)) s1.heap.objs.size vs out.toArray } : Shared) = { s with heap := sortedHeap (s1.heap.push (seqObj "list" vs.toArray 0)) s1.heap.objs.size vs out.toArray, gens := s1.gens, drawn := s1.drawn, toks := s1.toks } := by
      cases s1
      cases s
      cases o1
      rfl
    exact e ▸ J
/-- sorted(set(e)) -/
def ssT (t : T) : Option T := match t.seq with
  | some (_, ds) => if (setOk true ds || setOk false ds) && okSort (dedupD ds) then some (tl (sortD (dedupD ds))) else none
  | none => none
theorem same_upd {H : Hp} {q : Addr} {o : HO} (h : H q = none) : Same H (upd H q o) := fun b u e => by
  unfold upd
  split
  · rename_i z
    rw [z, h] at e
    cases e
  · exact e
theorem okSort_perm {ds es : List PyData} (p : ds.Perm es) (h : okSort es = true) : okSort ds = true := by
  unfold okSort at h ⊢
  simp only [Bool.and_eq_true, List.all_eq_true, Bool.or_eq_true] at h ⊢
  obtain ⟨⟨h1, h2⟩, h3⟩ := h
  refine ⟨⟨fun d hd e he => h1 d (p.mem_iff.mp hd) e (p.mem_iff.mp he), h2.imp (fun z d hd => z d (p.mem_iff.mp hd)) fun z d hd => z d (p.mem_iff.mp hd)⟩, fun d hd => h3 d (p.mem_iff.mp hd)⟩
theorem perm_of_dedup {M ds : List PyData} (nd : M.Nodup) (h : ∀ d, d ∈ M ↔ d ∈ ds) : M.Perm (dedupD ds) := (List.perm_ext_iff_of_nodup nd (nodup_dedup ds)).mpr fun d => (h d).trans mem_dedup.symm
theorem de_sset (hu : X.A.units + 64 < cLine) {p0 p1 pos pos1 : Pos} (hc : X.calm = true) (hg : Gl X "sorted") (hm : X.mg "sorted" = none) (hg2 : Gl X "set") (hm2 : X.mg "set" = none) (hs : noStar a = true) (h : DP X W p a ea) :
    DE X W p (.Call (.Name "sorted" p0) [.Call (.Name "set" p1) [a] [] pos1] [] pos) (evB1 ssT ea) := by
  obtain ⟨t, h1, h2⟩ := h
  refine ⟨_, pe_callB (cr_sortE hc hu) hg hm rfl (pa_cons (pe_callTy (cr_setE hc hu) hg2 hm2 rfl (pa_cons h1 pa_nil (star_cons hs)) (by decide) (by decide) (star_cons hs) rfl) pa_nil rfl) (by decide) (by decide) rfl rfl, fun G H σ env ω Q r g => ?_⟩
  refine h2 G H σ env ω _ r ?_
  unfold evB1 at g
  cases q : ea env with
  | ok t env' =>
    rw [q] at g
    intro x G' H' ω' s1 r1 o1 n1 k1
    simp only [R.bind, R.lift] at g
    cases q2 : ssT t with
    | none =>
      rw [q2] at g
      exact g.elim
    | some rr =>
      rw [q2] at g
      unfold ssT at q2
      split at q2
      · rename_i b ds es
        split at q2
        · rename_i ok
          cases q2
          rw [Bool.and_eq_true, Bool.or_eq_true] at ok
          obtain ⟨sc, hsc⟩ : ∃ sc, setOk sc ds = true := ok.1.elim (fun z => ⟨_, z⟩) fun z => ⟨_, z⟩
          refine ⟨G', x, t, b, ds, sc, rfl, r1.sub, o1, es, hsc, fun qa M hqa hD nd hmem => ?_⟩
          have pd := perm_of_dedup nd hmem
          have sh : Same H' (upd H' qa (SetEO X.w qa sc M)) := same_upd hqa
          refine ⟨qa, sc, M, rfl, upd_same, fun y hy => dp_mono (fun b o e => sh b o (r1.sub b o e)) _ _ (hD y hy), okSort_perm pd ok.2, fun pp M' pM hpp => ?_⟩
          have hp' : H' pp = none := by
            cases e : H' pp with
            | none => rfl
            | some o =>
              rw [sh pp o e] at hpp
              cases hpp
          have ed : (M'.mergeSort (PySem.W.dataLe false Prod.snd)).map Prod.snd = sortD (dedupD ds) := by
            have e1 : (M'.mergeSort (PySem.W.dataLe false Prod.snd)).map Prod.snd = sortD (M'.map Prod.snd) := by
              unfold sortD
              exact PySem.W.sort_maps (r := PySem.W.dataLe false Prod.snd) (s := PySem.W.dataLe false id) Prod.snd (fun _ _ _ _ => rfl)
            rw [e1]
            have pp2 : (M'.map Prod.snd).Perm (dedupD ds) := (pM.map _).trans pd
            refine sortD_eq pp2 fun d hd e he => (okSort_ok ok.2).1 d (pp2.mem_iff.mp hd) e (pp2.mem_iff.mp he)
          have hd : DqAll X.K G' ((M'.mergeSort (PySem.W.dataLe false Prod.snd)).map (·.1)) (sortD (dedupD ds)) := by
            rw [← ed]
            refine dpAll_of (by rw [List.length_map, List.length_map]) fun i v d hv hd => ?_
            rw [List.getElem?_map] at hv hd
            cases z : (M'.mergeSort (PySem.W.dataLe false Prod.snd))[i]? with
            | none =>
              rw [z] at hv
              cases hv
            | some b =>
              rw [z] at hv hd
              cases hv
              cases hd
              exact hD b (pM.mem_iff.mp ((List.mergeSort_perm _ _).mem_iff.mp (List.mem_of_getElem? z)))
          have nl := NewT.lst (K := X.K) (G := G') (H := upd H' qa (SetEO X.w qa sc M)) (p := pp) (fun b o e => sh b o (r1.sub b o e)) hpp hd
          have nt : NewT X.K G' H' (.ref pp) (tl (sortD (dedupD ds))) G' (upd (upd H' qa (SetEO X.w qa sc M)) pp (.lst ((M'.mergeSort (PySem.W.dataLe false Prod.snd)).map (·.1)))) := by
            refine ⟨nl.g, fun b o e => nl.h b o (sh b o e), nl.s, fun b o e z => nl.f b o (sh b o e) z, ?_⟩
            obtain ⟨S, z1, z2⟩ := nl.o
            refine ⟨S, z1, fun b hb => ?_⟩
            cases e : H' b with
            | none => rfl
            | some o =>
              have y := z2 b hb
              rw [sh b o e] at y
              cases y
          exact good_new g s1 r1 n1 k1 nt
        · cases q2
      · cases q2
  | exc c env' =>
    rw [q] at g
    exact g
  | fail =>
    rw [q] at g
    exact g
end
end VR

/-! VS7: len(set(e)). -/
namespace VR
open PySem PySem.Spec PyProof.Rows L2
section
variable {X : Cx} {W : WX} {p : Bool} {a : Expr} {ea : Ev}
def rLenE (w : World) : List V → Hp → VK → Prop := fun xs H Q => ∃ (q : Addr) (sc : Bool) (M : List VD), xs = [.ref q] ∧ H q = some (SetEO w q sc M) ∧ Q (.int M.length) H
theorem cr_lenE : CallR X (.builtin "len") (rLenE X.w) := by
  intro pins s σ H xs us Q I r h
  obtain ⟨q, sc, M, rfl, hq, k⟩ := h
  obtain ⟨L, es, ep, t, R, hE⟩ : ∃ L es ep t, SG0 X.w s.heap q sc L es ep t ∧ PySem.W.EachIs (fun (p : Value × NestedKey) (b : VD) => RelV b.1 p.1) L M := (I.hok q _ hq).1
  rw [Vals.ref1 r]
  obtain ⟨o, ho, hex, hd⟩ := R.ob
  have hsz := erows_len R.rows
  have hf := R.few
  have hlen : es.size = M.length := by rw [hsz, hE.length]
  refine call_len_set ho hex hd R.fit (by unfold scanBound at hf; omega) ?_
  exact ⟨.int M.length, H, I.tok _, ⟨_, by rw [hlen]⟩, k⟩
def lsT (t : T) : Option T := match t.seq with
  | some (_, ds) => if setOk true ds || setOk false ds then some (.dat (.int (dedupD ds).length)) else none
  | none => none
theorem de_lset (hu : X.A.units + 64 < cLine) {p0 p1 pos pos1 : Pos} (hc : X.calm = true) (hg : Gl X "len") (hm : X.mg "len" = none) (hg2 : Gl X "set") (hm2 : X.mg "set" = none) (hs : noStar a = true) (h : DP X W p a ea) :
    DE X W p (.Call (.Name "len" p0) [.Call (.Name "set" p1) [a] [] pos1] [] pos) (evB1 lsT ea) := by
  obtain ⟨t, h1, h2⟩ := h
  refine ⟨_, pe_callB cr_lenE hg hm rfl (pa_cons (pe_callTy (cr_setE hc hu) hg2 hm2 rfl (pa_cons h1 pa_nil (star_cons hs)) (by decide) (by decide) (star_cons hs) rfl) pa_nil rfl) (by decide) (by decide) rfl rfl, fun G H σ env ω Q r g => ?_⟩
  refine h2 G H σ env ω _ r ?_
  unfold evB1 at g
  cases q : ea env with
  | ok t env' =>
    rw [q] at g
    intro x G' H' ω' s1 r1 o1 n1 k1
    simp only [R.bind, R.lift] at g
    cases q2 : lsT t with
    | none =>
      rw [q2] at g
      exact g.elim
    | some rr =>
      rw [q2] at g
      unfold lsT at q2
      split at q2
      · rename_i b ds es
        split at q2
        · rename_i ok
          cases q2
          rw [Bool.or_eq_true] at ok
          obtain ⟨sc, hsc⟩ : ∃ sc, setOk sc ds = true := ok.elim (fun z => ⟨_, z⟩) fun z => ⟨_, z⟩
          refine ⟨G', x, t, b, ds, sc, rfl, r1.sub, o1, es, hsc, fun qa M hqa hD nd hmem => ?_⟩
          have sh : Same H' (upd H' qa (SetEO X.w qa sc M)) := same_upd hqa
          have pd := (perm_of_dedup nd hmem).length_eq
          rw [List.length_map] at pd
          refine ⟨qa, sc, M, rfl, upd_same, ?_⟩
          rw [pd]
          have nt : NewT X.K G' H' (.int (dedupD ds).length) (.dat (.int (dedupD ds).length)) G' (upd H' qa (SetEO X.w qa sc M)) :=
            ⟨fun _ _ e => e, sh, fun b o e => sh b o (r1.sub b o e), fun _ _ _ z => z, fun _ => False, .dat (.int _) fun _ z => z, fun _ z => z.elim⟩
          exact good_new g s1 r1 n1 k1 nt
        · cases q2
      · cases q2
  | exc c env' =>
    rw [q] at g
    exact g
  | fail =>
    rw [q] at g
    exact g
end
end VR

/-! VT0: isinstance, freezing, moving, negative constants, list(d), a, b = x, y. -/
namespace VR
open PySem PySem.Spec PyProof.Rows L2
/-! ### isinstance -/
def tyT : T → Option String
  | .dat .none => some "NoneType"
  | .dat (.bool _) => some "bool"
  | .dat (.int _) => some "int"
  | .dat (.str _) => some "str"
  | .dat (.list _) => some "list"
  | .dat (.tuple _) => some "tuple"
  | .node .lst _ => some "list"
  | .node (.dct _ false _) _ => some "dict"
  | _ => none
theorem sq_ty {K : PySem.W.Frag} {H : Hp} {a : Addr} {vs : List V} (h : SqL K H a vs) : TyX K H (.ref a) (.type "list") := by
  rcases h with (h | ⟨o, h⟩) | ⟨o, its, n, h, hc, _⟩
  · exact .base (.lst h)
  · exact .base (.frz h)
  · exact .kList h hc
theorem vw_ty {K : PySem.W.Frag} {G H : Hp} {v : V} {t : T} {n : String} (s : Same G H) (h : Vw K G H v t) (e : tyT t = some n) : TyX K H v (.type n) := by
  cases h with
  | dat h =>
    cases h with
    | non => cases e; exact .base .non
    | bl b => cases e; exact .base (.bl b)
    | int i => cases e; exact .base (.int i)
    | str i => cases e; exact .base (.str i)
    | lst h1 h2 => cases e; exact sq_ty (same_sqL s h1)
    | tup h1 h2 => cases e; exact .base (.tup (s _ _ h1))
  | exc h => cases e
  | fdc h hk nd hd => cases e
  | @node a k vs ts A h l c =>
    cases k with
    | lst => cases e; exact .base (.lst h.1)
    | dct ks lk tk =>
      cases lk with
      | true => cases e
      | false =>
        cases e
        obtain ⟨_, q, _⟩ := h
        rcases q with ⟨_, kvs, _, _, z⟩ | ⟨_, kvs, _, _, z⟩
        · exact .base (.dK z)
        · exact .base (.dT z)
    | obj c fs => cases e
/-- the answers among the built-in types that come here -/
def isiB (a b : String) : Bool := a == b || (a == "bool" && b == "int")
def tyNames : List String := ["NoneType", "bool", "int", "str", "list", "tuple", "dict"]
theorem isi_tab : (tyNames.all fun a => tyNames.all fun b => decide (kitB a b = some (isiB a b))) = true := by decide +kernel
theorem tyT_in {t : T} {n : String} (h : tyT t = some n) : n ∈ tyNames := by
  unfold tyT at h
  split at h <;> first | (cases h; decide) | cases h
theorem kit_in {K : PySem.W.Frag} {a b : String} (ha : a ∈ tyNames) (hb : b ∈ tyNames) : PySem.W.kitOne K (.type a) (.type b) = some (isiB a b) := by
  have q := List.all_eq_true.mp (List.all_eq_true.mp isi_tab a ha) b hb
  exact kit_ty (of_decide_eq_true q)
def evIsi (ns : List String) (ea : Ev) : Ev := fun env => (ea env).bind fun t env' => R.lift ((tyT t).map fun n => T.dat (.bool (ns.any fun b => isiB n b))) env'
section
variable {X : Cx} {W : WX} {p pa pb : Bool} {nk : Nat} {e a b c : Expr} {ev ea eb : Ev} {pos : Pos}
theorem isi_read {te : TE} {n : String} (k : ∀ G H σ env ω (Q : VK), Rep X.K G H σ env ω → GoodP X W p G H σ ω Q (ea env) → te σ H Q) (hn : n ∈ tyNames) {G H : Hp} {σ : L2.St} {env : Envt} {ω : Own3} {Q : VK} (r : Rep X.K G H σ env ω) (g : GoodE X W p G H σ ω Q (evIsi [n] ea env)) :
    tCB (rIsi X.K) (tCons te (tCons (tC (.ty n)) tNil)) σ H Q := by
  refine k G H σ env ω _ r ?_
  unfold evIsi at g
  cases q : ea env with
  | ok t env' =>
    rw [q] at g
    intro x G' H' ω' s1 r1 o1 n1 k1
    simp only [R.bind, R.lift] at g
    cases q2 : tyT t with
    | none =>
      rw [q2] at g
      exact g.elim
    | some m =>
      rw [q2] at g
      refine ⟨x, .ty n, .type m, .type n, isiB m n, rfl, .ty n, vw_ty r1.sub o1 q2, kit_in (tyT_in q2) hn, ?_⟩
      have g' : GoodE X W p G H σ ω Q (.ok (.dat (.bool (isiB m n))) env') := by simpa using g
      exact good_dat g' s1 r1 n1 k1 (.bl _)
  | exc c env' =>
    rw [q] at g
    exact g
  | fail =>
    rw [q] at g
    exact g
theorem de_isi {n : String} {x : Str} {p0 p1 : Pos} (hg : Gl X "isinstance") (hm : X.mg "isinstance" = none) (hg2 : Gl X x) (hm2 : X.mg x = none) (hv : bootBuiltins x = some (.type n)) (hx : x ≠ "__name__") (hdb : (x == ("__debug__" : Str)) = false) (hn : n ∈ tyNames) (hs : noStar a = true) (h : DP X W p a ea) :
    DE X W p (.Call (.Name "isinstance" p0) [a, .Name x p1] [] pos) (evIsi [n] ea) := by
  obtain ⟨t, h1, h2⟩ := h
  exact ⟨_, pe_callB call_isi hg hm rfl (pa_cons h1 (pa_cons (pe_bltn (v := .ty n) hg2 hm2 hv rfl hx hdb) pa_nil rfl) (star_cons hs)) (by decide) (by decide) (star_cons hs) rfl, fun G H σ env ω Q r g => isi_read h2 hn r g⟩
theorem isi2_read {te : TE} {n m : String} (k : ∀ G H σ env ω (Q : VK), Rep X.K G H σ env ω → GoodP X W p G H σ ω Q (ea env) → te σ H Q) (hn : n ∈ tyNames) (hm : m ∈ tyNames) {G H : Hp} {σ : L2.St} {env : Envt} {ω : Own3} {Q : VK} (r : Rep X.K G H σ env ω) (g : GoodE X W p G H σ ω Q (evIsi [n, m] ea env)) :
    tCB (rIsiT X.K) (tCons te (tCons (tTup (tCons (tC (.ty n)) (tCons (tC (.ty m)) tNil))) tNil)) σ H Q := by
  refine k G H σ env ω _ r ?_
  unfold evIsi at g
  cases q : ea env with
  | ok t env' =>
    rw [q] at g
    intro x G' H' ω' s1 r1 o1 n1 k1
    simp only [R.bind, R.lift] at g
    cases q2 : tyT t with
    | none =>
      rw [q2] at g
      exact g.elim
    | some l =>
      rw [q2] at g
      refine ⟨show 2 ≤ sizeLine by decide, fun tp htp => ?_⟩
      have sh : Same H' (upd H' tp (.tup [.ty n, .ty m])) := same_upd htp
      refine ⟨x, tp, [.ty n, .ty m], .type l, [.type n, .type m], isiB l n || isiB l m, rfl, upd_same, .cons (.ty n) (.cons (.ty m) .nil), vw_ty (fun b o z => sh b o (r1.sub b o z)) (o1.step (fun _ _ z => z) sh) q2, ?_, ?_⟩
      · refine kitAny_cons (kit_in (tyT_in q2) hn) (fun z => ?_) fun z => by rw [z]; rfl
        rw [z, Bool.false_or]
        exact kitAny_cons (kit_in (tyT_in q2) hm) (fun y => by rw [y]; exact kitAny_nil) fun y => y
      · have g' : GoodE X W p G H σ ω Q (.ok (.dat (.bool (isiB l n || isiB l m))) env') := by simpa using g
        exact good_new g' s1 r1 n1 k1 ⟨fun _ _ z => z, sh, fun b o z => sh b o (r1.sub b o z), fun _ _ _ z => z, fun _ => False, .dat (.bl _) fun _ z => z, fun _ z => z.elim⟩
  | exc c env' =>
    rw [q] at g
    exact g
  | fail =>
    rw [q] at g
    exact g
theorem de_isi2 {n m : String} {x y : Str} {k : Nat} {p0 p1 p2 p3 : Pos} (hg : Gl X "isinstance") (hm : X.mg "isinstance" = none) (hg2 : Gl X x) (hm2 : X.mg x = none) (hv : bootBuiltins x = some (.type n)) (hx : x ≠ "__name__") (hdb : (x == ("__debug__" : Str)) = false)
    (hg3 : Gl X y) (hm3 : X.mg y = none) (hv3 : bootBuiltins y = some (.type m)) (hx3 : y ≠ "__name__") (hdb3 : (y == ("__debug__" : Str)) = false) (hn : n ∈ tyNames) (hm' : m ∈ tyNames) (hs : noStar a = true) (h : DP X W p a ea) :
    DE X W p (.Call (.Name "isinstance" p0) [a, .Tuple [.Name x p1, .Name y p2] k p3] [] pos) (evIsi [n, m] ea) := by
  obtain ⟨t, h1, h2⟩ := h
  exact ⟨_, pe_callB call_isiT hg hm rfl (pa_cons h1 (pa_cons (pe_tup (pa_cons (pe_bltn (v := .ty n) hg2 hm2 hv rfl hx hdb) (pa_cons (pe_bltn (v := .ty m) hg3 hm3 hv3 rfl hx3 hdb3) pa_nil rfl) rfl)) pa_nil rfl) (star_cons hs)) (by decide) (by decide) (star_cons hs) rfl, fun G H σ env ω Q r g => isi2_read h2 hn hm' r g⟩
/-! ### a temporary frozen -/
def evFrz (ea : Ev) : Ev := fun env => (ea env).bind fun t env' => R.lift (t.frz.map T.dat) env'
theorem de_frz (h : DE X W p a ea) : DE X W p a (evFrz ea) := by
  obtain ⟨t, h1, h2⟩ := h
  refine ⟨t, h1, fun G H σ env ω Q r g => h2 G H σ env ω Q r ?_⟩
  unfold evFrz at g
  cases q : ea env with
  | ok t env' =>
    rw [q] at g
    intro v G1 H1 ω1 S s1 r1 o1 d1 n1 k1
    simp only [R.bind, R.lift] at g
    cases q2 : t.frz with
    | none =>
      rw [q2] at g
      exact g.elim
    | some d =>
      rw [q2] at g
      obtain ⟨G2, gs, r2, hd, fr⟩ := o1.freeze1 r1 d1 q2
      exact g v G2 H1 ω1 (fun _ => False) (step_freeze s1 n1 gs fr) r2 (.dat hd fun _ z => z) (fun _ z => z.elim) (fun b hb => n1 b (hb.elim .inl fun z => z.elim)) k1
  | exc c env' =>
    rw [q] at g
    exact g
  | fail =>
    rw [q] at g
    exact g
/-! ### a name's tree moved out -/
def evMove (i : Nat) : Ev := fun env => match env[i]? with
  | some (some t) => .ok t (env.set i none)
  | _ => .fail
theorem de_move {i : Nat} (h : PE X e (tVar i)) : DE X W true e (evMove i) := by
  refine ⟨_, h, fun G H σ env ω Q r g => ?_⟩
  unfold evMove at g
  split at g
  · rename_i t ht
    obtain ⟨v, ω', e1, r', o', d', n'⟩ := r.out ht
    refine ⟨v, e1, g v G H ω' _ .refl r' o' d' (fun b hb => ?_) fun _ _ _ z => z⟩
    rcases hb with hb | hb
    · exact .inl (n' b hb)
    · exact .inl ⟨i, hb⟩
  · exact g.elim
/-! ### a, b = x, y -/
def evPar (i j : Nat) (es : Envt → R (List T)) : Es := fun env => (es env).st fun ts env' => match ts with
  | [t, u] => if i < env'.length ∧ j < env'.length ∧ i ≠ j then .next ((env'.set i (some t)).set j (some u)) else .fail
  | _ => .fail
theorem ds_par {i j : Nat} {x y : Str} {es : Envt → R (List T)} {px py pt pt2 : Pos} {kt k2 : Nat} (h : DA X W p [a, b] es) (hki : nk ≤ i) (hkj : nk ≤ j)
    (ps : ∀ ta, PA X [a, b] ta → PS X (.Assign [.Tuple [.Name x px, .Name y py] kt pt] (.Tuple [a, b] k2 pt2) pos) (tPar i j ta)) : DS X W nk (.Assign [.Tuple [.Name x px, .Name y py] kt pt] (.Tuple [a, b] k2 pt2) pos) (evPar i j es) := by
  obtain ⟨ta, h1, h2⟩ := h
  refine ⟨_, ps ta h1, fun G H σ env ω D r g => h2 G H σ env ω _ r ?_⟩
  unfold evPar at g
  cases q : es env with
  | ok ts env' =>
    rw [q] at g
    intro vs G1 H1 ω1 τ s1 r1 l1 d1 n1 k1
    simp only [R.st] at g
    split at g
    · rename_i t u
      split at g
      · rename_i hij
        obtain ⟨v, w, rfl⟩ : ∃ v w, vs = [v, w] := by
          have z := l1.len
          match vs, z with
          | [v, w], _ => exact ⟨v, w, rfl⟩
        refine ⟨v, w, rfl, ?_⟩
        have ov := l1.own 0 v t rfl rfl
        have ow := l1.own 1 w u rfl rfl
        obtain ⟨ω2, r2, n2⟩ := r1.put hij.1 ov fun b hb => d1 b ⟨0, hb⟩
        have dw : ∀ b, τ b = some 1 → ω2 b = none := fun b hb => by
          cases z : ω2 b with
          | none => rfl
          | some l =>
            rcases n2 b ⟨l, z⟩ with y | ⟨l', y⟩
            · rw [hb] at y
              cases y
            · rw [d1 b ⟨1, hb⟩] at y
              cases y
        obtain ⟨ω3, r3, n3⟩ := r2.put (i := j) (by rw [List.length_set]; exact hij.2.1) ow dw
        refine g _ G1 H1 ω3 s1 r3 (fun b hb => n1 b ?_) ((Keep.set hki).trans (Keep.set hkj))
        rcases n3 b hb with z | z
        · exact .inr ⟨1, z⟩
        · rcases n2 b z with y | y
          · exact .inr ⟨0, y⟩
          · exact .inl y
      · exact g.elim
    · exact g.elim
  | exc c env' =>
    rw [q] at g
    exact goodX_S g
  | fail =>
    rw [q] at g
    exact g
end
end VR

/-! VT1: d.setdefault(k, []).append(e). -/
namespace VR
open PySem PySem.Spec PyProof.Rows L2
theorem inl_of {K : PySem.W.Frag} {H : Hp} {y : V} {d : PyData} {k : Key} (h : Dq K H y d) (e : DK.of d = some (.inl k)) : y = kV k := by
  cases h with
  | int i => cases e; rfl
  | str i => cases e; rfl
  | tup h1 h2 =>
    simp only [DK.of, Option.map_eq_some_iff] at e
    obtain ⟨_, _, z⟩ := e
    cases z
  | _ => cases e
theorem ixK_none {ks : List DK} {k : DK} (h : ixK ks k = none) : k ∉ ks := fun z => by
  have q := List.findIdx?_eq_none_iff.mp h k z
  simp at q
section
variable {X : Cx} {W : WX} {p pk : Bool} {e a b o k : Expr} {ea ek ev : Ev} {pos apos cpos apos2 cpos2 lpos : Pos}
theorem de_sda {i : Nat} (ho : PE X o (tVar i)) (hk : DP X W pk k ek) (h : DE X W p a ev) (m : M2 X o "setdefault" apos k (.List [] lpos) cpos) (hs : noStar a = true)
    (hbase : attributeBase (.Call (.Attribute o "setdefault" apos) [k, .List [] lpos] [] cpos) "append" X.env (eval (.Call (.Attribute o "setdefault" apos) [k, .List [] lpos] [] cpos) X.env) = eval (.Call (.Attribute o "setdefault" apos) [k, .List [] lpos] [] cpos) X.env)
    (hline : (apos2.endLine == cpos2.line) = true) : DE X W false (.Call (.Attribute (.Call (.Attribute o "setdefault" apos) [k, .List [] lpos] [] cpos) "append" apos2) [a] [] cpos2) (evSda i ek ev) := by
  obtain ⟨te, h1, h2⟩ := h
  obtain ⟨tk, g1, g2⟩ := hk
  have hst : starEach [a] X.env = (false, eval a X.env) :: starEach [] X.env := star_cons hs
  refine ⟨_, pe_bm PySem.F.plainAttrs_list PySem.F.slot_list_append PySem.F.type_list_append mt_append (pe_dsetd ho g1 (pe_lst pa_nil) m) (pa_cons h1 pa_nil hst) hbase (by rw [hst]; rfl) hline hst rfl, fun G H σ env ω Q r g => ?_⟩
  unfold evSda at g
  split at g
  · rename_i ks0 tk0 ts0 ht0
    obtain ⟨v, hv, o0⟩ := r.own i _ ht0
    obtain ⟨aa, rfl⟩ : ∃ aa, v = .ref aa := by
      cases o0 with
      | node _ _ _ _ _ _ => exact ⟨_, rfl⟩
    refine ⟨.ref aa, hv, aa, rfl, ?_, ?_⟩
    · obtain ⟨vs, A, τ, n, _⟩ := own_kids o0
      obtain ⟨_, q, _⟩ := n
      rcases q with ⟨_, kvs, _, _, z⟩ | ⟨_, kvs, _, _, z⟩
      · exact .inl ⟨kvs, .inl z⟩
      · exact .inr ⟨kvs, .inl z⟩
    refine g2 G H σ env ω _ r ?_
    cases q : ek env with
    | exc c env1 =>
      rw [q] at g
      exact g
    | fail =>
      rw [q] at g
      exact g
    | ok kt env1 =>
      rw [q] at g
      intro y G1 H1 ω1 s1 r1 o1 n1 k1
      simp only [R.bind] at g
      split at g
      · rename_i ks ts k' e1 e2
        split at g
        · rename_i hsz
          have hyk : y = kV k' := by
            cases z : kt.frz with
            | none =>
              rw [z] at e2
              cases e2
            | some d =>
              rw [z] at e2
              exact inl_of (o1.dq r1.sub z) e2
          refine ⟨Nat.zero_le _, fun pp hpp => ?_⟩
          obtain ⟨v', hv', _⟩ := r1.own i _ e1
          rw [hv] at hv'
          cases hv'
          obtain ⟨v', ω2, hv'', r2, ot, dt, n2⟩ := r1.out e1
          rw [hv] at hv''
          cases hv''
          have hpG : G1 pp = none := same_free r1.sub hpp
          have sh : Same H1 (upd H1 pp (.lst [])) := same_upd hpp
          have sp : ∀ b, (∃ ob, H1 b = some ob) → upd H1 pp (.lst []) b = H1 b := fun b ⟨ob, hb⟩ => (sh b ob hb).trans hb.symm
          have ot3 : Own X.K G1 (upd H1 pp (.lst [])) (.ref aa) (.node (.dct ks false false) ts) (fun b => ω1 b = some i) := ot.step (fun _ _ z => z) fun b hb => ⟨sp b (r1.there ⟨i, hb⟩).1, (r1.there ⟨i, hb⟩).2⟩
          have r3 : Rep X.K G1 (upd H1 pp (.lst [])) σ (env1.set i none) ω2 := r2.step (fun _ _ z => z) (fun b ob z => sh b ob (r1.sub b ob z)) fun b hb => ⟨sp b (r2.there hb).1, (r2.there hb).2⟩
          have s3 : Step G H (dom ω) G1 (upd H1 pp (.lst [])) := s1.trans (S1 := dom ω1) ⟨fun _ _ z => z, fun b ob _ z => ⟨sh b ob z, fun w => w⟩⟩ n1
          obtain ⟨vs, A, τ, nd, gA, l, nA, sS⟩ := own_kids ot
          obtain ⟨nk, q2, hA⟩ := id nd
          obtain ⟨kvs, ek1, ek2, cell'⟩ : ∃ kvs : List (Key × V), kvs.map (fun q => (Sum.inl q.1 : DK)) = ks ∧ kvs.map (·.2) = vs ∧ H1 aa = some (.dK kvs) := by
            rcases q2 with ⟨_, kvs, w1, w2, w3⟩ | ⟨z, _⟩
            · exact ⟨kvs, w1, w2, w3⟩
            · cases z
          have hlen : kvs.length = ts.length := by
            have z := l.len
            rw [← ek2, List.length_map] at z
            exact z
          have hix := valV_ix (f := fun x => (Sum.inl x : DK)) (fun x y z => Sum.inl.inj z) k' kvs
          rw [ek1, ek2] at hix
          have haa : upd H1 pp (.lst []) aa = some (.dK kvs) := sh aa _ cell'
          refine ⟨kvs, k', haa, hyk, by rw [hlen, sizeLine_eq]; omega, fun v0 hv0 => ?_, fun hnone => ?_⟩
          · cases hj : ixK ks (.inl k') with
            | none =>
              rw [hj] at hix
              rw [← hix] at hv0
              cases hv0
            | some j =>
              rw [hj] at hix g
              simp only [Option.bind_some] at hix
              rw [hv0] at hix
              simp only at g
              split at g
              · rename_i us hts
                exact sda_tail h2 s3 r3 (fun b hb => n1 b (hb.elim (fun z => n2 b z) fun z => ⟨i, z⟩)) hv ot3 dt ⟨vs, A, nodeAt_step nd fun b hb => sp b (nodeAt_some nd hb), hix⟩ hts g
              · exact g.elim
          · have hj : ixK ks (.inl k') = none := by
              cases hj : ixK ks (.inl k') with
              | none => rfl
              | some j =>
                rw [hj, hnone] at hix
                simp only [Option.bind_some] at hix
                obtain ⟨hjl, _⟩ := List.findIdx?_eq_some_iff_getElem.mp hj
                have : j < vs.length := by
                  rw [l.len, ← hlen, ← List.length_map (f := fun q : Key × V => (Sum.inl q.1 : DK)), ek1]
                  exact hjl
                rw [List.getElem?_eq_getElem this] at hix
                cases hix
            rw [hj] at g
            simp only at g
            rw [putK_new _ hnone]
            have hne : aa ≠ pp := fun z => by
              rw [z, hpp] at cell'
              cases cell'
            have hH4 : ∀ b, b ≠ aa → upd (upd H1 pp (.lst [])) aa (.dK (kvs ++ [(k', .ref pp)])) b = upd H1 pp (.lst []) b := fun b hb => upd_ne hb
            have hpd : ω1 pp = none := r1.fresh hpp
            have hpi : ∀ b, dom τ b → b ≠ pp := fun b hb z => by
              have w := (sS b).mpr (.inr hb)
              rw [z, hpd] at w
              cases w
            have haτ : ∀ b, dom τ b → b ≠ aa := fun b ⟨m, hm⟩ z => by
              have w := nA aa ((hA aa).mpr rfl)
              rw [← z, hm] at w
              cases w
            have l4 : OwnL X.K G1 (upd (upd H1 pp (.lst [])) aa (.dK (kvs ++ [(k', .ref pp)]))) vs ts τ := l.step (fun _ _ z => z) fun b hb => ⟨by rw [hH4 b (haτ b hb), upd_ne (hpi b hb)], (l.there hb).2⟩
            have op : Own X.K G1 (upd (upd H1 pp (.lst [])) aa (.dK (kvs ++ [(k', .ref pp)]))) (.ref pp) (.node .lst []) (fun b => b = pp ∨ dom (fun _ => none : Own3) b) :=
              own_of_kids (A := fun b => b = pp) ⟨by rw [hH4 pp (Ne.symm hne)]; exact upd_same, fun b => Iff.rfl⟩ (fun b hb => by rw [hb]; exact hpG) OwnL.nil fun _ _ => rfl
            obtain ⟨τ5, l5, d5⟩ := l4.snoc op fun b hb => by
              rcases hb with rfl | ⟨_, z⟩
              · cases w : τ b with
                | none => rfl
                | some m => exact absurd rfl (hpi b ⟨m, w⟩)
              · cases z
            have nd5 : NodeAt X.K (upd (upd H1 pp (.lst [])) aa (.dK (kvs ++ [(k', .ref pp)]))) aa (.dct (ks ++ [.inl k']) false false) (vs ++ [.ref pp]) (fun b => b = aa) := by
              refine ⟨?_, .inl ⟨rfl, kvs ++ [(k', V.ref pp)], ?_, ?_, show upd (upd H1 pp (.lst [])) aa (.dK (kvs ++ [(k', .ref pp)])) aa = some (.dK (kvs ++ [(k', .ref pp)])) from upd_same⟩, fun b => Iff.rfl⟩
              · refine List.nodup_append.mpr ⟨nk, List.nodup_cons.mpr ⟨List.not_mem_nil, List.nodup_nil⟩, fun x hx y hy z => ?_⟩
                rw [List.mem_singleton] at hy
                rw [z, hy] at hx
                exact ixK_none hj hx
              · rw [List.map_append, ek1]
                rfl
              · rw [List.map_append, ek2]
                rfl
            have ot5 := own_of_kids (G := G1) nd5 (fun b hb => by rw [hb]; exact gA aa ((hA aa).mpr rfl)) l5 fun b hb => by
              cases w : τ5 b with
              | none => rfl
              | some m =>
                rcases (d5 b).mp ⟨m, w⟩ with z | z | ⟨_, z⟩
                · exact absurd hb (haτ b z)
                · exact absurd (hb.symm.trans z) hne
                · cases z
            have hS5 : ∀ b, (b = aa ∨ dom τ5 b) → ω1 b = some i ∨ b = pp := fun b hb => by
              rcases hb with rfl | hb
              · exact .inl ((sS _).mpr (.inl ((hA _).mpr rfl)))
              · rcases (d5 b).mp hb with z | z | ⟨_, z⟩
                · exact .inl ((sS b).mpr (.inr z))
                · exact .inr z
                · cases z
            have dt5 : ∀ b, (b = aa ∨ dom τ5 b) → ω2 b = none := fun b hb => by
              rcases hS5 b hb with z | z
              · exact dt b z
              · rw [z]
                exact r2.fresh hpp
            have haω2 : ∀ b, dom ω2 b → b ≠ aa := fun b ⟨m, hm⟩ z => by
              have w := dt5 aa (.inl rfl)
              rw [← z, hm] at w
              cases w
            have sub5 : Same G1 (upd (upd H1 pp (.lst [])) aa (.dK (kvs ++ [(k', .ref pp)]))) := fun b ob z => by
              have w : b ≠ aa := fun y => by
                rw [y, gA aa ((hA aa).mpr rfl)] at z
                cases z
              rw [hH4 b w]
              exact sh b ob (r1.sub b ob z)
            have r5 : Rep X.K G1 (upd (upd H1 pp (.lst [])) aa (.dK (kvs ++ [(k', .ref pp)]))) σ (env1.set i none) ω2 := r3.step (fun _ _ z => z) sub5 fun b hb => ⟨hH4 b (haω2 b hb), (r3.there hb).2⟩
            have s5 : Step G H (dom ω) G1 (upd (upd H1 pp (.lst [])) aa (.dK (kvs ++ [(k', .ref pp)]))) := s1.trans (S1 := dom ω1) ⟨fun _ _ z => z, fun b ob hb z => ⟨by
              have w : b ≠ aa := fun y => hb ⟨i, by rw [y]; exact (sS _).mpr (.inl ((hA _).mpr rfl))⟩
              rw [hH4 b w]
              exact sh b ob z, fun w => w⟩⟩ n1
            refine sda_tail (j := ts.length) (us := []) h2 s5 r5 (fun b hb => ?_) hv ot5 dt5 ⟨_, _, nd5, by rw [← l.len]; exact List.getElem?_concat_length⟩ List.getElem?_concat_length ?_
            · rcases hb with z | z
              · exact n1 b (n2 b z)
              · rcases hS5 b z with w | w
                · exact n1 b ⟨i, w⟩
                · rw [w]
                  by_cases hd : dom ω pp
                  · exact .inl hd
                  · right
                    cases y : H pp with
                    | none => rfl
                    | some ob =>
                      rw [(s1.frm pp ob hd y).1] at hpp
                      cases hpp
            · have e : ∀ (y : T) (env2 : Envt), (if ([] : List T).length < sizeLine ∧ i < env2.length then R.ok (T.dat .none) (env2.set i (some (.node (.dct (ks ++ [.inl k']) false false) ((ts ++ [T.node .lst []]).set ts.length (.node .lst ([] ++ [y])))))) else R.fail) = (if i < env2.length then R.ok (T.dat .none) (env2.set i (some (.node (.dct (ks ++ [.inl k']) false false) (ts ++ [T.node .lst [y]])))) else R.fail) := fun y env2 => by
                have z : (ts ++ [T.node .lst []]).set ts.length (T.node .lst ([] ++ [y])) = ts ++ [T.node .lst [y]] := by
                  rw [List.set_append_right _ _ (Nat.le_refl _), Nat.sub_self]
                  rfl
                rw [z]
                have w : ([] : List T).length < sizeLine := by decide
                by_cases c : i < env2.length
                · rw [if_pos ⟨w, c⟩, if_pos c]
                · rw [if_neg (fun z => c z.2), if_neg c]
              have e' : ((ev (env1.set i none)).bind fun y env2 => if ([] : List T).length < sizeLine ∧ i < env2.length then R.ok (T.dat .none) (env2.set i (some (.node (.dct (ks ++ [.inl k']) false false) ((ts ++ [T.node .lst []]).set ts.length (.node .lst ([] ++ [y])))))) else R.fail) = ((ev (env1.set i none)).bind fun y env2 => if i < env2.length then R.ok (T.dat .none) (env2.set i (some (.node (.dct (ks ++ [.inl k']) false false) (ts ++ [T.node .lst [y]])))) else R.fail) := by
                congr 1
                funext y env2
                exact e y env2
              rw [e']
              exact g
        · exact g.elim
      · exact g.elim
  · exact g.elim
end
end VR

/-! VT2: contexts, defs. -/
namespace VR
open PySem PySem.Spec PyProof.Rows L2
/-! ### what is known of a block -/
structure EOk (X : Cx) (W : WX) (k : Nat) (N : List Str) (sc : Scope) : Prop where
  u : X.A.units + 64 < cLine
  calm : X.calm = true
  tk : Takes X W
  room : Room k X.A
  hN : X.N = N
  sc : X.env.scope = sc
  nd : X.N.Nodup
/-- of a def's body -/
structure SOk (X : Cx) (W : WX) (k : Nat) (N : List Str) (sc : Scope) : Prop extends EOk X W k N sc where
  pass : PassesOwn (model X.prog X.w) X.A X.env X.xe
  fn : X.fn = fun _ => true
  stk : X.stack = X.env :: X.outer
  frm : X.env.frame = some X.env.locals
  exs : X.ex = []
def relS (scope sc : Scope) : Scope :=
  { scope with names := scope.names.map fun (n, k) => if (k == .free && sc.kind == .function && sc.names.lookup n == some .cell) then (n, .cell) else (n, k) }
def isVis : Option NameKind → Bool
  | some .local => true
  | some .cell => true
  | some .free => true
  | _ => false
def isLoc : Option NameKind → Bool
  | some .local => true
  | some .cell => true
  | _ => false
def isGl : Option NameKind → Bool
  | some .globalImplicit => true
  | _ => false
def plainN (x : Str) : Bool := !(x == ("__debug__" : Str)) && !(x == ("__classdict__" : Str)) && !(x == ("__name__" : Str))
def cVar (N : List Str) (sc : Scope) (i : Nat) (x : Str) : Bool := decide (N[i]? = some x) && (isVis (sc.names.lookup x) && plainN x)
def cLoc (N : List Str) (sc : Scope) (i : Nat) (x : Str) : Bool := decide (N[i]? = some x) && isLoc (sc.names.lookup x)
def cGl (sc : Scope) (x : Str) : Bool := isGl (sc.names.lookup x) && plainN x
section
variable {X : Cx} {W : WX} {k : Nat} {N : List Str} {sc : Scope}
theorem EOk.vr (c : EOk X W k N sc) {i : Nat} {x : Str} {pos : Pos} (h : cVar N sc i x = true) : PE X (.Name x pos) (tVar i) := by
  unfold cVar plainN at h
  simp only [Bool.and_eq_true, decide_eq_true_eq, Bool.not_eq_true'] at h
  refine pe_var (by rw [c.hN]; exact h.1) ?_ h.2.2.1.1 h.2.2.1.2
  have q := h.2.1
  unfold Vis
  rw [c.sc]
  generalize sc.names.lookup x = y at q
  cases y with
  | none => cases q
  | some z => cases z <;> first | exact .inl rfl | exact .inr (.inl rfl) | exact .inr (.inr rfl) | cases q
theorem EOk.loc (c : EOk X W k N sc) {i : Nat} {x : Str} (h : cLoc N sc i x = true) : X.N[i]? = some x ∧ Loc X.env.scope x := by
  unfold cLoc at h
  simp only [Bool.and_eq_true, decide_eq_true_eq] at h
  refine ⟨by rw [c.hN]; exact h.1, ?_⟩
  have q := h.2
  unfold L2.Loc
  rw [c.sc]
  generalize sc.names.lookup x = y at q
  cases y with
  | none => cases q
  | some z => cases z <;> first | exact .inl rfl | exact .inr rfl | cases q
theorem EOk.gl (c : EOk X W k N sc) {x : Str} (h : cGl sc x = true) : Gl X x := by
  unfold cGl at h
  rw [Bool.and_eq_true] at h
  have q := h.1
  show X.env.scope.names.lookup x = some .globalImplicit
  rw [c.sc]
  generalize sc.names.lookup x = y at q
  cases y with
  | none => cases q
  | some z => cases z <;> first | rfl | cases q
theorem cGl_name {x : Str} (h : cGl sc x = true) : x ≠ "__name__" ∧ (x == ("__debug__" : Str)) = false := by
  unfold cGl plainN at h
  simp only [Bool.and_eq_true, Bool.not_eq_true'] at h
  exact ⟨fun z => by rw [z] at h; exact absurd h.2.2 (by decide), h.2.1.1⟩
theorem takes_none {X : Cx} : Takes X Wf := fun u s' ⟨a, B, sI, pins, σ, H, cls, d, e, I, nb, up, sky, na, os, ag, w⟩ => w.elim
theorem EOk.blk (c : EOk X W k N sc) (scope : Scope) (b : Bk) : EOk (blkOf X scope b) Wf k N (relS scope sc) where
  u := c.u
  calm := c.calm
  tk := takes_none
  room := c.room
  hN := c.hN
  sc := by
    show relabel scope X.env = relS scope sc
    rw [← c.sc]
    rfl
  nd := c.nd
/-- a target in a def's body -/
theorem SOk.pg (c : SOk X W k N sc) {i : Nat} {x : Str} {pos : Pos} (h : cLoc N sc i x = true) : PG X (.Name x pos) (gName i) :=
  pg_name c.nd (c.loc h).1 (c.loc h).2 (.inl (by rw [c.fn]))
/-- a target in a comprehension -/
def cTg (N : List Str) (scope sc : Scope) (i : Nat) (x : Str) : Bool := cLoc N (relS scope sc) i x && (match scope.names.lookup x with
  | some .cell => true
  | some .local => (match (relS scope sc).names.lookup x with
    | some .local => true
    | _ => false)
  | _ => false)
theorem EOk.bg (c : EOk X W k N sc) {scope : Scope} {i : Nat} {x : Str} {pos : Pos} (h : cTg N scope sc i x = true) (b : Bk) : PG (blkOf X scope b) (.Name x pos) (gName i) := by
  unfold cTg at h
  rw [Bool.and_eq_true] at h
  have c' := c.blk scope b
  refine pg_name c'.nd (c'.loc h.1).1 (c'.loc h.1).2 ?_
  have q := h.2
  split at q
  · rename_i e
    left
    show (scope.names.lookup x == some .cell) = true
    rw [e]
    rfl
  · rename_i e
    split at q
    · rename_i e2
      right
      rw [c'.sc]
      exact e2
    · cases q
  · cases q
theorem EOk.bok (c : EOk X W k N sc) {scope : Scope} {own : List (Str × Nat)} (h : blkC N sc scope own = true) : BlkOk X.N X.env.scope scope own := by
  rw [c.hN, c.sc]
  exact blkOk_by h
/-! ### defs -/
abbrev FnHf (P : Program) (w : World) (K : PySem.W.Frag) (mg : Str → Option Value) (base : Heap) (k : Nat) (x : Str) (ps : List Str) (F : List T → FR) (f : Addr) (fd : FuncData) : Prop :=
  FnOk P w K mg base (L2.CX P w) k f fd ps (spEv K F) ∧ mg x = some (.ref f) ∧ PySem.W.keepIn K (.ref f) = true ∧ Binds K fd ps []
abbrev FnH (P : Program) (w : World) (K : PySem.W.Frag) (mg : Str → Option Value) (base : Heap) (k : Nat) (x : Str) (ps : List Str) (F : List T → FR) : Prop :=
  ∃ (f : Addr) (fd : FuncData), FnHf P w K mg base k x ps F f fd
theorem de_fn {p : Bool} {a : Expr} {es : List Expr} {F : List T → FR} {j : Nat} {ps : List Str} {x : Str} {p0 pos : Pos} {evs : Envt → R (List Ar)} (c : EOk X W k N sc) (hf : FnH X.prog X.w X.K X.mg X.base j x ps F) (hj : j ≤ k) (hg : cGl sc x = true) (ha : DR X W (a :: es) evs) (hs : noStar a = true) (hss : es.all noStar = true) :
    DE X W false (.Call (.Name x p0) (a :: es) [] pos) (evCall F evs) := by
  obtain ⟨f, fd, h1, h2, h3, h4⟩ := hf
  exact de_call h1 (c.room.mono hj) (c.gl hg) h2 h3 h4 c.tk ha (cGl_name hg).2 hs hss
end
def fnEnv (n : Nat) (ts : List T) : Envt := ts.map some ++ List.replicate (n - ts.length) none
def allSome : List (Option T) → Option (List T)
  | [] => some []
  | some t :: l => (allSome l).map (t :: ·)
  | none :: _ => none
def evFn (n np : Nat) (es : Es) : List T → FR := fun ts => if ts.length = np ∧ np ≤ n then (match es (fnEnv n ts) with
    | .next env => (match allSome (env.take np) with
      | some ts' => .ok (.dat .none) ts'
      | none => .fail)
    | .ret t env => (match allSome (env.take np) with
      | some ts' => .ok t ts'
      | none => .fail)
    | .exc c env => (match allSome (env.take np) with
      | some ts' => .exc c ts'
      | none => .fail)
    | _ => .fail) else .fail
theorem allSome_eq : ∀ {l : List (Option T)} {ts : List T}, allSome l = some ts → l = ts.map some
  | [], ts, h => by
    cases h
    rfl
  | some t :: l, ts, h => by
    simp only [allSome, Option.map_eq_some_iff] at h
    obtain ⟨r, h1, rfl⟩ := h
    rw [allSome_eq h1]
    rfl
  | none :: l, ts, h => by cases h
section
variable {P : Program} {w : World} {K : PySem.W.Frag} {mg : Str → Option Value} {base : Heap} {x qual : Str} {params : Arguments} {body : List Stmt} {scope : Scope} {f : Addr} {fd : FuncData}
theorem rep_start {G H : Hp} {N : List Str} {vs : List V} {ts : List T} {τ : Own3} (s : Same G H) (l : OwnL K G H vs ts τ) (hn : ts.length ≤ N.length) : Rep K G H (start N vs) (fnEnv N.length ts) τ := by
  have hl := l.len
  refine ⟨s, fun i t h => ?_, fun b i h => ?_, ?_⟩
  · unfold fnEnv at h
    by_cases hi : i < ts.length
    · rw [List.getElem?_append_left (by rw [List.length_map]; exact hi), List.getElem?_map] at h
      cases e : ts[i]? with
      | none =>
        rw [e] at h
        cases h
      | some t' =>
        rw [e] at h
        cases h
        have hv : vs[i]? = some (vs[i]'(by omega)) := List.getElem?_eq_getElem (by omega)
        refine ⟨_, ?_, l.own i _ t hv e⟩
        unfold L2.start
        rw [List.getElem?_append_left (by rw [List.length_map]; omega), List.getElem?_map, hv]
        rfl
    · rw [List.getElem?_append_right (by rw [List.length_map]; omega)] at h
      have z := List.mem_of_getElem? h
      rw [List.mem_replicate] at z
      cases z.2
  · have hi := l.lim b i h
    refine ⟨ts[i], ?_⟩
    unfold fnEnv
    rw [List.getElem?_append_left (by rw [List.length_map]; exact hi), List.getElem?_map, List.getElem?_eq_getElem hi]
    rfl
  · unfold fnEnv L2.start
    simp only [List.length_append, List.length_map, List.length_replicate]
    omega
/-- what is left of a def's own slots at its end -/
theorem rep_end {G H : Hp} {N : List Str} {σ : L2.St} {env : Envt} {ω : Own3} {vs : List V} {ts : List T} (r : Rep K G H σ env ω) (hk : Keep vs.length (start N vs) σ) (ha : allSome (env.take vs.length) = some ts) (hl : vs.length ≤ env.length) : ∃ τ : Own3, OwnL K G H vs ts τ ∧ ∀ b, dom τ b → dom ω b := by
  have he := allSome_eq ha
  have hlen : ts.length = vs.length := by
    have z := congrArg List.length he
    rw [List.length_take, List.length_map] at z
    omega
  refine ⟨fun b => match ω b with | some i => if i < vs.length then some i else none | none => none, ⟨hlen.symm, fun i v t hv ht => ?_, fun b i h => ?_⟩, fun b ⟨i, h⟩ => ?_⟩
  any_goals dsimp only at h
  · have hi : i < vs.length := (List.getElem?_eq_some_iff.mp hv).1
    have e1 : env[i]? = some (some t) := by
      have z : (env.take vs.length)[i]? = some (some t) := by rw [he, List.getElem?_map, ht]; rfl
      rwa [List.getElem?_take_of_lt hi] at z
    obtain ⟨v', h1, h2⟩ := r.own i t e1
    have e2 : σ[i]? = some (some v) := by
      rw [hk i hi]
      unfold L2.start
      rw [List.getElem?_append_left (by rw [List.length_map]; exact hi), List.getElem?_map, hv]
      rfl
    rw [e2] at h1
    cases h1
    refine h2.congr fun b => ?_
    constructor
    · intro z
      split at z
      · split at z
        · rename_i j e _
          cases z
          exact e
        · cases z
      · cases z
    · intro z
      rw [z]
      exact if_pos hi
  · split at h
    · split at h
      · cases h
        rw [hlen]
        assumption
      · cases h
    · cases h
  · split at h
    · exact ⟨_, by assumption⟩
    · cases h
theorem fn_okf {N ps : List Str} {k : Nat} {ev : Es} (F : FunD K x qual params body scope [] [] f fd) (S : FnScope N ps scope) (hx : mg x = some (.ref f)) (hnp : ps.length ≤ N.length)
    (hb : ∀ (kV doc pm : Value) (an : Option Addr) (cdv ct : Value) (us : List Value), us.length = ps.length → bindArgs (PySem.W.fnOf x qual params body scope .none kV doc pm an cdv ct) ⟨us, []⟩ = pure (ps.zip us))
    (hbody : ∀ (X : Cx) (W : WX), X.prog = P → X.w = w → X.K = K → X.mg = mg → X.base = base → SOk X W k N scope → DSs X W ps.length body ev) : FnHf P w K mg base (k + 1) x ps (evFn N.length ps.length ev) f fd := by
  have len : ∀ vs H Q E, spEv K (evFn N.length ps.length ev) vs H Q E → vs.length = ps.length := fun vs H Q E ⟨G, ts, τ, s, l, g⟩ => by
    unfold evFn at g
    split at g
    · rename_i h
      rw [l.len]
      exact h.1
    · exact g.elim
  refine ⟨F.ok S len fun cdv A outer s H vs Q E hr hsp => ?_, hx, F.kp, F.bindsN hb⟩
  have hl := len _ _ _ _ hsp
  obtain ⟨G, ts, τ, sg, l, g⟩ := hsp
  have hts : ts.length = ps.length := by rw [← l.len]; exact hl
  have ok : SOk (cxOf (L2.CX P w) P w K mg base N qual scope f cdv A outer s H E) (fun cls d _ H => E cls d H) k N scope := {
    u := by
      have := hr.un
      show (A.deeper (envOfC qual scope s.heap.objs.size f cdv)).units + 64 < cLine
      omega
    calm := rfl
    tk := takes_of rfl rfl rfl rfl
    room := hr
    hN := rfl
    sc := rfl
    nd := S.nd
    pass := passes_of rfl
    fn := rfl
    stk := rfl
    frm := rfl
    exs := rfl }
  obtain ⟨t, h1, h2⟩ := hbody _ _ rfl rfl rfl rfl rfl ok
  refine ⟨t, h1, h2 G H _ (fnEnv N.length ts) τ _ (rep_start sg l (by omega)) ?_⟩
  unfold evFn at g
  rw [if_pos ⟨hts, hnp⟩] at g
  have hlen : ∀ {σ : L2.St} {env : Envt} {ω : Own3} {G H : Hp}, Rep K G H σ env ω → Keep ps.length (start N vs) σ → vs.length ≤ env.length := fun r hk => by
    have z := r.len
    by_cases h0 : vs.length = 0
    · omega
    · have q := hk (vs.length - 1) (by omega)
      unfold L2.start at q
      rw [List.getElem?_append_left (by rw [List.length_map]; omega), List.getElem?_map, List.getElem?_eq_getElem (l := vs) (by omega)] at q
      have := (List.getElem?_eq_some_iff.mp q).1
      omega
  split at g
  · rename_i env e
    rw [e]
    split at g
    · rename_i ts' ha
      intro σ' G' H' ω' s1 r1 n1 k1
      rw [← hl] at ha k1
      obtain ⟨τ', l', d'⟩ := rep_end r1 k1 ha (hlen r1 (hl ▸ k1))
      exact g .non G' H' τ' (fun _ => False) s1 r1.sub l' (.dat .non fun _ z => z) (fun _ z => z.elim) fun b hb => n1 b (hb.elim (fun z => d' b z) fun z => z.elim)
    · exact g.elim
  · rename_i t' env e
    rw [e]
    split at g
    · rename_i ts' ha
      intro v σ' G' H' ω' S' s1 r1 o1 d1 n1 k1
      rw [← hl] at ha k1
      obtain ⟨τ', l', d'⟩ := rep_end r1 k1 ha (hlen r1 (hl ▸ k1))
      refine g v G' H' τ' S' s1 r1.sub l' o1 (fun b hb => ?_) fun b hb => n1 b (hb.imp (fun z => d' b z) id)
      cases z : τ' b with
      | none => rfl
      | some i =>
        obtain ⟨j, y⟩ := d' b ⟨i, z⟩
        rw [d1 b hb] at y
        cases y
    · exact g.elim
  · rename_i c env e
    rw [e]
    split at g
    · rename_i ts' ha
      intro σ' G' H' ω' s1 r1 n1 k1
      rw [← hl] at ha k1
      obtain ⟨τ', l', d'⟩ := rep_end r1 k1 ha (hlen r1 (hl ▸ k1))
      exact g G' H' τ' s1 r1.sub l' fun b hb => n1 b (d' b hb)
    · exact g.elim
  · exact g.elim
theorem fn_ok {N ps : List Str} {k : Nat} {ev : Es} (F : FunD K x qual params body scope [] [] f fd) (S : FnScope N ps scope) (hx : mg x = some (.ref f)) (hnp : ps.length ≤ N.length)
    (hb : ∀ (kV doc pm : Value) (an : Option Addr) (cdv ct : Value) (us : List Value), us.length = ps.length → bindArgs (PySem.W.fnOf x qual params body scope .none kV doc pm an cdv ct) ⟨us, []⟩ = pure (ps.zip us))
    (hbody : ∀ (X : Cx) (W : WX), X.prog = P → X.w = w → X.K = K → X.mg = mg → X.base = base → SOk X W k N scope → DSs X W ps.length body ev) : FnH P w K mg base (k + 1) x ps (evFn N.length ps.length ev) := ⟨f, fd, fn_okf F S hx hnp hb hbody⟩
end
end VR

/-! VT3: rules as a printer writes them. -/
namespace VR
open PySem PySem.Spec PyProof.Rows L2
def evC (d : PyData) : Ev := fun env => .ok (.dat d) env
/-- module constants -/
def GI (mg : Str → Option Value) (x : Str) (n : Int) : Prop := ∃ t, mg x = some (.int n t)
def GS (mg : Str → Option Value) (x z : Str) : Prop := ∃ t, mg x = some (.str z t)
/-- the value is no comprehension -/
def noLc : Expr → Bool
  | .ListComp .. => false
  | .SetComp .. => false
  | .DictComp .. => false
  | _ => true
theorem swaps_no {e : Expr} {t : Option Expr} {l : Nat} {env : Env} (h : noLc e = true) : swapsWith e t l env = pure false := by
  cases e <;> first | rfl | cases h
def noSet : Expr → Bool
  | .Set .. => false
  | _ => true
theorem folded_no {e : Expr} {env : Env} (h : noSet e = true) : ∀ x, foldedSetIterable e env x = pure x := by
  cases e <;> first | exact fun _ => rfl | cases h
/-- whatever stands ahead of the dot, but a call without arguments -/
def noSup : Expr → Bool
  | .Call (.Name _ _) [] [] _ => false
  | _ => true
theorem base_no {o : Expr} {a : Str} {env : Env} {w : Sem Value} (h : noSup o = true) : attributeBase o a env w = w := by
  unfold attributeBase
  split
  · cases h
  · rfl
def noTT : List Expr → Expr → Bool
  | [.Tuple _ _ _], .Tuple _ _ _ => false
  | [.List _ _], .Tuple _ _ _ => false
  | _, _ => true
theorem stores_no {ts : List Expr} {v : Expr} {env : Env} (h : noTT ts v = true) : swappedStores ts v env = pure none := by
  unfold swappedStores
  split
  · rename_i a b e
    split at e
    · cases h
    · cases h
    · cases e
  · rfl
section
variable {X : Cx} {W : WX} {k nk : Nat} {N : List Str} {sc : Scope} {p pa pb pc : Bool} {e a b c' o : Expr} {ev ea eb ec : Ev} {pos p0 p1 : Pos}
theorem de_int {i : Int} {j : Nat} : DE X W true (.Constant (.int i) j pos) (evC (.int i)) := de_cst pe_int fun _ => .int _
theorem de_str {x : Str} {j : Nat} : DE X W true (.Constant (.str x) j pos) (evC (.str x)) := de_cst pe_str fun _ => .str _
theorem de_none {j : Nat} : DE X W true (.Constant .none j pos) (evC .none) := de_cst (v := .non) pe_non fun _ => .non
theorem de_bool {x : Bool} {j : Nat} : DE X W true (.Constant (.bool x) j pos) (evC (.bool x)) := de_cst (v := .bl x) pe_bl fun _ => .bl _
theorem de_neg {i : Int} {j : Nat} : DE X W true (.UnaryOp .USub (.Constant (.int i) j p0) pos) (evC (.int (-i))) := de_cst (v := .int (-i)) (pe_imp (pe_un un_neg pe_int) fun σ H Q q => ⟨i, rfl, q⟩) fun _ => .int _
theorem EOk.gi (c : EOk X W k N sc) {x : Str} {n : Int} (g : GI X.mg x n) (h : cGl sc x = true) : DE X W true (.Name x pos) (evC (.int n)) := by
  obtain ⟨t, g⟩ := g
  exact de_cst (v := .int n) (pe_glob (c.gl h) g ⟨t, rfl⟩ (cGl_name h).2) fun _ => .int _
theorem EOk.gs (c : EOk X W k N sc) {x z : Str} (g : GS X.mg x z) (h : cGl sc x = true) : DE X W true (.Name x pos) (evC (.str z)) := by
  obtain ⟨t, g⟩ := g
  exact de_cst (v := .str z) (pe_glob (c.gl h) g ⟨t, rfl⟩ (cGl_name h).2) fun _ => .str _
/-! built-ins of one value -/
theorem EOk.len (c : EOk X W k N sc) (b : X.mg "len" = none) (g : cGl sc "len" = true) (h : DP X W p a ea) (hs : noStar a = true) : DE X W p (.Call (.Name "len" p0) [a] [] pos) (evB1 lenT ea) := de_b1 cr_len1 (c.gl g) b rfl (cGl_name g).1 (cGl_name g).2 hs h
theorem EOk.sum (c : EOk X W k N sc) (b : X.mg "sum" = none) (g : cGl sc "sum" = true) (h : DP X W p a ea) (hs : noStar a = true) : DE X W p (.Call (.Name "sum" p0) [a] [] pos) (evB1 sumT ea) := de_b1 (cr_sum1 c.calm) (c.gl g) b rfl (cGl_name g).1 (cGl_name g).2 hs h
theorem EOk.all (c : EOk X W k N sc) (b : X.mg "all" = none) (g : cGl sc "all" = true) (h : DP X W p a ea) (hs : noStar a = true) : DE X W p (.Call (.Name "all" p0) [a] [] pos) (evB1 allT ea) := de_b1 (cr_all1 c.calm) (c.gl g) b rfl (cGl_name g).1 (cGl_name g).2 hs h
theorem EOk.any (c : EOk X W k N sc) (b : X.mg "any" = none) (g : cGl sc "any" = true) (h : DP X W p a ea) (hs : noStar a = true) : DE X W p (.Call (.Name "any" p0) [a] [] pos) (evB1 anyT ea) := de_b1 (cr_any1 c.calm) (c.gl g) b rfl (cGl_name g).1 (cGl_name g).2 hs h
theorem EOk.srt (c : EOk X W k N sc) (b : X.mg "sorted" = none) (g : cGl sc "sorted" = true) (h : DP X W p a ea) (hs : noStar a = true) : DE X W p (.Call (.Name "sorted" p0) [a] [] pos) (evB1 sortedT ea) := de_b1 (cr_sorted1 c.u) (c.gl g) b rfl (cGl_name g).1 (cGl_name g).2 hs h
theorem EOk.lst (c : EOk X W k N sc) (b : X.mg "list" = none) (g : cGl sc "list" = true) (h : DP X W p a ea) (hs : noStar a = true) : DE X W p (.Call (.Name "list" p0) [a] [] pos) (evB1 listT ea) := de_t1 cr_list1 (c.gl g) b rfl (cGl_name g).1 (cGl_name g).2 hs h
theorem EOk.tup (c : EOk X W k N sc) (b : X.mg "tuple" = none) (g : cGl sc "tuple" = true) (h : DP X W p a ea) (hs : noStar a = true) : DE X W p (.Call (.Name "tuple" p0) [a] [] pos) (evB1 tupleT ea) := de_t1 cr_tuple1 (c.gl g) b rfl (cGl_name g).1 (cGl_name g).2 hs h
theorem EOk.sset (c : EOk X W k N sc) (b : X.mg "sorted" = none) (g : cGl sc "sorted" = true) (b2 : X.mg "set" = none) (g2 : cGl sc "set" = true) (h : DP X W p a ea) (hs : noStar a = true) {pos1 : Pos} : DE X W p (.Call (.Name "sorted" p0) [.Call (.Name "set" p1) [a] [] pos1] [] pos) (evB1 ssT ea) := de_sset c.u c.calm (c.gl g) b (c.gl g2) b2 hs h
theorem EOk.lset (c : EOk X W k N sc) (b : X.mg "len" = none) (g : cGl sc "len" = true) (b2 : X.mg "set" = none) (g2 : cGl sc "set" = true) (h : DP X W p a ea) (hs : noStar a = true) {pos1 : Pos} : DE X W p (.Call (.Name "len" p0) [.Call (.Name "set" p1) [a] [] pos1] [] pos) (evB1 lsT ea) := de_lset c.u c.calm (c.gl g) b (c.gl g2) b2 hs h
theorem EOk.isi (c : EOk X W k N sc) {x : Str} (n : String) (b : X.mg "isinstance" = none) (g : cGl sc "isinstance" = true) (b2 : X.mg x = none) (g2 : cGl sc x = true) (hv : bootBuiltins x = some (.type n)) (hn : n ∈ tyNames) (h : DP X W p a ea) (hs : noStar a = true) :
    DE X W p (.Call (.Name "isinstance" p0) [a, .Name x p1] [] pos) (evIsi [n] ea) := de_isi (c.gl g) b (c.gl g2) b2 hv (cGl_name g2).1 (cGl_name g2).2 hn hs h
theorem EOk.isi2 (c : EOk X W k N sc) {x y : Str} {j : Nat} {p2 p3 : Pos} (n m : String) (b : X.mg "isinstance" = none) (g : cGl sc "isinstance" = true) (b2 : X.mg x = none) (g2 : cGl sc x = true) (hv : bootBuiltins x = some (.type n)) (hn : n ∈ tyNames) (b3 : X.mg y = none) (g3 : cGl sc y = true) (hv3 : bootBuiltins y = some (.type m)) (hm : m ∈ tyNames) (h : DP X W p a ea) (hs : noStar a = true) :
    DE X W p (.Call (.Name "isinstance" p0) [a, .Tuple [.Name x p1, .Name y p2] j p3] [] pos) (evIsi [n, m] ea) := de_isi2 (c.gl g) b (c.gl g2) b2 hv (cGl_name g2).1 (cGl_name g2).2 (c.gl g3) b3 hv3 (cGl_name g3).1 (cGl_name g3).2 hn hm hs h
/-! truth of a value -/
theorem dt_call {f : Expr} {as : List Expr} {ks : List Keyword} (h : DE X W p (.Call f as ks pos) ev) : DT X W p (.Call f as ks pos) (evTst ev) := dt_val h fun _ => rfl
theorem dt_name {x : Str} (h : DE X W p (.Name x pos) ev) : DT X W p (.Name x pos) (evTst ev) := dt_val h fun _ => rfl
theorem dt_sub (h : DE X W p (.Subscript a b pos) ev) : DT X W p (.Subscript a b pos) (evTst ev) := dt_val h fun _ => rfl
/-! comparisons of values whatever -/
theorem EOk.cmp (c : EOk X W k N sc) {op : CmpOp} {e2 : Envt → R (T × T)} (h : D2 X W p a b e2) (hm : behindInMarks op b = false) : DE X W p (.Compare a [op] [b] pos) (evCmp op e2) := de_cmp c.u h hm
theorem EOk.tcmp (c : EOk X W k N sc) {op : CmpOp} {e2 : Envt → R (T × T)} (h : D2 X W p a b e2) (hm : behindInMarks op b = false) : DT X W p (.Compare a [op] [b] pos) (evTst (evCmp op e2)) := dt_cmp c.u h hm
theorem EOk.chn (c : EOk X W k N sc) {o1 o2 : CmpOp} {e2 : Envt → R (T × T)} (h : D2 X W pa a b e2) (hc : DP X W pc c' ec) (hm : behindInMarks o2 c' = false) : DE X W (pa && pc) (.Compare a [o1, o2] [b, c'] pos) (evChn o1 o2 e2 ec) := de_chn c.u h hc hm
theorem EOk.tchn (c : EOk X W k N sc) {o1 o2 : CmpOp} {e2 : Envt → R (T × T)} (h : D2 X W pa a b e2) (hc : DP X W pc c' ec) (hm : behindInMarks o2 c' = false) : DT X W (pa && pc) (.Compare a [o1, o2] [b, c'] pos) (evTst (evChn o1 o2 e2 ec)) := dt_chn c.u h hc hm
theorem EOk.idx (c : EOk X W k N sc) {e2 : Envt → R (T × T)} (h : D2 X W p a b e2) (hs : noSlice b = true) : DP X W p (.Subscript a b pos) (evIdx e2) := dp_idx c.u h hs
/-! an empty dict -/
def evDct : Ev := fun env => .ok (.node (.dct [] false false) []) env
theorem de_dct : DE X W true (.Dict [] [] pos) evDct := by
  refine ⟨_, pe_dnewK, fun G H σ env ω Q r g => fun q hq => ?_⟩
  have sh : Same H (upd H q (.dK [])) := same_upd hq
  refine good_new (r := .node (.dct [] false false) []) (G2 := G) g .refl r .refl (fun _ _ _ z => z) ⟨fun _ _ z => z, sh, fun b o z => sh b o (r.sub b o z), fun _ _ _ z => z, fun b => b = q ∨ dom (fun _ => none : Own3) b, ?_, fun b hb => ?_⟩
  · exact own_of_kids (A := fun b => b = q) (vs := []) ⟨List.nodup_nil, .inl ⟨rfl, [], rfl, rfl, show upd H q (.dK []) q = some (.dK []) from upd_same⟩, fun b => Iff.rfl⟩ (fun b hb => by rw [hb]; exact same_free r.sub hq) OwnL.nil fun _ _ => rfl
  · rcases hb with rfl | ⟨_, z⟩
    · exact hq
    · cases z
/-! statements -/
theorem SOk.set (c : SOk X W k N sc) {i : Nat} {x : Str} (hl : cLoc N sc i x = true) (hk : nk ≤ i) (hn : noLc e = true) (h : DE X W p e ev) : DS X W nk (.Assign [.Name x p0] e pos) (evSet i ev) :=
  ds_set h hk fun te ht => ps_set c.nd (c.loc hl).1 (c.loc hl).2 ht (swaps_no hn) (.inl (by rw [c.fn]))
def isCell (sc : Scope) (x : Str) : Bool := match sc.names.lookup x with
  | some .cell => true
  | _ => false
/-- x = [..], x a cell -/
theorem SOk.setC (c : SOk X W k N sc) {i : Nat} {x : Str} {elt : Expr} {gs : List Comprehension} {scope : Scope} {lp : Pos} (hl : cLoc N sc i x = true) (hk : nk ≤ i) (hn : isCell sc x = true) (h : DE X W p (.ListComp elt gs scope lp) ev) : DS X W nk (.Assign [.Name x p0] (.ListComp elt gs scope lp) pos) (evSet i ev) :=
  ds_set h hk fun te ht => ps_set c.nd (c.loc hl).1 (c.loc hl).2 ht (by
    unfold isCell at hn
    split at hn
    · rename_i z
      unfold swapsWith
      have q : X.env.kindOf x = some .cell := by
        show X.env.scope.names.lookup x = some .cell
        rw [c.sc]
        exact z
      simp only [pure_bind, q]
      have z1 : (some NameKind.cell == some NameKind.local) = false := by decide
      rw [z1, Bool.and_false, Bool.false_and, Bool.false_and]
    · cases hn) (.inl (by rw [c.fn]))
theorem SOk.ex (c : SOk X W k N sc) (h : DE X W p e ev) (hn : noLc e = true) : DS X W nk (.Expr e pos) (evDrop ev) := ds_expr h (swaps_no hn)
theorem SOk.unp (c : SOk X W k N sc) {tg : Expr} {t : Tg} (hg : DG X tg t) (hk : ∀ i ∈ t.slots, nk ≤ i) (hn : noLc e = true) (ht : noTT [tg] e = true) (h1 : (assignEach [tg] X.env).map (·.2) = [assign tg X.env]) (h : DE X W p e ev) : DS X W nk (.Assign [tg] e pos) (evUnp t ev) :=
  ds_unp h hg hk fun te g h2 h3 => ps_asg h2 h3 (swaps_no hn) (stores_no ht) h1
theorem SOk.for (c : SOk X W k N sc) {tg iter : Expr} {body : List Stmt} {si : Envt → R Src} {t : Tg} {es : Es} (hi : DI X W p tg iter si) (hg : DG X tg t) (hk : ∀ i ∈ t.slots, nk ≤ i) (hs : noSet iter = true) (hb : DSs X W nk body es) : DS X W nk (.For tg iter body [] pos) (evForS si nk t es) := ds_for c.pass c.calm hi hg hb hk (folded_no hs)
theorem SOk.while (c : SOk X W k N sc) (n : Nat) {body : List Stmt} {tc : Envt → R Bool} {es : Es} (h : DT X W p e tc) (hb : DSs X W nk body es) : DS X W nk (.While e body [] pos) (evWhile tc es n) := ds_while n c.pass h hb
theorem SOk.g1 (c : SOk X W k N sc) {i : Nat} {x : Str} (hl : cLoc N sc i x = true) : DG X (.Name x pos) (.one i) := dg_one (c.pg hl)
/-- raise E('m') of a class of the module's -/
def GE (mg : Str → Option Value) (K : PySem.W.Frag) (x : Str) : Prop := ∃ (B newId initId : String) (bm : List Value), ExcBaseFacts B newId initId bm ∧ PySem.W.excIn K (He.ga K x) bm newId = true ∧ mg x = some (.ref (He.ga K x)) ∧ PySem.W.keepIn K (.ref (He.ga K x)) = true ∧ PySem.W.subIn K (.ref (He.ga K x)) (.type "BaseException") = some true ∧ PySem.W.typeIn K (.ref (He.ga K x)) = some (.type "type")
def evRaise (x : Str) : Es := fun env => .exc x env
theorem SOk.raise (c : SOk X W k N sc) {x m : Str} {j : Nat} {p2 p3 : Pos} (g : GE X.mg X.K x) (h : cGl sc x = true) : DS X W nk (.Raise (some (.Call (.Name x p0) [.Constant (.str m) j p1] [] p2)) none pos) (evRaise x) := by
  obtain ⟨B, newId, initId, bm, h1, h2, h3, h4, h5, h6⟩ := g
  exact ds_raise c.calm c.tk (pmk_own h1 h2 h3 h4 (raises_own h5 h6) (c.gl h) (cGl_name h).2)
end
end VR
namespace VR
open PySem PySem.Spec PyProof.Rows L2
/-- a block with nothing but its scope -/
def scEnv (sc : Scope) : Env := { scope := sc, locals := 0, globals := 0, cells := [], qual := "", func := none, code := .none, frame := none, builtins := 0 }
theorem stores_env (ts : List Expr) (v : Expr) (env : Env) : swappedStores ts v env = swappedStores ts v (scEnv env.scope) := rfl
theorem swaps_env (v : Expr) (t : Option Expr) (l : Nat) (env : Env) : swapsWith v t l env = swapsWith v t l (scEnv env.scope) := rfl
section
variable {X : Cx} {W : WX} {k nk : Nat} {N : List Str} {sc : Scope} {p pa pb pc pt pe : Bool} {e a b c' o elt tg iter : Expr} {ev ea eb ec : Ev} {pos p0 p1 : Pos}
theorem SOk.par (c : SOk X W k N sc) {i j : Nat} {x y : Str} {es : Envt → R (List T)} {px py pt pt2 : Pos} {kt k2 : Nat} (hi : cLoc N sc i x = true) (hj : cLoc N sc j y = true) (hij : i ≠ j) (hx : sc.names.lookup x = some .local) (hy : sc.names.lookup y = some .local) (hki : nk ≤ i) (hkj : nk ≤ j)
    (hw : swappedStores [.Tuple [.Name x px, .Name y py] kt pt] (.Tuple [a, b] k2 pt2) (scEnv sc) = pure (some [x, y])) (h : DA X W p [a, b] es) : DS X W nk (.Assign [.Tuple [.Name x px, .Name y py] kt pt] (.Tuple [a, b] k2 pt2) pos) (evPar i j es) :=
  ds_par h hki hkj fun ta ht => ps_par c.calm c.nd (c.loc hi).1 (c.loc hj).1 hij (by rw [c.sc]; exact hx) (by rw [c.sc]; exact hy) ht (by rw [stores_env, c.sc]; exact hw) (by rfl)
theorem EOk.comp (c : EOk X W k N sc) {si : Envt → R Src} {t : Tg} {own : List (Str × Nat)} {ifs : List Expr} {tc : Envt → R Bool} {scope : Scope} (hb : blkC N sc scope own = true) (hsl : ∀ i ∈ t.slots, i ∈ own.map (·.2)) (hs : noSet iter = true) (hi : DI X W p tg iter si) (hg : ∀ q : Bk, DG (blkOf X scope q) tg t) (ht : ∀ q : Bk, DTs (blkOf X scope q) Wf pt ifs tc) (he : ∀ q : Bk, DE (blkOf X scope q) Wf pe elt ev) :
    DE X W (p && (pt && pe)) (.ListComp elt [⟨tg, iter, ifs, 0⟩] scope pos) (evComp si t (own.map (·.2)) tc ev) := de_comp c.calm c.nd hi (c.bok hb) hsl hg ht he (folded_no hs)
theorem SOk.setLc (c : SOk X W k N sc) {i : Nat} {y : Str} {py spos : Pos} {si : Envt → R Src} {t : Tg} {own : List (Str × Nat)} {ifs : List Expr} {tc : Envt → R Bool} {scope : Scope} (hl : cLoc N sc i y = true) (hy : sc.names.lookup y = some .local) (hk : nk ≤ i) (hsw : swapsWith (.ListComp elt [⟨tg, iter, ifs, 0⟩] scope pos) (some (.Name y py)) spos.line (scEnv sc) = pure true)
    (hb : blkC N sc scope own = true) (hsl : ∀ i ∈ t.slots, i ∈ own.map (·.2)) (hs : noSet iter = true) (hi : DI X W p tg iter si) (hg : ∀ q : Bk, DG (blkOf X scope q) tg t) (ht : ∀ q : Bk, DTs (blkOf X scope q) Wf pt ifs tc) (he : ∀ q : Bk, DE (blkOf X scope q) Wf pe elt ev) :
    DS X W nk (.Assign [.Name y py] (.ListComp elt [⟨tg, iter, ifs, 0⟩] scope pos) spos) (evSet i (evComp si t (own.map (·.2)) tc ev)) :=
  ds_setLc c.calm c.nd (c.loc hl).1 (by rw [c.sc]; exact hy) (by rw [swaps_env, c.sc]; exact hsw) hi (c.bok hb) hsl hg ht he (folded_no hs) hk
theorem EOk.bg1 (c : EOk X W k N sc) {scope : Scope} {i : Nat} {x : Str} (h : cTg N scope sc i x = true) (q : Bk) : DG (blkOf X scope q) (.Name x pos) (.one i) := dg_one (c.bg h q)
end
end VR

/-! VT4: list(d). -/
namespace VR
open PySem PySem.Spec PyProof.Rows L2
def leftsD : List DK → Option (List PyData)
  | [] => some []
  | .inl k :: l => (leftsD l).map (keyD k :: ·)
  | .inr _ :: _ => none
def lsdT : T → Option T
  | .node (.dct ks false false) _ => (leftsD ks).map tl
  | _ => none
theorem dq_kV {K : PySem.W.Frag} {G : Hp} (k : Key) : Dq K G (kV k) (keyD k) := by
  cases k
  · exact .int _
  · exact .str _
theorem lefts_all {K : PySem.W.Frag} {G : Hp} : ∀ (kvs : List (Key × V)), ∃ ds, leftsD (kvs.map fun q => (Sum.inl q.1 : DK)) = some ds ∧ DqAll K G (kvs.map fun q => kV q.1) ds
  | [] => ⟨[], rfl, .nil⟩
  | p :: r => by
    obtain ⟨ds, e1, e2⟩ := lefts_all (K := K) (G := G) r
    refine ⟨keyD p.1 :: ds, ?_, .cons (dq_kV p.1) e2⟩
    show (leftsD (r.map fun q => (Sum.inl q.1 : DK))).map (keyD p.1 :: ·) = _
    rw [e1]
    rfl
section
variable {X : Cx} {W : WX} {k nk : Nat} {N : List Str} {sc : Scope} {p pa pb pc : Bool} {e a b c' o : Expr} {ev ea eb ec : Ev} {pos p0 p1 : Pos}
theorem cr_listD (hc : X.calm = true) : CallR X (.type "list") (r1 X.K lsdT) := by
  intro pins s σ H xs us Q I r h
  obtain ⟨G, x, t, r', rfl, sg, h1, e, kk⟩ := h
  unfold lsdT at e
  split at e
  · rename_i ks ts
    cases h1 with
    | @node aa _ vs _ A n l ch =>
      obtain ⟨nd, q, hA⟩ := n
      rcases q with ⟨_, kvs, e1, e2, cell⟩ | ⟨z, _⟩
      · obtain ⟨ds, w1, w2⟩ := lefts_all (K := X.K) (G := G) kvs
        rw [← e1, w1] at e
        cases e
        refine call_listD hc pins s σ H _ us Q I r ⟨aa, kvs, rfl, .inl cell, fun pp hp => kk _ _ _ (.lst sg hp w2)⟩
      · cases z
  · cases e
theorem EOk.lsd (c : EOk X W k N sc) (b : X.mg "list" = none) (g : cGl sc "list" = true) (h : DP X W p a ea) (hs : noStar a = true) : DE X W p (.Call (.Name "list" p0) [a] [] pos) (evB1 lsdT ea) := de_t1 (cr_listD c.calm) (c.gl g) b rfl (cGl_name g).1 (cGl_name g).2 hs h
/-- a name's own tree, looked at behind what stands beside it -/
def ev2S (i : Nat) (eb : Ev) : Envt → R (T × T) := fun env => match env[i]? with
  | some (some _) => (eb env).bind fun u env2 => (match env2[i]? with
    | some (some t) => .ok (t, u) env2
    | _ => .fail)
  | _ => .fail
theorem d2_slot {i : Nat} (ha : PE X a (tVar i)) (hb : DP X W pb b eb) : D2 X W pb a b (ev2S i eb) := by
  obtain ⟨tb, h1, h2⟩ := hb
  refine ⟨_, tb, ha, h1, fun G H σ env ω Q r g => ?_⟩
  unfold ev2S at g
  split at g
  · rename_i t0 ht0
    obtain ⟨v, hv, _⟩ := r.own i t0 ht0
    refine ⟨v, hv, h2 G H σ env ω _ r ?_⟩
    cases q : eb env with
    | exc c env' =>
      rw [q] at g
      exact g
    | fail =>
      rw [q] at g
      exact g
    | ok u env2 =>
      rw [q] at g
      intro y G' H' ω' s1 r1 o1 n1 k1
      simp only [R.bind] at g
      split at g
      · rename_i t ht
        obtain ⟨v', hv', o⟩ := r1.own i t ht
        rw [hv] at hv'
        cases hv'
        exact g v y G' H' ω' s1 r1 o.vw o1 n1 k1
      · exact g.elim
  · exact g.elim
theorem EOk.cal (c : EOk X W k N sc) {es : List Expr} {F : List T → FR} {j : Nat} {ps : List Str} {x : Str} {evs : Envt → R (List Ar)} (hf : FnH X.prog X.w X.K X.mg X.base j x ps F) (hj : j ≤ k) (hg : cGl sc x = true) (ha : DR X W (a :: es) evs) (hs : noStar a = true) (hss : es.all noStar = true) :
    DE X W false (.Call (.Name x p0) (a :: es) [] pos) (evCall F evs) := de_fn (p := false) c hf hj hg ha hs hss
theorem pe_mone {i : Int} {j : Nat} : PE X (.UnaryOp .USub (.Constant (.int i) j p0) pos) (tC (.int (-i))) := pe_imp (pe_un un_neg pe_int) fun σ H Q q => ⟨i, rfl, q⟩
end
end VR

/-! VU0: d.setdefault(k, []).extend(t), t a tuple. -/
namespace VR
open PySem PySem.Spec PyProof.Rows L2
def tupOf : T → Option (List PyData)
  | .dat (.tuple ds) => some ds
  | _ => none
def sdeK (ks : List DK) (ts : List T) (j : Nat) (us : List T) (i : Nat) (y : T) (env2 : Envt) : R T := match tupOf y with
  | some ds => if us.length + ds.length ≤ sizeLine ∧ i < env2.length then .ok (.dat .none) (env2.set i (some (.node (.dct ks false false) (ts.set j (.node .lst (us ++ ds.map T.dat)))))) else .fail
  | none => .fail
def evSde (i : Nat) (ek ev : Ev) : Ev := fun env => match env[i]? with
  | some (some (.node (.dct _ false _) _)) => (ek env).bind fun kt env1 => (match env1[i]?, kt.frz.bind DK.of with
    | some (some (.node (.dct ks false false) ts)), some (.inl k) => if ts.length < 1000000 then (match ixK ks (.inl k) with
        | some j => (match ts[j]? with
          | some (.node .lst us) => (ev (env1.set i none)).bind fun y env2 => sdeK ks ts j us i y env2
          | _ => .fail)
        | none => (ev (env1.set i none)).bind fun y env2 => sdeK (ks ++ [.inl k]) (ts ++ [.node .lst []]) ts.length [] i y env2) else .fail
    | _, _ => .fail)
  | _ => .fail
section
variable {X : Cx} {W : WX} {p pk : Bool} {e a b o k : Expr} {ea ek ev : Ev} {pos apos cpos apos2 cpos2 lpos : Pos}
theorem ext_tup (l b : Addr) (items items2 : Array Value) (n n2 : Nat) (dd2 : Option Addr) (sl2 : Array (Option Value)) (hc0 : ¬(!items.isEmpty && Builtin.List.listTooLong (items.size + items2.size)) = true) (hc1 : items.size ≤ sizeLine) (hs2 : items.size + items2.size ≤ sizeLine + 1) :
    Meets (Builtin.«list.extend» ⟨[.ref l, .ref b], []⟩) (fun _ R s => s.heap.get? l = some { cls := .type "list", dict := none, data := .seq items n, slots := #[] } ∧ s.heap.get? b = some { cls := .type "tuple", dict := dd2, data := .seq items2 n2, slots := sl2 } ∧ R (.ok (.ret Value.none)) { s with heap := s.heap.update l (Obj.mapSeq fun x => x ++ items2), toks := s.toks }) :=
  .of_wp fun prog w A R s h => by
    obtain ⟨hp, g, d, tk, os⟩ := s
    obtain ⟨hl, hb, h⟩ := h
    have f1 := AutoSeq1.idx_int
    have f2 := AutoSeq1.sub_tuple_tuple
    have f3 := AutoSeq1.sub_list_list
    have f4 := AutoSeq1.sub_tuple_list
    have f5 := AutoSeq1.sub_list_tuple
    have hz' : (items ++ items2).size ≤ sizeLine + 1 := by rw [Array.size_append]; exact hs2
    wp_walk using (wpAny_updateSeq hl rfl (hz := hc1) (_hz' := hz')), wpAny_loadPart' hl, wpAny_loadPart' hb
    exact ⟨_, rfl, h⟩
def rExtT (K : PySem.W.Frag) : V → List V → Hp → VK → Prop := fun x vs H Q => ∃ l b xs zs, x = .ref l ∧ vs = [.ref b] ∧ H l = some (.lst xs) ∧ SqT K H b zs ∧ xs.length + zs.length ≤ sizeLine ∧ Q .non (upd H l (.lst (xs ++ zs)))
theorem mt_extendT : MtM X "list.extend" (rExtT X.K) := by
  intro pins s σ H x vs v us Q I rx rv h
  obtain ⟨l, b, xs, zs, rfl, rfl, hH, hB, hz, q⟩ := h
  cases rx
  obtain ⟨u, rfl, ru⟩ := rv.one
  cases ru
  obtain ⟨z, its, n, r, hl, e⟩ := I.lstM hH
  obtain ⟨its2, r2, pl2, z2⟩ := I.tuple hB
  obtain ⟨⟨cls2, dd2, dat2, sl2⟩, ho2, hc2, n2, hd2⟩ := pl2
  simp only at hc2 hd2
  subst hc2 hd2
  have hl2 := r2.length
  have hsz : its.toArray.size + its2.toArray.size ≤ sizeLine := by rw [List.size_toArray, List.size_toArray]; omega
  have hlong : ¬ (!its.toArray.isEmpty && Builtin.List.listTooLong (its.toArray.size + its2.toArray.size)) = true := by
    rw [notLongL hsz, Bool.and_false]
    exact Bool.false_ne_true
  refine call_meets PySem.F.slot_list_extend ⟨_, e, rfl⟩ PySem.F.entry_list_extend (PySem.F.args_list_extend_2 _ _)
    (ext_tup l b its.toArray its2.toArray n n2 dd2 sl2 hlong (by rw [List.size_toArray]; omega) (by omega)) ⟨e, ho2, ?_⟩
  refine ⟨.non, _, I.lset (its' := its ++ its2) hH e (by simp) (r.append r2) ?_, rfl, q⟩
  rw [List.length_append]
  omega
theorem own_more {K : PySem.W.Frag} {G H : Hp} {q : Addr} {ts : List T} {vs zs : List V} {ds : List PyData} {S' : Addr → Prop} (o : Own K G H (.ref q) (.node .lst ts) S') (hq : H q = some (.lst vs)) (hd : DqAll K G zs ds) :
    Own K G (upd H q (.lst (vs ++ zs))) (.ref q) (.node .lst (ts ++ ds.map T.dat)) S' := by
  obtain ⟨vs', A, τ, n, gA, l, nA, sS⟩ := own_kids o
  have ev : vs' = vs := by
    have := n.1
    rw [hq] at this
    cases this
    rfl
  subst ev
  have hA : ∀ b, A b ↔ b = q := n.2
  obtain ⟨τ3, l3, dm3⟩ := l.app (ownL_dat (H := H) hd) fun b hb => (by obtain ⟨_, z⟩ := hb; cases z)
  have neq : ∀ b, dom τ3 b → b ≠ q := fun b hb z => by
    rcases (dm3 b).mp hb with ⟨m, w⟩ | ⟨_, w⟩
    · rw [nA b ((hA b).mpr z)] at w
      cases w
    · cases w
  have hne : ∀ b, b ≠ q → upd H q (.lst (vs' ++ zs)) b = H b := fun b hb => upd_ne hb
  have on := own_of_kids (k := .lst) (A := fun b => b = q) (a := q) (vs := vs' ++ zs) (H := upd H q (.lst (vs' ++ zs))) (G := G) (K := K) ⟨upd_same, fun b => Iff.rfl⟩ (fun b hb => gA b ((hA b).mpr hb)) (l3.step (fun _ _ z => z) fun b hb => ⟨hne b (neq b hb), (l3.there hb).2⟩) (fun b hb => by
    cases z : τ3 b with
    | none => rfl
    | some m => exact absurd hb (neq b ⟨m, z⟩))
  refine on.congr fun b => ?_
  rw [sS b, hA b, dm3 b]
  constructor
  · rintro (z | z)
    · exact .inl z
    · exact .inr (.inl z)
  · rintro (z | z | ⟨_, z⟩)
    · exact .inl z
    · exact .inr z
    · cases z
/-- the tail: the inner list stands at u, the j-th part of the dict's tree, which is ours meanwhile -/
theorem sde_tail {te : TE} (he : ∀ G H σ env ω (Q : VK), Rep X.K G H σ env ω → GoodE X W p G H σ ω Q (ev env) → te σ H Q)
    {G H G1 H3 : Hp} {σ : L2.St} {ω ω3 : Own3} {env3 : Envt} {i j : Nat} {aa : Addr} {ks : List DK} {ts : List T} {us : List T} {S : Addr → Prop} {u : V} {Q : VK} (s3 : Step G H (dom ω) G1 H3) (r3 : Rep X.K G1 H3 σ env3 ω3) (n3 : New H (dom ω) fun b => dom ω3 b ∨ S b) (hv : σ[i]? = some (some (.ref aa)))
    (ot : Own X.K G1 H3 (.ref aa) (.node (.dct ks false false) ts) S) (dt : ∀ b, S b → ω3 b = none) (hu : ∃ vs A, NodeAt X.K H3 aa (.dct ks false false) vs A ∧ vs[j]? = some u) (hts : ts[j]? = some (.node .lst us))
    (g : GoodE X W false G H σ ω Q ((ev env3).bind fun y env2 => sdeK ks ts j us i y env2)) :
    tyV X.K "list" u H3 ∧ (tCons te tNil) σ H3 fun xs H4 => rExtT X.K u xs H4 Q := by
  have hj : j < ts.length := (List.getElem?_eq_some_iff.mp hts).1
  -- the inner list's place
  have place : ∀ {G' H' : Hp}, Own X.K G' H' (.ref aa) (.node (.dct ks false false) ts) S → (∃ vs A, NodeAt X.K H' aa (.dct ks false false) vs A ∧ vs[j]? = some u) → ∃ vs A τ, NodeAt X.K H' aa (.dct ks false false) vs A ∧ (∀ b, A b → G' b = none) ∧ OwnL X.K G' H' vs ts τ ∧ (∀ b, A b → τ b = none) ∧ (∀ b, S b ↔ A b ∨ dom τ b) ∧ vs[j]? = some u ∧ ∀ b, A b ↔ b = aa := by
    intro G' H' o' ⟨vs0, A0, n0, hu0⟩
    obtain ⟨vs, A, τ, n, gA, l, nA, sS⟩ := own_kids o'
    have ev : vs = vs0 := by
      rcases n.2.1 with ⟨_, kvs, e1, e2, c⟩ | ⟨z, _⟩
      · rcases n0.2.1 with ⟨_, kvs0, e1', e2', c'⟩ | ⟨z, _⟩
        · have c1 : H' aa = some (.dK kvs) := c
          have c2 : H' aa = some (.dK kvs0) := c'
          rw [c1] at c2
          cases c2
          rw [← e2, ← e2']
        · cases z
      · cases z
    subst ev
    exact ⟨vs, A, τ, n, gA, l, nA, sS, hu0, n.2.2⟩
  obtain ⟨vs, A, τ, n, gA, l, nA, sS, hu1, hA⟩ := place ot hu
  have oj := l.own j u _ hu1 hts
  obtain ⟨qa, hqa⟩ : ∃ qa, u = .ref qa := by
    cases oj with
    | node n _ _ _ _ _ => exact ⟨_, rfl⟩
  subst hqa
  refine ⟨?_, ?_⟩
  · cases oj with
    | node n _ _ _ _ _ => exact .inl ⟨rfl, _, SqL.of n.1⟩
  · refine he G1 H3 σ env3 ω3 _ r3 ?_
    cases q : ev env3 with
    | exc c env2 =>
      rw [q] at g
      exact goodX_step s3 (dom_new n3) g
    | fail =>
      rw [q] at g
      exact g
    | ok y env2 =>
      rw [q] at g
      intro x G4 H4 ω4 S4 s4 r4 o4 d4 n4 k4
      simp only [R.bind, sdeK] at g
      split at g
      · rename_i ds hds
        obtain ⟨bb, zs2, rfl, hB, hD⟩ : ∃ bb zs2, x = .ref bb ∧ G4 bb = some (.tup zs2) ∧ DqAll X.K G4 zs2 ds := by
          unfold tupOf at hds
          split at hds
          · cases hds
            cases o4 with
            | dat h _ =>
              cases h with
              | tup z1 z2 => exact ⟨_, _, rfl, z1, z2⟩
          · cases hds
        split at g
        case isFalse => exact g.elim
        rename_i hz
        obtain ⟨ot4, nt4⟩ := ot.carry dt s4 n4
        have hH : ∀ b, S b → H4 b = H3 b := fun b hb => by
          obtain ⟨⟨ob, ho⟩, _⟩ := ot.there b hb
          obtain ⟨z, _⟩ := s4.frm b ob (fun ⟨m, w⟩ => by rw [dt b hb] at w; cases w) ho
          exact z.trans ho.symm
        obtain ⟨vs4, A4, τ4, m4, gA4, l4, nA4, sS4, hu4, hA4⟩ := place ot4 ⟨vs, A, nodeAt_step n fun b hb => hH b ((sS b).mpr (.inl hb)), hu1⟩
        have oj4 := l4.own j _ _ hu4 hts
        obtain ⟨zs, hq⟩ : ∃ zs, H4 qa = some (.lst zs) := by
          cases oj4 with
          | node n _ _ _ _ _ => exact ⟨_, n.1⟩
        have hlen : zs.length = us.length := by
          obtain ⟨vs', A', τ', n', _, l', _, _⟩ := own_kids oj4
          have := n'.1
          rw [hq] at this
          cases this
          exact l'.len
        have hqτ : τ4 qa = some j := by
          obtain ⟨vs', A', τ', n', _, l', _, s'⟩ := own_kids oj4
          exact (s' qa).mpr (.inl (nodeAt_self n'))
        have on := own_more oj4 hq hD
        have hne : ∀ b, b ≠ qa → upd H4 qa (.lst (zs ++ zs2)) b = H4 b := fun b hb => upd_ne hb
        obtain ⟨τ5, l5, dm5⟩ := l4.focus (H2 := upd H4 qa (.lst (zs ++ zs2))) hj hu4 on (fun b z => .inl z) (fun b z1 z2 => hne b fun z => z2 (z ▸ hqτ))
        have naq : aa ≠ qa := fun z => by
          have := nA4 aa ((hA4 aa).mpr rfl)
          rw [z, hqτ] at this
          cases this
        have on5 := own_of_kids (k := .dct ks false false) (A := A4) (a := aa) (vs := vs4) (H := upd H4 qa (.lst (zs ++ zs2))) (G := G4) (K := X.K) (nodeAt_step m4 fun b hb => hne b (by rw [(hA4 b).mp hb]; exact naq)) gA4 l5 (fun b hb => by
          cases z : τ5 b with
          | none => rfl
          | some m =>
            rcases dm5 b ⟨m, z⟩ with w | w
            · rw [nA4 b hb] at w
              cases w
            · obtain ⟨⟨m', w1⟩, _⟩ := w
              rw [nA4 b hb] at w1
              cases w1)
        have hGq : G4 qa = none := (oj4.there qa hqτ).2
        have subN : Same G4 (upd H4 qa (.lst (zs ++ zs2))) := fun b ob eb => by
          rw [hne b (ne_of_none eb hGq)]
          exact r4.sub b ob eb
        have total : ∀ b, (A4 b ∨ dom τ5 b) → S b := fun b hb => by
          rcases hb with hb | hb
          · exact (sS4 b).mpr (.inl hb)
          · rcases dm5 b hb with w | w
            · exact (sS4 b).mpr (.inr ⟨j, w⟩)
            · exact (sS4 b).mpr (.inr w.1)
        have none4 : ∀ b, S b → ω4 b = none := fun b hb => by
          cases w : ω4 b with
          | none => rfl
          | some m => exact absurd (Or.inl ⟨m, w⟩) (nt4 b hb)
        have hqS : S qa := (sS4 qa).mpr (.inr ⟨j, hqτ⟩)
        obtain ⟨ω5, r5, sub5⟩ := r4.mut hz.2 hv on5 (fun b z => .inr (none4 b (total b z))) (fun b z1 _ => hne b fun z => by
          obtain ⟨m, w⟩ := z1
          rw [z, none4 qa hqS] at w
          cases w) subN
        refine ⟨qa, bb, zs, zs2, rfl, rfl, hq, .inl (.inl (r4.sub _ _ hB)), by rw [hlen, dpAll_len hD]; exact hz.1, ?_⟩
        have s34 := s3.trans s4 (dom_new n3)
        have s5 : Step G H (dom ω) G4 (upd H4 qa (.lst (zs ++ zs2))) := by
          refine ⟨s34.ext, fun b ob nd eb => ?_⟩
          obtain ⟨z1, z2⟩ := s34.frm b ob nd eb
          refine ⟨?_, z2⟩
          rw [hne b]
          · exact z1
          · intro z
            rcases n3 b (.inr (z ▸ hqS)) with w | w
            · exact nd w
            · rw [eb] at w
              cases w
        refine good_dat g s5 r5 (fun b hb => ?_) (fun z => by cases z) .non
        rcases sub5 b hb with w | w
        · exact n3 b (.inr (total b w))
        · exact New.trans s3 (dom_new n3) n4 b (.inl w.1)
      · exact g.elim
theorem de_sde {i : Nat} (ho : PE X o (tVar i)) (hk : DP X W pk k ek) (h : DE X W p a ev) (m : M2 X o "setdefault" apos k (.List [] lpos) cpos) (hs : noStar a = true)
    (hbase : attributeBase (.Call (.Attribute o "setdefault" apos) [k, .List [] lpos] [] cpos) "extend" X.env (eval (.Call (.Attribute o "setdefault" apos) [k, .List [] lpos] [] cpos) X.env) = eval (.Call (.Attribute o "setdefault" apos) [k, .List [] lpos] [] cpos) X.env)
    (hline : (apos2.endLine == cpos2.line) = true) : DE X W false (.Call (.Attribute (.Call (.Attribute o "setdefault" apos) [k, .List [] lpos] [] cpos) "extend" apos2) [a] [] cpos2) (evSde i ek ev) := by
  obtain ⟨te, h1, h2⟩ := h
  obtain ⟨tk, g1, g2⟩ := hk
  have hst : starEach [a] X.env = (false, eval a X.env) :: starEach [] X.env := star_cons hs
  refine ⟨_, pe_bm PySem.F.plainAttrs_list PySem.F.slot_list_extend PySem.F.type_list_extend mt_extendT (pe_dsetd ho g1 (pe_lst pa_nil) m) (pa_cons h1 pa_nil hst) hbase (by rw [hst]; rfl) hline hst rfl, fun G H σ env ω Q r g => ?_⟩
  unfold evSde at g
  split at g
  · rename_i ks0 tk0 ts0 ht0
    obtain ⟨v, hv, o0⟩ := r.own i _ ht0
    obtain ⟨aa, rfl⟩ : ∃ aa, v = .ref aa := by
      cases o0 with
      | node _ _ _ _ _ _ => exact ⟨_, rfl⟩
    refine ⟨.ref aa, hv, aa, rfl, ?_, ?_⟩
    · obtain ⟨vs, A, τ, n, _⟩ := own_kids o0
      obtain ⟨_, q, _⟩ := n
      rcases q with ⟨_, kvs, _, _, z⟩ | ⟨_, kvs, _, _, z⟩
      · exact .inl ⟨kvs, .inl z⟩
      · exact .inr ⟨kvs, .inl z⟩
    refine g2 G H σ env ω _ r ?_
    cases q : ek env with
    | exc c env1 =>
      rw [q] at g
      exact g
    | fail =>
      rw [q] at g
      exact g
    | ok kt env1 =>
      rw [q] at g
      intro y G1 H1 ω1 s1 r1 o1 n1 k1
      simp only [R.bind] at g
      split at g
      · rename_i ks ts k' e1 e2
        split at g
        · rename_i hsz
          have hyk : y = kV k' := by
            cases z : kt.frz with
            | none =>
              rw [z] at e2
              cases e2
            | some d =>
              rw [z] at e2
              exact inl_of (o1.dq r1.sub z) e2
          refine ⟨Nat.zero_le _, fun pp hpp => ?_⟩
          obtain ⟨v', hv', _⟩ := r1.own i _ e1
          rw [hv] at hv'
          cases hv'
          obtain ⟨v', ω2, hv'', r2, ot, dt, n2⟩ := r1.out e1
          rw [hv] at hv''
          cases hv''
          have hpG : G1 pp = none := same_free r1.sub hpp
          have sh : Same H1 (upd H1 pp (.lst [])) := same_upd hpp
          have sp : ∀ b, (∃ ob, H1 b = some ob) → upd H1 pp (.lst []) b = H1 b := fun b ⟨ob, hb⟩ => (sh b ob hb).trans hb.symm
          have ot3 : Own X.K G1 (upd H1 pp (.lst [])) (.ref aa) (.node (.dct ks false false) ts) (fun b => ω1 b = some i) := ot.step (fun _ _ z => z) fun b hb => ⟨sp b (r1.there ⟨i, hb⟩).1, (r1.there ⟨i, hb⟩).2⟩
          have r3 : Rep X.K G1 (upd H1 pp (.lst [])) σ (env1.set i none) ω2 := r2.step (fun _ _ z => z) (fun b ob z => sh b ob (r1.sub b ob z)) fun b hb => ⟨sp b (r2.there hb).1, (r2.there hb).2⟩
          have s3 : Step G H (dom ω) G1 (upd H1 pp (.lst [])) := s1.trans (S1 := dom ω1) ⟨fun _ _ z => z, fun b ob _ z => ⟨sh b ob z, fun w => w⟩⟩ n1
          obtain ⟨vs, A, τ, nd, gA, l, nA, sS⟩ := own_kids ot
          obtain ⟨nk, q2, hA⟩ := id nd
          obtain ⟨kvs, ek1, ek2, cell'⟩ : ∃ kvs : List (Key × V), kvs.map (fun q => (Sum.inl q.1 : DK)) = ks ∧ kvs.map (·.2) = vs ∧ H1 aa = some (.dK kvs) := by
            rcases q2 with ⟨_, kvs, w1, w2, w3⟩ | ⟨z, _⟩
            · exact ⟨kvs, w1, w2, w3⟩
            · cases z
          have hlen : kvs.length = ts.length := by
            have z := l.len
            rw [← ek2, List.length_map] at z
            exact z
          have hix := valV_ix (f := fun x => (Sum.inl x : DK)) (fun x y z => Sum.inl.inj z) k' kvs
          rw [ek1, ek2] at hix
          have haa : upd H1 pp (.lst []) aa = some (.dK kvs) := sh aa _ cell'
          refine ⟨kvs, k', haa, hyk, by rw [hlen, sizeLine_eq]; omega, fun v0 hv0 => ?_, fun hnone => ?_⟩
          · cases hj : ixK ks (.inl k') with
            | none =>
              rw [hj] at hix
              rw [← hix] at hv0
              cases hv0
            | some j =>
              rw [hj] at hix g
              simp only [Option.bind_some] at hix
              rw [hv0] at hix
              simp only at g
              split at g
              · rename_i us hts
                exact sde_tail h2 s3 r3 (fun b hb => n1 b (hb.elim (fun z => n2 b z) fun z => ⟨i, z⟩)) hv ot3 dt ⟨vs, A, nodeAt_step nd fun b hb => sp b (nodeAt_some nd hb), hix⟩ hts g
              · exact g.elim
          · have hj : ixK ks (.inl k') = none := by
              cases hj : ixK ks (.inl k') with
              | none => rfl
              | some j =>
                rw [hj, hnone] at hix
                simp only [Option.bind_some] at hix
                obtain ⟨hjl, _⟩ := List.findIdx?_eq_some_iff_getElem.mp hj
                have : j < vs.length := by
                  rw [l.len, ← hlen, ← List.length_map (f := fun q : Key × V => (Sum.inl q.1 : DK)), ek1]
                  exact hjl
                rw [List.getElem?_eq_getElem this] at hix
                cases hix
            rw [hj] at g
            simp only at g
            rw [putK_new _ hnone]
            have hne : aa ≠ pp := fun z => by
              rw [z, hpp] at cell'
              cases cell'
            have hH4 : ∀ b, b ≠ aa → upd (upd H1 pp (.lst [])) aa (.dK (kvs ++ [(k', .ref pp)])) b = upd H1 pp (.lst []) b := fun b hb => upd_ne hb
            have hpd : ω1 pp = none := r1.fresh hpp
            have hpi : ∀ b, dom τ b → b ≠ pp := fun b hb z => by
              have w := (sS b).mpr (.inr hb)
              rw [z, hpd] at w
              cases w
            have haτ : ∀ b, dom τ b → b ≠ aa := fun b ⟨m, hm⟩ z => by
              have w := nA aa ((hA aa).mpr rfl)
              rw [← z, hm] at w
              cases w
            have l4 : OwnL X.K G1 (upd (upd H1 pp (.lst [])) aa (.dK (kvs ++ [(k', .ref pp)]))) vs ts τ := l.step (fun _ _ z => z) fun b hb => ⟨by rw [hH4 b (haτ b hb), upd_ne (hpi b hb)], (l.there hb).2⟩
            have op : Own X.K G1 (upd (upd H1 pp (.lst [])) aa (.dK (kvs ++ [(k', .ref pp)]))) (.ref pp) (.node .lst []) (fun b => b = pp ∨ dom (fun _ => none : Own3) b) :=
              own_of_kids (A := fun b => b = pp) ⟨by rw [hH4 pp (Ne.symm hne)]; exact upd_same, fun b => Iff.rfl⟩ (fun b hb => by rw [hb]; exact hpG) OwnL.nil fun _ _ => rfl
            obtain ⟨τ5, l5, d5⟩ := l4.snoc op fun b hb => by
              rcases hb with rfl | ⟨_, z⟩
              · cases w : τ b with
                | none => rfl
                | some m => exact absurd rfl (hpi b ⟨m, w⟩)
              · cases z
            have nd5 : NodeAt X.K (upd (upd H1 pp (.lst [])) aa (.dK (kvs ++ [(k', .ref pp)]))) aa (.dct (ks ++ [.inl k']) false false) (vs ++ [.ref pp]) (fun b => b = aa) := by
              refine ⟨?_, .inl ⟨rfl, kvs ++ [(k', V.ref pp)], ?_, ?_, show upd (upd H1 pp (.lst [])) aa (.dK (kvs ++ [(k', .ref pp)])) aa = some (.dK (kvs ++ [(k', .ref pp)])) from upd_same⟩, fun b => Iff.rfl⟩
              · refine List.nodup_append.mpr ⟨nk, List.nodup_cons.mpr ⟨List.not_mem_nil, List.nodup_nil⟩, fun x hx y hy z => ?_⟩
                rw [List.mem_singleton] at hy
                rw [z, hy] at hx
                exact ixK_none hj hx
              · rw [List.map_append, ek1]
                rfl
              · rw [List.map_append, ek2]
                rfl
            have ot5 := own_of_kids (G := G1) nd5 (fun b hb => by rw [hb]; exact gA aa ((hA aa).mpr rfl)) l5 fun b hb => by
              cases w : τ5 b with
              | none => rfl
              | some m =>
                rcases (d5 b).mp ⟨m, w⟩ with z | z | ⟨_, z⟩
                · exact absurd hb (haτ b z)
                · exact absurd (hb.symm.trans z) hne
                · cases z
            have hS5 : ∀ b, (b = aa ∨ dom τ5 b) → ω1 b = some i ∨ b = pp := fun b hb => by
              rcases hb with rfl | hb
              · exact .inl ((sS _).mpr (.inl ((hA _).mpr rfl)))
              · rcases (d5 b).mp hb with z | z | ⟨_, z⟩
                · exact .inl ((sS b).mpr (.inr z))
                · exact .inr z
                · cases z
            have dt5 : ∀ b, (b = aa ∨ dom τ5 b) → ω2 b = none := fun b hb => by
              rcases hS5 b hb with z | z
              · exact dt b z
              · rw [z]
                exact r2.fresh hpp
            have haω2 : ∀ b, dom ω2 b → b ≠ aa := fun b ⟨m, hm⟩ z => by
              have w := dt5 aa (.inl rfl)
              rw [← z, hm] at w
              cases w
            have sub5 : Same G1 (upd (upd H1 pp (.lst [])) aa (.dK (kvs ++ [(k', .ref pp)]))) := fun b ob z => by
              have w : b ≠ aa := fun y => by
                rw [y, gA aa ((hA aa).mpr rfl)] at z
                cases z
              rw [hH4 b w]
              exact sh b ob (r1.sub b ob z)
            have r5 : Rep X.K G1 (upd (upd H1 pp (.lst [])) aa (.dK (kvs ++ [(k', .ref pp)]))) σ (env1.set i none) ω2 := r3.step (fun _ _ z => z) sub5 fun b hb => ⟨hH4 b (haω2 b hb), (r3.there hb).2⟩
            have s5 : Step G H (dom ω) G1 (upd (upd H1 pp (.lst [])) aa (.dK (kvs ++ [(k', .ref pp)]))) := s1.trans (S1 := dom ω1) ⟨fun _ _ z => z, fun b ob hb z => ⟨by
              have w : b ≠ aa := fun y => hb ⟨i, by rw [y]; exact (sS _).mpr (.inl ((hA _).mpr rfl))⟩
              rw [hH4 b w]
              exact sh b ob z, fun w => w⟩⟩ n1
            refine sde_tail (j := ts.length) (us := []) h2 s5 r5 (fun b hb => ?_) hv ot5 dt5 ⟨_, _, nd5, by rw [← l.len]; exact List.getElem?_concat_length⟩ List.getElem?_concat_length ?_
            · rcases hb with z | z
              · exact n1 b (n2 b z)
              · rcases hS5 b z with w | w
                · exact n1 b ⟨i, w⟩
                · rw [w]
                  by_cases hd : dom ω pp
                  · exact .inl hd
                  · right
                    cases y : H pp with
                    | none => rfl
                    | some ob =>
                      rw [(s1.frm pp ob hd y).1] at hpp
                      cases hpp
            · exact g
        · exact g.elim
      · exact g.elim
  · exact g.elim

/-! ### max, min of a list of numbers -/
def maxI : List Int → Option Int
  | [] => none
  | x :: xs => some (xs.foldl max x)
theorem maxI_fold : ∀ (xs : List Int) (x : Int), (xs.foldl max x = x ∨ xs.foldl max x ∈ xs) ∧ x ≤ xs.foldl max x ∧ ∀ y ∈ xs, y ≤ xs.foldl max x
  | [], x => ⟨.inl rfl, Int.le_refl _, fun y hy => by cases hy⟩
  | z :: xs, x => by
    obtain ⟨h1, h2, h3⟩ := maxI_fold xs (max x z)
    rw [List.foldl_cons]
    refine ⟨?_, by omega, fun y hy => ?_⟩
    · rcases h1 with h | h
      · rcases Int.le_total x z with c | c
        · right
          rw [h, Int.max_eq_right c]
          exact List.mem_cons_self
        · left
          rw [h, Int.max_eq_left c]
      · exact .inr (List.mem_cons_of_mem _ h)
    · rcases List.mem_cons.mp hy with rfl | w
      · omega
      · exact h3 y w
theorem maxI_spec {ns : List Int} {m : Int} (h : maxI ns = some m) : m ∈ ns ∧ ∀ y ∈ ns, y ≤ m := by
  cases ns with
  | nil => cases h
  | cons x xs =>
    cases h
    obtain ⟨h1, h2, h3⟩ := maxI_fold xs x
    refine ⟨?_, fun y hy => ?_⟩
    · rcases h1 with h | h
      · rw [h]; exact List.mem_cons_self
      · exact List.mem_cons_of_mem _ h
    · rcases List.mem_cons.mp hy with rfl | w
      · exact h2
      · exact h3 y w
def maxT (t : T) : Option T := match t.seq with
  | some (false, ds) => (allInts ds).bind fun ns => (maxI ns).map fun m => .dat (.int m)
  | _ => none
theorem cr_max1 (hc : X.calm = true) : CallR X (.builtin "max") (r1 X.K maxT) := by
  intro pins s σ H xs us Q I r h
  obtain ⟨G, x, t, r', rfl, sg, h1, e, k⟩ := h
  unfold maxT at e
  split at e
  · rename_i ds e1
    rw [Option.bind_eq_some_iff] at e
    obtain ⟨ns, e2, e⟩ := e
    rw [Option.map_eq_some_iff] at e
    obtain ⟨m, e0, rfl⟩ := e
    obtain ⟨a, vs, rfl, q1, q2, _⟩ := vw_seq sg h1 e1
    have e3 := allInts_eq e2
    subst e3
    have e4 := dq_ints q1
    subst e4
    obtain ⟨m1, m2⟩ := maxI_spec e0
    refine cr_max hc pins s σ H _ us Q I r ⟨a, ns, rfl, q2 rfl, List.length_pos_of_mem m1, fun m' g1 g2 => ?_⟩
    have : m' = m := Int.le_antisymm (m2 m' g1) (g2 m m1)
    subst this
    exact k _ _ _ (.of_dat sg (.int _))
  · cases e
end
section
variable {X : Cx} {W : WX} {p : Bool} {k : Nat} {N : List Str} {sc : Scope} {a : Expr} {ea : Ev} {p0 pos : Pos}
theorem EOk.max (c : EOk X W k N sc) (b : X.mg "max" = none) (g : cGl sc "max" = true) (h : DP X W p a ea) (hs : noStar a = true) : DE X W p (.Call (.Name "max" p0) [a] [] pos) (evB1 maxT ea) := de_b1 (cr_max1 c.calm) (c.gl g) b rfl (cGl_name g).1 (cGl_name g).2 hs h
end
end VR

/-! VU1: zip of two lists, or of two tuples; max, min of two numbers. -/
namespace VR
open PySem PySem.Spec PyProof.Rows L2
def zipD (ds es : List PyData) : List PyData := List.zipWith (fun d e => .tuple [d, e]) ds es
def evZip (evs : Envt → R (List T)) : Envt → R Src := fun env => (evs env).bind fun ts env' => match frzAll ts with
  | some [.list ds, .list es] => .ok (.fix (zipD ds es)) env'
  | some [.tuple ds, .tuple es] => .ok (.fix (zipD ds es)) env'
  | _ => .fail
theorem zipD_at {ds es : List PyData} {i : Nat} {d : PyData} (h : (zipD ds es)[i]? = some d) : ∃ d1 d2, ds[i]? = some d1 ∧ es[i]? = some d2 ∧ d = .tuple [d1, d2] := by
  unfold zipD at h
  rw [List.getElem?_zipWith_eq_some] at h
  obtain ⟨x, y, h1, h2, h3⟩ := h
  exact ⟨x, y, h1, h2, h3.symm⟩
theorem zipD_len (ds es : List PyData) : (zipD ds es).length = min ds.length es.length := List.length_zipWith
theorem src_zip {K : PySem.W.Frag} {G H : Hp} {a b : Addr} {vs ws : List V} {ds es : List PyData} (s : Same G H) (h1 : SqL K H a vs) (h2 : SqL K H b ws) (hd1 : DqAll K G vs ds) (hd2 : DqAll K G ws es) : SrcOk K G H (Itz K a b) (zipD ds es) := by
  refine ⟨fun i d hi => ?_, fun i hi => ⟨vs, ws, h1, h2, by rw [zipD_len] at hi; rw [dpAll_len hd1, dpAll_len hd2]; omega⟩⟩
  obtain ⟨d1, d2, e1, e2, rfl⟩ := zipD_at hi
  obtain ⟨v, hv, q1⟩ := dpAll_at' hd1 e1
  obtain ⟨w, hw, q2⟩ := dpAll_at' hd2 e2
  refine ⟨⟨vs, ws, v, w, h1, h2, hv, hw⟩, fun x H' y => ?_⟩
  obtain ⟨T, x1, x2, rfl, hT, rfl, y1, y2⟩ := y
  have z1 := y1 vs h1
  have z2 := y2 ws h2
  rw [hv] at z1
  rw [hw] at z2
  cases z1
  cases z2
  exact ⟨_, .tup s hT (.cons q1 (.cons q2 .nil))⟩
theorem src_zipT {K : PySem.W.Frag} {G H : Hp} {a b : Addr} {vs ws : List V} {ds es : List PyData} (s : Same G H) (h1 : SqT K H a vs) (h2 : SqT K H b ws) (hd1 : DqAll K G vs ds) (hd2 : DqAll K G ws es) : SrcOk K G H (RZ.ItzT K a b) (zipD ds es) := by
  refine ⟨fun i d hi => ?_, fun i hi => ⟨vs, ws, h1, h2, by rw [zipD_len] at hi; rw [dpAll_len hd1, dpAll_len hd2]; omega⟩⟩
  obtain ⟨d1, d2, e1, e2, rfl⟩ := zipD_at hi
  obtain ⟨v, hv, q1⟩ := dpAll_at' hd1 e1
  obtain ⟨w, hw, q2⟩ := dpAll_at' hd2 e2
  refine ⟨⟨vs, ws, v, w, h1, h2, hv, hw⟩, fun x H' y => ?_⟩
  obtain ⟨T, x1, x2, rfl, hT, rfl, y1, y2⟩ := y
  have z1 := y1 vs h1
  have z2 := y2 ws h2
  rw [hv] at z1
  rw [hw] at z2
  cases z1
  cases z2
  exact ⟨_, .tup s hT (.cons q1 (.cons q2 .nil))⟩
section
variable {X : Cx} {W : WX} {p : Bool} {e a b : Expr} {ev ea : Ev} {evs : Envt → R (List T)}
theorem di_zip {elts : List Expr} {kk : Nat} {tpos p0 pos : Pos} (hg : Gl X "zip") (hm : X.mg "zip" = none) (h : DA X W p [a, b] evs) (ha : noStar a = true) (hb : noStar b = true) : DI X W p (.Tuple elts kk tpos) (.Call (.Name "zip" p0) [a, b] [] pos) (evZip evs) := by
  obtain ⟨t, h1, h2⟩ := h
  have hst : starEach [b] X.env = [(false, eval b X.env)] := star_cons hb
  have hst2 : starEach [a, b] X.env = (false, eval a X.env) :: starEach [b] X.env := star_cons ha
  refine ⟨_, RZ.pi_zipA hg hm h1 hst2 (by rw [hst]; rfl), fun G H σ env ω Q r g => h2 G H σ env ω _ r ?_⟩
  unfold evZip at g
  cases q : evs env with
  | ok ts env' =>
    rw [q] at g
    intro vs G1 H1 ω1 τ s1 r1 l1 d1 n1 k1
    simp only [R.bind] at g
    split at g
    · rename_i ds es hf
      obtain ⟨G3, gs, r3, hD, fr⟩ := l1.freeze r1 d1 hf
      cases hD with
      | cons q1 hD =>
        cases hD with
        | cons q2 hD =>
          cases hD
          cases q1 with
          | lst a1 a2 =>
            cases q2 with
            | lst b1 b2 =>
              refine ⟨_, _, _, _, rfl, .inl ⟨same_sqL r3.sub a1, same_sqL r3.sub b1, g _ G3 H1 ω1 (step_freeze s1 n1 gs fr) r3 (fun G2 H2 e1 e2 => src_zip e2 (same_sqL e2 (same_sqL e1 a1)) (same_sqL e2 (same_sqL e1 b1)) (dpAll_mono e1 _ _ a2) (dpAll_mono e1 _ _ b2)) (fun b hb => n1 b (.inl hb)) k1⟩⟩
    · rename_i ds es hf
      obtain ⟨G3, gs, r3, hD, fr⟩ := l1.freeze r1 d1 hf
      cases hD with
      | cons q1 hD =>
        cases hD with
        | cons q2 hD =>
          cases hD
          cases q1 with
          | tup a1 a2 =>
            cases q2 with
            | tup b1 b2 =>
              refine ⟨_, _, _, _, rfl, .inr ⟨SqT.of (r3.sub _ _ a1), SqT.of (r3.sub _ _ b1), g _ G3 H1 ω1 (step_freeze s1 n1 gs fr) r3 (fun G2 H2 e1 e2 => src_zipT e2 (SqT.of (e2 _ _ (e1 _ _ a1))) (SqT.of (e2 _ _ (e1 _ _ b1))) (dpAll_mono e1 _ _ a2) (dpAll_mono e1 _ _ b2)) (fun b hb => n1 b (.inl hb)) k1⟩⟩
    · exact g.elim
  | exc c env' =>
    rw [q] at g
    exact g
  | fail =>
    rw [q] at g
    exact g
def twoI (F : Int → Int → Int) : List T → Option T
  | [.dat (.int i), .dat (.int j)] => some (.dat (.int (F i j)))
  | _ => none
def evB2 (F : Int → Int → Int) (evs : Envt → R (List T)) : Ev := fun env => (evs env).bind fun ts env' => R.lift (twoI F ts) env'
theorem de_b2 {id : String} {x : Str} {p0 pos : Pos} {F : Int → Int → Int} (hc : CallR X (.builtin id) (fun xs H Q => ∃ i j, xs = [.int i, .int j] ∧ Q (.int (F i j)) H)) (hg : Gl X x) (hm : X.mg x = none) (hv : bootBuiltins x = some (.builtin id)) (hn : x ≠ "__name__") (hdb : (x == ("__debug__" : Str)) = false) (ha : noStar a = true) (hb : noStar b = true) (h : DA X W p [a, b] evs) :
    DE X W p (.Call (.Name x p0) [a, b] [] pos) (evB2 F evs) := by
  obtain ⟨t, h1, h2⟩ := h
  have hst : starEach [b] X.env = [(false, eval b X.env)] := star_cons hb
  have hst2 : starEach [a, b] X.env = (false, eval a X.env) :: starEach [b] X.env := star_cons ha
  refine ⟨_, pe_callB hc hg hm hv h1 hn hdb hst2 (by rw [hst]; rfl), fun G H σ env ω Q r g => h2 G H σ env ω _ r ?_⟩
  unfold evB2 at g
  cases q : evs env with
  | ok ts env' =>
    rw [q] at g
    intro vs G1 H1 ω1 τ s1 r1 l1 d1 n1 k1
    simp only [R.bind, R.lift] at g
    split at g
    · rename_i y hy
      unfold twoI at hy
      split at hy
      · rename_i i j
        cases hy
        obtain ⟨v1, v2, rfl⟩ : ∃ v1 v2, vs = [v1, v2] := by
          match vs, l1.len with
          | [v1, v2], _ => exact ⟨v1, v2, rfl⟩
        have o1 := l1.own 0 v1 _ rfl rfl
        have o2 := l1.own 1 v2 _ rfl rfl
        cases o1 with
        | dat hd _ =>
          cases o2 with
          | dat hd2 _ =>
            cases dq_int hd
            cases dq_int hd2
            exact ⟨i, j, rfl, good_dat g s1 r1 (fun b hb => n1 b (.inl hb)) k1 (.int _)⟩
      · cases hy
    · exact g.elim
  | exc c env' =>
    rw [q] at g
    exact g
  | fail =>
    rw [q] at g
    exact g
end
section
variable {X : Cx} {W : WX} {p : Bool} {k : Nat} {N : List Str} {sc : Scope} {a b : Expr} {evs : Envt → R (List T)} {p0 pos : Pos}
theorem EOk.max2 (c : EOk X W k N sc) (hb : X.mg "max" = none) (g : cGl sc "max" = true) (h : DA X W p [a, b] evs) (ha : noStar a = true) (hs : noStar b = true) : DE X W p (.Call (.Name "max" p0) [a, b] [] pos) (evB2 (fun i j => if j > i then j else i) evs) := de_b2 (call_max2 c.calm) (c.gl g) hb rfl (cGl_name g).1 (cGl_name g).2 ha hs h
theorem EOk.min2 (c : EOk X W k N sc) (hb : X.mg "min" = none) (g : cGl sc "min" = true) (h : DA X W p [a, b] evs) (ha : noStar a = true) (hs : noStar b = true) : DE X W p (.Call (.Name "min" p0) [a, b] [] pos) (evB2 (fun i j => if j < i then j else i) evs) := de_b2 (call_min2 c.calm) (c.gl g) hb rfl (cGl_name g).1 (cGl_name g).2 ha hs h
end
end VR

/-! VU2: a, b, c = x, y, z; a, b = x, y with names that blocks see. -/
namespace VR
open PySem PySem.Spec PyProof.Rows L2
def evPar3 (i j l : Nat) (es : Envt → R (List T)) : Es := fun env => (es env).st fun ts env' => match ts with
  | [t, u, v] => if i < env'.length ∧ j < env'.length ∧ l < env'.length then .next (((env'.set i (some t)).set j (some u)).set l (some v)) else .fail
  | _ => .fail
section
variable {X : Cx} {W : WX} {k nk : Nat} {N : List Str} {sc : Scope} {p : Bool} {e a b c' : Expr} {ev : Ev} {pos : Pos}
theorem ds_par3 {i j l : Nat} {x y z : Str} {es : Envt → R (List T)} {px py pz pt pt2 : Pos} {kt k2 : Nat} (h : DA X W p [a, b, c'] es) (hki : nk ≤ i) (hkj : nk ≤ j) (hkl : nk ≤ l)
    (ps : ∀ ta, PA X [a, b, c'] ta → PS X (.Assign [.Tuple [.Name x px, .Name y py, .Name z pz] kt pt] (.Tuple [a, b, c'] k2 pt2) pos) (tPar3 i j l ta)) : DS X W nk (.Assign [.Tuple [.Name x px, .Name y py, .Name z pz] kt pt] (.Tuple [a, b, c'] k2 pt2) pos) (evPar3 i j l es) := by
  obtain ⟨ta, h1, h2⟩ := h
  refine ⟨_, ps ta h1, fun G H σ env ω D r g => h2 G H σ env ω _ r ?_⟩
  unfold evPar3 at g
  cases q : es env with
  | ok ts env' =>
    rw [q] at g
    intro vs G1 H1 ω1 τ s1 r1 l1 d1 n1 k1
    simp only [R.st] at g
    split at g
    · rename_i t u v
      split at g
      · rename_i hij
        obtain ⟨v1, v2, v3, rfl⟩ : ∃ v1 v2 v3, vs = [v1, v2, v3] := by
          have z := l1.len
          match vs, z with
          | [v, w, x], _ => exact ⟨v, w, x, rfl⟩
        refine ⟨v1, v2, v3, rfl, ?_⟩
        have o1 := l1.own 0 v1 t rfl rfl
        have o2 := l1.own 1 v2 u rfl rfl
        have o3 := l1.own 2 v3 v rfl rfl
        obtain ⟨ω2, r2, n2⟩ := r1.put hij.1 o1 fun b hb => d1 b ⟨0, hb⟩
        have dw : ∀ (m : Nat), m ≠ 0 → ∀ b, τ b = some m → ω2 b = none := fun m hm b hb => by
          cases z : ω2 b with
          | none => rfl
          | some l =>
            rcases n2 b ⟨l, z⟩ with y | ⟨l', y⟩
            · rw [hb] at y
              cases y
              exact absurd rfl hm
            · rw [d1 b ⟨m, hb⟩] at y
              cases y
        obtain ⟨ω3, r3, n3⟩ := r2.put (i := j) (by rw [List.length_set]; exact hij.2.1) o2 (dw 1 (by decide))
        have dw3 : ∀ b, τ b = some 2 → ω3 b = none := fun b hb => by
          cases z : ω3 b with
          | none => rfl
          | some l =>
            rcases n3 b ⟨l, z⟩ with y | ⟨l', y⟩
            · rw [hb] at y
              cases y
            · rw [dw 2 (by decide) b hb] at y
              cases y
        obtain ⟨ω4, r4, n4⟩ := r3.put (i := l) (by rw [List.length_set, List.length_set]; exact hij.2.2) o3 dw3
        refine g _ G1 H1 ω4 s1 r4 (fun b hb => n1 b ?_) (((Keep.set hki).trans (Keep.set hkj)).trans (Keep.set hkl))
        rcases n4 b hb with z | z
        · exact .inr ⟨2, z⟩
        · rcases n3 b z with y | y
          · exact .inr ⟨1, y⟩
          · rcases n2 b y with w | w
            · exact .inr ⟨0, w⟩
            · exact .inl w
      · exact g.elim
    · exact g.elim
  | exc c env' =>
    rw [q] at g
    exact goodX_S g
  | fail =>
    rw [q] at g
    exact g
theorem SOk.par3 (c : SOk X W k N sc) {i j l : Nat} {x y z : Str} {es : Envt → R (List T)} {px py pz pt pt2 : Pos} {kt k2 : Nat} (hi : cLoc N sc i x = true) (hj : cLoc N sc j y = true) (hl : cLoc N sc l z = true) (hij : i ≠ j) (hil : i ≠ l) (hjl : j ≠ l) (hx : sc.names.lookup x = some .local) (hy : sc.names.lookup y = some .local) (hz : sc.names.lookup z = some .local) (hki : nk ≤ i) (hkj : nk ≤ j) (hkl : nk ≤ l)
    (hw : swappedStores [.Tuple [.Name x px, .Name y py, .Name z pz] kt pt] (.Tuple [a, b, c'] k2 pt2) (scEnv sc) = pure (some [x, y, z])) (h : DA X W p [a, b, c'] es) : DS X W nk (.Assign [.Tuple [.Name x px, .Name y py, .Name z pz] kt pt] (.Tuple [a, b, c'] k2 pt2) pos) (evPar3 i j l es) :=
  ds_par3 h hki hkj hkl fun ta ht => ps_par3 c.calm c.nd (c.loc hi).1 (c.loc hj).1 (c.loc hl).1 hij hil hjl (by rw [c.sc]; exact hx) (by rw [c.sc]; exact hy) (by rw [c.sc]; exact hz) ht (by rw [stores_env, c.sc]; exact hw) (by rfl)
theorem SOk.unpC (c : SOk X W k N sc) {tg : Expr} {t : Tg} (hg : DG X tg t) (hk : ∀ i ∈ t.slots, nk ≤ i) (hn : noLc e = true) (hw : swappedStores [tg] e (scEnv sc) = pure none) (h1 : (assignEach [tg] X.env).map (·.2) = [assign tg X.env]) (h : DE X W p e ev) : DS X W nk (.Assign [tg] e pos) (evUnp t ev) :=
  ds_unp h hg hk fun te g h2 h3 => ps_asg h2 h3 (swaps_no hn) (by rw [stores_env, c.sc]; exact hw) h1
end
end VR

/-! VU3: max, min of two things that are alike (numbers, texts, tuples of these). -/
namespace VR
open PySem PySem.Spec PyProof.Rows L2
section
variable {prog : Program} {w : World} {A : Around} {E : Value → Shared → Prop} {s : Shared}
theorem max_pair {a b : Value} {x y : PyData} {as bs : List Addr} {Q : Value → Shared → Prop} (hh : A.handled = none) (ra : Reads s.heap a x as) (rb : Reads s.heap b y bs) (al : PySem.W.AlikeAll [x, y]) (hu : A.units + 1 + PyData.depthAll [x, y] < cLine)
    (h : ∀ h' tk, (∀ c o, s.heap.get? c = some o → h'.get? c = some o) → Q (if PySem.W.dataLt x y = true then b else a) { s with heap := h', toks := tk }) : wpAny (model prog w) A (call (.builtin "max") [a, b]) Q E s := by
  have nm : (toString "max" ++ toString ".loop" : String) = "max.loop" := by decide
  have keep0 : ∀ c o, s.heap.get? c = some o → (s.heap.push { cls := .type "tuple", data := .seq #[a, b] }).get? c = some o := fun c o e => Heap.get?_push_of_some _ e
  have hr : ReadsAll (s.heap.push { cls := .type "tuple", data := .seq #[a, b] }) (#[a, b] : Array Value).toList [x, y] (as ++ (bs ++ [])) := .cons (PySem.W.reads_keeps keep0 ra) (.cons (PySem.W.reads_keeps keep0 rb) .nil)
  have hT : (s.heap.push { cls := .type "tuple", data := .seq #[a, b] }).IsTuple s.heap.objs.size #[a, b] := ⟨_, Heap.get?_push_size _ rfl, rfl, 0, rfl⟩
  refine call_function_tree F.kind_max F.plain_max F.entry_max (F.args_max2 _ _) ?_
  have bp : Builtin.Builtins.bindParams "max" ["key", "default"] 0 ⟨[], []⟩ = pure [none, none] := rfl
  show wpAny _ A.in1 (Builtin.Builtins.bindParams "max" ["key", "default"] 0 ⟨[], []⟩ >>= _) _ _ s
  refine wpAny_bind (wpAny_of_eq bp ?_)
  show wpAny _ A.in1 (newTuple [a, b] >>= _) _ _ s
  refine wpAny_bind (wpAny_newObj_type ?_)
  refine wpAny_bind (PySem.W.iter_tupleW (A := A.in1) (s := { s with heap := s.heap.push { cls := .type "tuple", data := .seq #[a, b] } }) hh hT fun s2 e W st hfp hw hk => ?_)
  refine wpAny_bind (wpAny_newObj_type ?_)
  have nf : s2.heap.objs.size ∉ [(s.heap.push { cls := .type "tuple", data := .seq #[a, b] }).objs.size, s.heap.objs.size] := fun z => Nat.lt_irrefl _ (hfp _ z)
  have cmp := PySem.W.cmpIn_gt (prog := prog) (w := w) (A := A.in1) (s := { s with heap := s.heap.push { cls := .type "tuple", data := .seq #[a, b] } }) hr al (by show A.units + 1 + _ < _; exact hu)
  rw [nm]
  refine wpAny_pure ⟨plainId_quiet F.plain_max_loop _, codeAny_max_loop_firstH W _ hw _ cmp s2.heap.objs.size nf (fresh_in hk) _ (Nat.zero_lt_succ _) (fun c o z => Heap.get?_push_of_some _ (hk c o z)) (W.frame 0 s2 _ s2.toks st (Nat.le_refl _) fun c _ o z => Heap.get?_push_of_some _ z) (Heap.get?_push_size _ rfl) fun v s' hP hm => ?_⟩
  obtain ⟨h', tk, rfl, k'⟩ := PySem.W.moved_old e rfl (Moved.drop_new (tk := s2.toks) hm (Nat.le_refl _))
  have hv : v = if PySem.W.dataLt x y = true then b else a := by
    have z : (#[a, b] : Array Value)[argBest (fun i j => PySem.W.dataLt ([x, y].getD j .none) ([x, y].getD i .none)) 1]? = some v := hP
    have q : argBest (fun i j => PySem.W.dataLt ([x, y].getD j .none) ([x, y].getD i .none)) 1 = if PySem.W.dataLt x y = true then 1 else 0 := rfl
    rw [q] at z
    split at z <;> rename_i c
    · rw [if_pos c]
      exact (Option.some.inj z).symm
    · rw [if_neg c]
      exact (Option.some.inj z).symm
  rw [hv]
  exact h h' tk fun c o z => k' c o (keep0 c o z)
theorem min_pair {a b : Value} {x y : PyData} {as bs : List Addr} {Q : Value → Shared → Prop} (hh : A.handled = none) (ra : Reads s.heap a x as) (rb : Reads s.heap b y bs) (al : PySem.W.AlikeAll [x, y]) (hu : A.units + 1 + PyData.depthAll [x, y] < cLine)
    (h : ∀ h' tk, (∀ c o, s.heap.get? c = some o → h'.get? c = some o) → Q (if PySem.W.dataLt y x = true then b else a) { s with heap := h', toks := tk }) : wpAny (model prog w) A (call (.builtin "min") [a, b]) Q E s := by
  have nm : (toString "min" ++ toString ".loop" : String) = "min.loop" := by decide
  have keep0 : ∀ c o, s.heap.get? c = some o → (s.heap.push { cls := .type "tuple", data := .seq #[a, b] }).get? c = some o := fun c o e => Heap.get?_push_of_some _ e
  have hr : ReadsAll (s.heap.push { cls := .type "tuple", data := .seq #[a, b] }) (#[a, b] : Array Value).toList [x, y] (as ++ (bs ++ [])) := .cons (PySem.W.reads_keeps keep0 ra) (.cons (PySem.W.reads_keeps keep0 rb) .nil)
  have hT : (s.heap.push { cls := .type "tuple", data := .seq #[a, b] }).IsTuple s.heap.objs.size #[a, b] := ⟨_, Heap.get?_push_size _ rfl, rfl, 0, rfl⟩
  refine call_function_tree F.kind_min F.plain_min F.entry_min (F.args_min2 _ _) ?_
  have bp : Builtin.Builtins.bindParams "min" ["key", "default"] 0 ⟨[], []⟩ = pure [none, none] := rfl
  show wpAny _ A.in1 (Builtin.Builtins.bindParams "min" ["key", "default"] 0 ⟨[], []⟩ >>= _) _ _ s
  refine wpAny_bind (wpAny_of_eq bp ?_)
  show wpAny _ A.in1 (newTuple [a, b] >>= _) _ _ s
  refine wpAny_bind (wpAny_newObj_type ?_)
  refine wpAny_bind (PySem.W.iter_tupleW (A := A.in1) (s := { s with heap := s.heap.push { cls := .type "tuple", data := .seq #[a, b] } }) hh hT fun s2 e W st hfp hw hk => ?_)
  refine wpAny_bind (wpAny_newObj_type ?_)
  have nf : s2.heap.objs.size ∉ [(s.heap.push { cls := .type "tuple", data := .seq #[a, b] }).objs.size, s.heap.objs.size] := fun z => Nat.lt_irrefl _ (hfp _ z)
  have cmp := PySem.W.cmpIn_lt (prog := prog) (w := w) (A := A.in1) (s := { s with heap := s.heap.push { cls := .type "tuple", data := .seq #[a, b] } }) hr al (by show A.units + 1 + _ < _; exact hu)
  rw [nm]
  refine wpAny_pure ⟨plainId_quiet F.plain_min_loop _, codeAny_min_loop_firstH W _ hw _ cmp s2.heap.objs.size nf (fresh_in hk) _ (Nat.zero_lt_succ _) (fun c o z => Heap.get?_push_of_some _ (hk c o z)) (W.frame 0 s2 _ s2.toks st (Nat.le_refl _) fun c _ o z => Heap.get?_push_of_some _ z) (Heap.get?_push_size _ rfl) fun v s' hP hm => ?_⟩
  obtain ⟨h', tk, rfl, k'⟩ := PySem.W.moved_old e rfl (Moved.drop_new (tk := s2.toks) hm (Nat.le_refl _))
  have hv : v = if PySem.W.dataLt y x = true then b else a := by
    have z : (#[a, b] : Array Value)[argBest (fun i j => PySem.W.dataLt ([x, y].getD i .none) ([x, y].getD j .none)) 1]? = some v := hP
    have q : argBest (fun i j => PySem.W.dataLt ([x, y].getD i .none) ([x, y].getD j .none)) 1 = if PySem.W.dataLt y x = true then 1 else 0 := rfl
    rw [q] at z
    split at z <;> rename_i c
    · rw [if_pos c]
      exact (Option.some.inj z).symm
    · rw [if_neg c]
      exact (Option.some.inj z).symm
  rw [hv]
  exact h h' tk fun c o z => k' c o (keep0 c o z)
end
/-- the greater (isMax) or the less of two; the first of equal ones -/
def pairD (isMax : Bool) (d e : PyData) : PyData := if (if isMax = true then PySem.W.dataLt d e else PySem.W.dataLt e d) = true then e else d
def okPair (d e : PyData) : Bool := PySem.W.alike d e && PySem.W.alike e d && PySem.W.alike d d && PySem.W.alike e e && okD d && okD e && notNone d && notNone e
def pairT (isMax : Bool) : List T → Option T
  | [.dat d, .dat e] => if okPair d e then some (.dat (pairD isMax d e)) else none
  | _ => none
def evB2D (isMax : Bool) (evs : Envt → R (List T)) : Ev := fun env => (evs env).bind fun ts env' => R.lift (pairT isMax ts) env'
section
variable {X : Cx} {W : WX} {p : Bool} {e a b : Expr} {evs : Envt → R (List T)}
def rPair (K : PySem.W.Frag) (m : Bool) : List V → Hp → VK → Prop := fun xs H Q => ∃ (G : Hp) (x y : V) (d e : PyData), xs = [x, y] ∧ Same G H ∧ Dq K G x d ∧ Dq K G y e ∧ okPair d e = true ∧ Q (if (if m = true then PySem.W.dataLt d e else PySem.W.dataLt e d) = true then y else x) H
theorem pair_facts {d e : PyData} {A : Around} (hu : A.units + 64 < cLine) (h : okPair d e = true) : PySem.W.AlikeAll [d, e] ∧ A.units + 1 + PyData.depthAll [d, e] < cLine := by
  unfold okPair at h
  simp only [Bool.and_eq_true] at h
  obtain ⟨⟨⟨⟨⟨⟨⟨h1, h2⟩, h3⟩, h4⟩, h5⟩, h6⟩, h7⟩, h8⟩ := h
  have nn : ∀ z : PyData, notNone z = true → z ≠ .none := fun z hz c => by rw [c] at hz; cases hz
  refine ⟨⟨fun x hx y hy => ?_, fun x hx => ?_⟩, ?_⟩
  · simp only [List.mem_cons, List.not_mem_nil, or_false] at hx hy
    rcases hx with rfl | rfl <;> rcases hy with rfl | rfl <;> assumption
  · simp only [List.mem_cons, List.not_mem_nil, or_false] at hx
    rcases hx with rfl | rfl
    · exact nn _ h7
    · exact nn _ h8
  · unfold okD at h5 h6
    simp only [Bool.and_eq_true, decide_eq_true_eq] at h5 h6
    have : PyData.depthAll [d, e] ≤ 40 := by
      simp only [PyData.depthAll]
      omega
    omega
theorem cr_max2D (hc : X.calm = true) (hu : X.A.units + 64 < cLine) : CallR X (.builtin "max") (rPair X.K true) := by
  intro pins s σ H xs us Q I r h
  obtain ⟨G, x, y, d, e, rfl, sg, h1, h2, ok, q⟩ := h
  obtain ⟨u, v, rfl, ru, rv⟩ := vals2 r
  obtain ⟨as, ra⟩ := vw_reads I sg (.dat h1) rfl ru
  obtain ⟨bs, rb⟩ := vw_reads I sg (.dat h2) rfl rv
  obtain ⟨al, dp⟩ := pair_facts hu ok
  refine max_pair (I.ok.hd hc) ra rb al dp fun h' tk k => ⟨_, H, I.kept k, ?_, q⟩
  simp only [if_true]
  split
  · exact rv
  · exact ru
theorem cr_min2D (hc : X.calm = true) (hu : X.A.units + 64 < cLine) : CallR X (.builtin "min") (rPair X.K false) := by
  intro pins s σ H xs us Q I r h
  obtain ⟨G, x, y, d, e, rfl, sg, h1, h2, ok, q⟩ := h
  obtain ⟨u, v, rfl, ru, rv⟩ := vals2 r
  obtain ⟨as, ra⟩ := vw_reads I sg (.dat h1) rfl ru
  obtain ⟨bs, rb⟩ := vw_reads I sg (.dat h2) rfl rv
  obtain ⟨al, dp⟩ := pair_facts hu ok
  refine min_pair (I.ok.hd hc) ra rb al dp fun h' tk k => ⟨_, H, I.kept k, ?_, q⟩
  simp only [Bool.false_eq_true, if_false]
  split
  · exact rv
  · exact ru
theorem de_pair {m : Bool} {id : String} {x : Str} {p0 pos : Pos} (hc : CallR X (.builtin id) (rPair X.K m)) (hg : Gl X x) (hm : X.mg x = none) (hv : bootBuiltins x = some (.builtin id)) (hn : x ≠ "__name__") (hdb : (x == ("__debug__" : Str)) = false) (ha : noStar a = true) (hb : noStar b = true) (h : DA X W p [a, b] evs) :
    DE X W p (.Call (.Name x p0) [a, b] [] pos) (evB2D m evs) := by
  obtain ⟨t, h1, h2⟩ := h
  have hst : starEach [b] X.env = [(false, eval b X.env)] := star_cons hb
  have hst2 : starEach [a, b] X.env = (false, eval a X.env) :: starEach [b] X.env := star_cons ha
  refine ⟨_, pe_callB hc hg hm hv h1 hn hdb hst2 (by rw [hst]; rfl), fun G H σ env ω Q r g => h2 G H σ env ω _ r ?_⟩
  unfold evB2D at g
  cases q : evs env with
  | ok ts env' =>
    rw [q] at g
    intro vs G1 H1 ω1 τ s1 r1 l1 d1 n1 k1
    simp only [R.bind, R.lift] at g
    split at g
    · rename_i y hy
      unfold pairT at hy
      split at hy
      · rename_i d e
        split at hy
        · rename_i ok
          cases hy
          obtain ⟨v1, v2, rfl⟩ : ∃ v1 v2, vs = [v1, v2] := by
            match vs, l1.len with
            | [v1, v2], _ => exact ⟨v1, v2, rfl⟩
          have o1 := l1.own 0 v1 _ rfl rfl
          have o2 := l1.own 1 v2 _ rfl rfl
          cases o1 with
          | dat hd _ =>
            cases o2 with
            | dat hd2 _ =>
              refine ⟨G1, v1, v2, d, e, rfl, r1.sub, hd, hd2, ok, good_dat g s1 r1 (fun b hb => n1 b (.inl hb)) k1 ?_⟩
              unfold pairD
              by_cases c : (if m = true then PySem.W.dataLt d e else PySem.W.dataLt e d) = true
              · rw [if_pos c, if_pos c]
                exact hd2
              · rw [if_neg c, if_neg c]
                exact hd
        · cases hy
      · cases hy
    · exact g.elim
  | exc c env' =>
    rw [q] at g
    exact g
  | fail =>
    rw [q] at g
    exact g
end
section
variable {X : Cx} {W : WX} {p : Bool} {k : Nat} {N : List Str} {sc : Scope} {a b : Expr} {evs : Envt → R (List T)} {p0 pos : Pos}
theorem EOk.maxD (c : EOk X W k N sc) (hb : X.mg "max" = none) (g : cGl sc "max" = true) (h : DA X W p [a, b] evs) (ha : noStar a = true) (hs : noStar b = true) : DE X W p (.Call (.Name "max" p0) [a, b] [] pos) (evB2D true evs) := de_pair (cr_max2D c.calm c.u) (c.gl g) hb rfl (cGl_name g).1 (cGl_name g).2 ha hs h
theorem EOk.minD (c : EOk X W k N sc) (hb : X.mg "min" = none) (g : cGl sc "min" = true) (h : DA X W p [a, b] evs) (ha : noStar a = true) (hs : noStar b = true) : DE X W p (.Call (.Name "min" p0) [a, b] [] pos) (evB2D false evs) := de_pair (cr_min2D c.calm c.u) (c.gl g) hb rfl (cGl_name g).1 (cGl_name g).2 ha hs h
end
end VR

/-! VU4: (a, b) = a comprehension. -/
namespace VR
open PySem PySem.Spec PyProof.Rows L2
section
variable {X : Cx} {W : WX} {k nk : Nat} {N : List Str} {sc : Scope} {p : Bool} {e : Expr} {ev : Ev} {pos : Pos}
theorem SOk.unpS (c : SOk X W k N sc) {tg : Expr} {t : Tg} (hg : DG X tg t) (hk : ∀ i ∈ t.slots, nk ≤ i) (hs : swapsWith e (some tg) pos.line (scEnv sc) = pure false) (ht : noTT [tg] e = true) (h1 : (assignEach [tg] X.env).map (·.2) = [assign tg X.env]) (h : DE X W p e ev) : DS X W nk (.Assign [tg] e pos) (evUnp t ev) :=
  ds_unp h hg hk fun te g h2 h3 => ps_asg h2 h3 (by show swapsWith e (some tg) pos.line X.env = pure false; rw [swaps_env, c.sc]; exact hs) (stores_no ht) h1
end
end VR

/-! VU5: int of a truth value; a def that calls itself (so many calls deep). -/
namespace VR
open PySem PySem.Spec PyProof.Rows L2
def intT : T → Option T
  | .dat (.bool b) => some (.dat (.int (if b then 1 else 0)))
  | .dat (.int i) => some (.dat (.int i))
  | _ => none
section
variable {X : Cx}
theorem cr_int1 : CallR X (.type "int") (r1 X.K intT) := by
  intro pins s σ H xs us Q I r h
  obtain ⟨G, x, t, r', rfl, sg, h1, e, k⟩ := h
  unfold intT at e
  split at e
  · rename_i b
    cases e
    cases h1 with
    | dat hd =>
      cases hd
      exact call_int1 pins s σ H _ us Q I r (.inr ⟨b, rfl, k _ _ _ (.of_dat sg (.int _))⟩)
  · rename_i i
    cases e
    cases h1 with
    | dat hd =>
      cases hd
      exact call_int1 pins s σ H _ us Q I r (.inl ⟨i, rfl, k _ _ _ (.of_dat sg (.int _))⟩)
  · cases e
end
section
variable {X : Cx} {W : WX} {p : Bool} {k : Nat} {N : List Str} {sc : Scope} {a : Expr} {ea : Ev} {p0 pos : Pos}
theorem EOk.int (c : EOk X W k N sc) (b : X.mg "int" = none) (g : cGl sc "int" = true) (h : DP X W p a ea) (hs : noStar a = true) : DE X W p (.Call (.Name "int" p0) [a] [] pos) (evB1 intT ea) := de_t1 cr_int1 (c.gl g) b rfl (cGl_name g).1 (cGl_name g).2 hs h
end
section
variable {P : Program} {w : World} {K : PySem.W.Frag} {mg : Str → Option Value} {base : Heap} {f : Addr} {fd : FuncData} {x qual : Str} {params : Arguments} {body : List Stmt} {scope : Scope}
/-- a def of which nothing is promised -/
theorem fn_none {ps : List Str} {k : Nat} (F : FunD K x qual params body scope [] [] f fd) (hx : mg x = some (.ref f))
    (hb : ∀ (kV doc pm : Value) (an : Option Addr) (cdv ct : Value) (us : List Value), us.length = ps.length → bindArgs (PySem.W.fnOf x qual params body scope .none kV doc pm an cdv ct) ⟨us, []⟩ = pure (ps.zip us)) : FnH P w K mg base k x ps (fun _ => .fail) :=
  ⟨f, fd, ⟨fun vs H Q E ⟨G, ts, τ, s, l, g⟩ => g.elim, fun A outer s H args us vs Q E hr he hb2 hv ⟨G, ts, τ, sg, l, g⟩ => g.elim⟩, hx, F.kp, F.bindsN hb⟩
end
end VR

/-! VU6: a tuple times a number, 1 with it. -/
namespace VR
open PySem PySem.Spec PyProof.Rows L2
theorem tuple_once (l : Addr) (items : Array Value) (n : Nat) (dd : Option Addr) (sl : Array (Option Value)) (u : Tok) :
    Meets (Builtin.«tuple.__mul__» ⟨[.ref l, .int 1 u], []⟩) (fun _ R s => s.heap.get? l = some { cls := .type "tuple", dict := dd, data := .seq items n, slots := sl } ∧ R (.ok (.ret (Value.ref l))) s) :=
  .of_wp fun prog w A R s h => by
    obtain ⟨hp, g, d, tk, os⟩ := s
    obtain ⟨hl, h⟩ := h
    have f1 := AutoSeq1.idx_int
    wp_walk using wpAny_loadPart' hl
    exact ⟨_, rfl, h⟩
section
variable {X : Cx}
theorem op_onceT : OpR X (binaryOp .Mult) (fun x y H Q => ∃ l xs, x = .ref l ∧ y = .int 1 ∧ SqT X.K H l xs ∧ Q (.ref l) H) := by
  intro pins s σ H x y v u Q I rx ry h
  obtain ⟨l, xs, rfl, rfl, hT, q⟩ := h
  cases rx
  obtain ⟨t, rfl⟩ := ry
  obtain ⟨its, r, ⟨⟨cls, dd, data, sl⟩, ho, hc, n, hd⟩, hs⟩ := I.tuple hT
  simp only at hc hd
  subst hc hd
  refine wpAny_binaryOp_repeat_ref (T := "tuple") (U := "int") (by decide) ⟨_, ho, rfl⟩ (fun s' => typeIs_int s' 1 t) noFill_tuple_mul F.fills_int_mul F.slot_int_rmul repeat_tuple F.slot_int_index.lookup
    (call_meets F.slot_int_rmul (typeIs_int s 1 t) F.entry_int_rmul (F.args_int_rmul_2 _ _) (int_rmul_tuple 1 t l its.toArray n dd sl)
      ⟨ho, rfl, ⟨_, ho, rfl⟩, call_meets F.slot_tuple_mul ⟨_, ho, rfl⟩ F.entry_tuple_mul (F.args_tuple_mul_2 _ _) (tuple_once l its.toArray n dd sl t) ⟨ho, ?_⟩⟩)
  exact ⟨.ref l, H, I, rfl, q⟩
def repT (t u : T) : Option T := match t, u with
  | .dat (.tuple xs), .dat (.int k) => if k = 1 then some (.dat (.tuple xs)) else mulT (.dat (.tuple xs)) (.dat (.int k))
  | t, u => mulT t u
theorem opr_rep : OpR X (binaryOp .Mult) (rB X.K repT) := by
  intro pins s σ H x y v u Q I rx ry h
  obtain ⟨G, t, u', r, sg, h1, h2, e, k⟩ := h
  unfold repT at e
  split at e
  · split at e
    · rename_i hz
      subst hz
      cases e
      cases dq_int (vw_dat h2)
      have hd := vw_dat h1
      cases hd with
      | tup q1 q2 => exact op_onceT pins s σ H _ _ v u Q I rx ry ⟨_, _, rfl, rfl, SqT.of (sg _ _ q1), k _ _ _ (.of_dat sg (.tup q1 q2))⟩
    · exact opr_mul pins s σ H _ _ v u Q I rx ry ⟨G, _, _, r, sg, h1, h2, e, k⟩
  · exact opr_mul pins s σ H _ _ v u Q I rx ry ⟨G, _, _, r, sg, h1, h2, e, k⟩
def evRep (e2 : Envt → R (T × T)) : Ev := fun env => (e2 env).bind fun tu env' => R.lift (repT tu.1 tu.2) env'
theorem de_rep {W : WX} {p : Bool} {a b : Expr} {pos : Pos} {e2 : Envt → R (T × T)} (h : D2 X W p a b e2) : DE X W p (.BinOp a .Mult b pos) (evRep e2) := by
  obtain ⟨ta, tb, a1, b1, k⟩ := h
  refine ⟨_, pe_op opr_rep a1 b1, fun G H σ env ω Q r g => ?_⟩
  refine k G H σ env ω (fun x y H2 => rB X.K repT x y H2 Q) r ?_
  unfold evRep at g
  cases q : e2 env with
  | ok tu env' =>
    rw [q] at g
    intro x y G' H' ω' s1 r1 o1 o2 n1 k1
    simp only [R.bind, R.lift] at g
    cases q2 : repT tu.1 tu.2 with
    | none =>
      rw [q2] at g
      exact g.elim
    | some rr =>
      rw [q2] at g
      exact ⟨G', _, _, rr, r1.sub, o1, o2, q2, fun v G2 H2 nt => good_new g s1 r1 n1 k1 nt⟩
  | exc c env' =>
    rw [q] at g
    exact g
  | fail =>
    rw [q] at g
    exact g
end
end VR

/-! VU7: a dict frozen, and walked; list.count, list.index. -/
namespace VR
open PySem PySem.Spec PyProof.Rows L2
def iLockP (w : TI) : TI := fun σ H R => ∃ d u, H d = some u ∧ Mut (some u) ∧ ∀ od, w σ (upd H d (.frz od u)) R
theorem pi_lockP {X : Cx} {tg e : Expr} {w : TI} (h : PI X tg e w) : PI X tg e (iLockP w) := by
  refine ⟨fun pins s σ H R I hw => ?_⟩
  obtain ⟨d, u, hd, mu, hw⟩ := hw
  obtain ⟨od, I1⟩ := I.lock hd mu
  exact h.run pins s σ _ _ I1 (hw od)
def keysL : List DK → Option (List Key)
  | [] => some []
  | .inl k :: l => (keysL l).map (k :: ·)
  | .inr _ :: _ => none
theorem keysL_eq : ∀ {ks : List DK} {l : List Key}, keysL ks = some l → ks = l.map fun k => (Sum.inl k : DK)
  | [], l, h => by cases h; rfl
  | .inl k :: ks, l, h => by
    simp only [keysL, Option.map_eq_some_iff] at h
    obtain ⟨r, h1, rfl⟩ := h
    rw [keysL_eq h1]
    rfl
  | .inr _ :: _, l, h => by cases h
def evKeys (i : Nat) : Envt → R Src := fun env => match env[i]? with
  | some (some (.node (.dct ks false false) ts)) => (match keysL ks, frzAll ts with
    | some l, some ds => .ok (.fix (l.map keyD)) (env.set i (some (.fdc l ds)))
    | _, _ => .fail)
  | some (some (.fdc l ds)) => .ok (.fix (l.map keyD)) env
  | _ => .fail
theorem src_keys {K : PySem.W.Frag} {G : Hp} {a : Addr} {o : Obj} {kvs : List (Key × V)} (h : G a = some (.frz o (.dK kvs))) : ∀ G2 H2, Same G G2 → Same G2 H2 → SrcOk K G2 H2 (Itk a o kvs) ((kvs.map (·.1)).map keyD) := by
  intro G2 H2 e1 e2
  have hH := e2 _ _ (e1 _ _ h)
  refine ⟨fun i d hi => ?_, fun i hi => ⟨hH, by simpa using hi⟩⟩
  rw [List.getElem?_map, List.getElem?_map, Option.map_eq_some_iff] at hi
  obtain ⟨k, hk, rfl⟩ := hi
  rw [Option.map_eq_some_iff] at hk
  obtain ⟨q, hq, rfl⟩ := hk
  refine ⟨⟨hH, (List.getElem?_eq_some_iff.mp hq).1⟩, fun x H' y => ?_⟩
  obtain ⟨rfl, k, v, hkv, rfl⟩ := y
  rw [hq] at hkv
  cases hkv
  exact ⟨G2, .of_dat e2 (dq_kV _)⟩
open Classical in
theorem Rep.lockD {K : PySem.W.Frag} {G H : Hp} {σ : L2.St} {env : Envt} {ω : Own3} (r : Rep K G H σ env ω) {i : Nat} {l : List Key} {ts : List T} {ds : List PyData} (ht : env[i]? = some (some (.node (.dct (l.map fun k => (Sum.inl k : DK)) false false) ts))) (hd : frzAll ts = some ds) :
    ∃ a kvs, σ[i]? = some (some (.ref a)) ∧ H a = some (.dK kvs) ∧ kvs.map (·.1) = l ∧ ∀ od, ∃ G' ω', Step G H (dom ω) G' (upd H a (.frz od (.dK kvs))) ∧ Rep K G' (upd H a (.frz od (.dK kvs))) σ (env.set i (some (.fdc l ds))) ω' ∧ (∀ b, dom ω' b → dom ω b) ∧ G' a = some (.frz od (.dK kvs)) := by
  obtain ⟨v, hv, o⟩ := r.own i _ ht
  have hi : i < env.length := (List.getElem?_eq_some_iff.mp ht).1
  obtain ⟨a, rfl⟩ : ∃ a, v = .ref a := by
    cases o with
    | node n _ _ _ _ _ => exact ⟨_, rfl⟩
  obtain ⟨vs, A, τ, n, gA, lo, nA, sS⟩ := own_kids o
  obtain ⟨nd, q, hA⟩ := n
  rcases q with ⟨_, kvs, e1, e2, cell⟩ | ⟨z, _⟩
  rotate_left
  · cases z
  have hHa : H a = some (.dK kvs) := cell
  have hk : kvs.map (·.1) = l := by
    have inj : ∀ (xs ys : List Key), xs.map (fun k => (Sum.inl k : DK)) = ys.map (fun k => (Sum.inl k : DK)) → xs = ys := by
      intro xs
      induction xs with
      | nil => intro ys h; cases ys with
        | nil => rfl
        | cons _ _ => cases h
      | cons x xs ih => intro ys h; cases ys with
        | nil => cases h
        | cons y ys =>
          rw [List.map_cons, List.map_cons] at h
          injection h with h1 h2
          rw [Sum.inl.inj h1, ih ys h2]
    refine inj _ _ ?_
    rw [List.map_map]
    exact e1
  have nd' : l.Nodup := by
    have q := nd
    rw [List.Nodup, List.pairwise_map] at q
    exact q.imp fun h z => h (by rw [z])
  refine ⟨a, kvs, hv, hHa, hk, fun od => ?_⟩
  have ha : ω a = some i := (sS a).mpr (.inl ((hA a).mpr rfl))
  have hne : ∀ b, b ≠ a → upd H a (.frz od (.dK kvs)) b = H b := fun b hb => upd_ne hb
  have hGa : G a = none := gA a ((hA a).mpr rfl)
  have gs : Same G (fun b => if ω b = some i then upd H a (.frz od (.dK kvs)) b else G b) := fun b o' e => by
    show (if ω b = some i then upd H a (.frz od (.dK kvs)) b else G b) = some o'
    split
    · rename_i z
      rw [(r.there ⟨i, z⟩).2] at e
      cases e
    · exact e
  have sub : Same (fun b => if ω b = some i then upd H a (.frz od (.dK kvs)) b else G b) (upd H a (.frz od (.dK kvs))) := fun b o' e => by
    have e' : (if ω b = some i then upd H a (.frz od (.dK kvs)) b else G b) = some o' := e
    split at e'
    · exact e'
    · rename_i z
      have hb : b ≠ a := fun y => z (y ▸ ha)
      rw [hne b hb]
      exact r.sub b o' e'
  have Ga : (fun b => if ω b = some i then upd H a (.frz od (.dK kvs)) b else G b) a = some (.frz od (.dK kvs)) := by
    show (if ω a = some i then upd H a (.frz od (.dK kvs)) a else G a) = _
    rw [if_pos ha, upd_same]
  have hdq : DqAll K (fun b => if ω b = some i then upd H a (.frz od (.dK kvs)) b else G b) (kvs.map (·.2)) ds := by
    obtain ⟨z1, z2⟩ := frzAll_at hd
    rw [e2]
    refine dpAll_of (lo.len.trans z1) fun j v d hv' hd' => ?_
    obtain ⟨t, y1, y2⟩ := z2 j d hd'
    have oj := lo.own j v t hv' y1
    refine oj.read gs d y2 fun b hb => ?_
    have hb' : τ b = some j := hb
    have hω : ω b = some i := (sS b).mpr (.inr ⟨j, hb'⟩)
    have hb2 : b ≠ a := fun y => by
      rw [y, nA a ((hA a).mpr rfl)] at hb'
      cases hb'
    show (if ω b = some i then upd H a (.frz od (.dK kvs)) b else G b) = H b
    rw [if_pos hω, hne b hb2]
  refine ⟨fun b => if ω b = some i then upd H a (.frz od (.dK kvs)) b else G b, fun b => if ω b = some i then none else ω b, ⟨gs, fun b o' nd2 hb => ?_⟩, ⟨sub, fun j t' hj => ?_, fun b j hb => ?_, by rw [List.length_set]; exact r.len⟩, fun b ⟨j, hj⟩ => ?_, Ga⟩
  · have z : ¬ ω b = some i := fun z => nd2 ⟨i, z⟩
    refine ⟨by rw [hne b (fun y => z (y ▸ ha))]; exact hb, fun hg => ?_⟩
    show (if ω b = some i then upd H a (.frz od (.dK kvs)) b else G b) = none
    rw [if_neg z]
    exact hg
  · by_cases hij : j = i
    · subst hij
      rw [List.getElem?_set_self hi] at hj
      cases hj
      refine ⟨_, hv, .fdc Ga hk nd' hdq fun b hb => ?_⟩
      have hb' : (if ω b = some j then none else ω b) = some j := hb
      split at hb'
      · cases hb'
      · rename_i z
        exact z hb'
    · rw [List.getElem?_set_ne (Ne.symm hij)] at hj
      obtain ⟨v', hv', o'⟩ := r.own j t' hj
      refine ⟨v', hv', (o'.step gs fun b hb => ⟨?_, ?_⟩).congr fun b => ?_⟩
      · have z : ¬ ω b = some i := fun z => hij (Option.some.inj (hb.symm.trans z))
        exact hne b fun y => z (y ▸ ha)
      · show (if ω b = some i then upd H a (.frz od (.dK kvs)) b else G b) = none
        rw [if_neg (fun z => hij (Option.some.inj (hb.symm.trans z)))]
        exact (o'.there b hb).2
      · show (if ω b = some i then none else ω b) = some j ↔ ω b = some j
        split
        · rename_i z
          rw [z]
          exact ⟨fun q => (by cases q), fun q => absurd (Option.some.inj q).symm hij⟩
        · exact Iff.rfl
  · have hb' : (if ω b = some i then none else ω b) = some j := hb
    split at hb'
    · cases hb'
    · rename_i z
      have hj : j ≠ i := fun q => z (q ▸ hb')
      obtain ⟨t', ht'⟩ := r.emp b j hb'
      exact ⟨t', by rw [List.getElem?_set_ne (Ne.symm hj)]; exact ht'⟩
  · have hj' : (if ω b = some i then none else ω b) = some j := hj
    split at hj'
    · cases hj'
    · exact ⟨j, hj'⟩
section
variable {X : Cx} {W : WX} {p : Bool} {tg e a b o : Expr} {ev ea : Ev} {pos apos cpos p0 : Pos} {k : Nat} {N : List Str} {sc : Scope}
/-- for k in d -/
theorem di_keys {i : Nat} (h : PE X e (tVar i)) : DI X W false tg e (evKeys i) := by
  refine ⟨_, pi_or2 (pi_lockP (pi_keys h)) (pi_keys h), fun G H σ env ω Q r g => ?_⟩
  unfold evKeys at g
  split at g
  · rename_i ks ts ht
    split at g
    · rename_i l ds h1 h2
      have ek := keysL_eq h1
      subst ek
      obtain ⟨a, kvs, hv, hH, hk, rest⟩ := r.lockD ht h2
      refine .inl ⟨a, _, hH, trivial, fun od => ?_⟩
      obtain ⟨G', ω', s1, r1, sub, Ga⟩ := rest od
      refine ⟨_, hv, a, od, rfl, .inl ⟨kvs, upd_same, ?_⟩⟩
      refine g _ G' _ ω' s1 r1 ?_ (fun b hb => .inl (sub b hb)) (fun z => by cases z)
      rw [← hk]
      exact src_keys Ga
    · exact g.elim
  · rename_i l ds ht
    obtain ⟨v, hv, o⟩ := r.own i _ ht
    cases o with
    | @fdc a od kvs _ _ _ h hk nd hd z =>
      refine .inr ⟨_, hv, a, od, rfl, .inl ⟨kvs, r.sub _ _ h, ?_⟩⟩
      refine g _ G H ω .refl r ?_ .refl fun z => by cases z
      rw [← hk]
      exact src_keys h
  · exact g.elim
/-! l.count(x), l.index(x) -/
def cntT (t u : T) : Option T := match t.seq, u.frz with
  | some (false, ds), some d => if okD (.list ds) && okD d then some (.dat (.int ((ds.countP fun y => PyData.eqv y d : Nat) : Int))) else none
  | _, _ => none
def fndT (t u : T) : Option T := match t.seq, u.frz with
  | some (false, ds), some d => if okD (.list ds) && okD d then (PySem.SeqAt.dataPlace ds d).map (fun (j : Nat) => T.dat (.int (j : Int))) else none
  | _, _ => none
/-- a list's method of one value, by trees -/
def rM1 (K : PySem.W.Frag) (F : T → T → Option T) : V → List V → Hp → VK → Prop := fun x xs H Q => ∃ y, xs = [y] ∧ rB K F x y H Q
def evM1 (F : T → T → Option T) (i : Nat) (ea : Ev) : Ev := fun env => match env[i]? with
  | some (some t) => if (t.seq.map (·.1)) = some false then (ea env).bind fun u env' => R.lift (F t u) env' else .fail
  | _ => .fail
theorem de_m1 {i : Nat} {F : T → T → Option T} {name : Str} {id : String} (slot : Slot "list" name id) (hty : typeOf (.builtin id) = pure (.type "method_descriptor")) (hm : MtR X id (rM1 X.K F)) (ho : PE X o (tVar i)) (h : DP X W true a ea) (hs : noStar a = true) (hbase : attributeBase o name X.env (eval o X.env) = eval o X.env) (hline : (apos.endLine == cpos.line) = true) : DE X W true (.Call (.Attribute o name apos) [a] [] cpos) (evM1 F i ea) := by
  obtain ⟨t, h1, h2⟩ := h
  have hst : starEach [a] X.env = (false, eval a X.env) :: starEach [] X.env := star_cons hs
  refine ⟨_, pe_bm PySem.F.plainAttrs_list slot hty hm ho (pa_cons h1 pa_nil hst) hbase (by rw [hst]; rfl) hline hst rfl, fun G H σ env ω Q r g => ?_⟩
  unfold evM1 at g
  split at g
  · rename_i t0 ht
    split at g
    · rename_i hsq
      obtain ⟨v, hv, o1⟩ := r.own i _ ht
      obtain ⟨ds, hseq⟩ : ∃ ds, t0.seq = some (false, ds) := by
        cases q : t0.seq with
        | none => rw [q] at hsq; cases hsq
        | some w =>
          obtain ⟨b, ds⟩ := w
          rw [q] at hsq
          cases hsq
          exact ⟨ds, rfl⟩
      obtain ⟨a', vs, rfl, _, q2, _⟩ := vw_seq r.sub o1.vw hseq
      refine ⟨_, hv, .inl ⟨rfl, _, q2 rfl⟩, ?_⟩
      refine h2 G H σ env ω _ r ?_
      cases q : ea env with
      | exc c env1 =>
        rw [q] at g
        exact g
      | fail =>
        rw [q] at g
        exact g
      | ok u env1 =>
        rw [q] at g
        intro y G1 H1 ω1 s1 r1 o2 n1 k1
        simp only [R.bind, R.lift] at g
        cases q3 : F t0 u with
        | none =>
          rw [q3] at g
          exact g.elim
        | some rr =>
          rw [q3] at g
          exact ⟨y, rfl, G1, t0, u, rr, r1.sub, o1.vw.step s1.ext (k1 rfl), o2, q3, fun v G2 H2 nt => good_new g s1 r1 n1 k1 nt⟩
    · exact g.elim
  · exact g.elim
theorem mt_countT (hu : X.A.units + 64 < cLine) : MtR X "list.count" (rM1 X.K cntT) := by
  intro pins s σ H x xs v us Q I rx rxs h
  obtain ⟨y, rfl, G, t, u, rr, sg, h1, h2, e, k⟩ := h
  obtain ⟨uy, rfl, ry⟩ := rxs.one
  unfold cntT at e
  split at e
  · rename_i ds d e1 e2
    split at e
    · rename_i hk
      cases e
      rw [Bool.and_eq_true] at hk
      obtain ⟨a, vs, rfl, hd, q2, _⟩ := vw_seq sg h1 e1
      cases rx
      obtain ⟨its, rv, pl, _⟩ := I.list (q2 rfl)
      obtain ⟨as, ra⟩ := Dp.readsAll I ds vs its (dqAll_dp ds _ (dpAll_mono sg _ _ hd)) rv
      obtain ⟨bs, rb⟩ := vw_reads I sg h2 e2 ry
      obtain ⟨p1, p2⟩ := okD_list hk.1
      obtain ⟨p3, p4⟩ := okD_one hk.2
      refine PySem.SeqAt.count_list_data pl.isList ra rb p1 p3 (by have := Nat.min_le_left (PyData.depthAll ds) d.depth; omega) ?_
      exact ⟨.int _, H, I.tok _, ⟨_, rfl⟩, k _ _ _ (.of_dat sg (.int _))⟩
    · cases e
  · cases e
theorem EOk.cnt (c : EOk X W k N sc) {i : Nat} (ho : PE X o (tVar i)) (h : DP X W true a ea) (hs : noStar a = true) (hbase : attributeBase o "count" X.env (eval o X.env) = eval o X.env) (hline : (apos.endLine == cpos.line) = true) : DE X W true (.Call (.Attribute o "count" apos) [a] [] cpos) (evM1 cntT i ea) :=
  de_m1 PySem.F.slot_list_count PySem.F.type_list_count (mt_countT c.u) ho h hs hbase hline
end
end VR

/-! VX0: try: .. except C as e: kept = e, the error known behind it. -/
namespace VR
open PySem PySem.Spec PyProof.Rows L2
section
variable {X : Cx} {pins : List (Addr × Obj)} {σ : L2.St} {H : Hp} {s : Shared}
/-- an object that stands, and is newer than the call, tracked from now on -/
theorem inv_track {a : Addr} {oe : Obj} {φ : Heap → Prop} (I : Inv X pins σ H s) (hg : s.heap.get? a = some oe) (hd : ∀ v, oe.data ≠ .cell v) (hn : H a = none) (nL : a ≠ X.env.locals) (nP : ∀ p ∈ X.pn ++ pins, p.1 ≠ a) (n0 : X.s_0.heap.get? a = none)
    (hφ : φ s.heap) (st : ∀ h h' : Heap, φ h → (∀ u, h.get? a = some u → h'.get? a = some u) → φ h') : Inv X pins σ (upd H a (.ext φ)) s := by
  have new : ObjOk X.prog X.w (upd H a (.ext φ)) s.heap a (.ext φ) := ⟨hφ, ⟨oe, hg⟩, fun h h' q k => st h h' q k⟩
  have up : ∀ b o, H b = some o → upd H a (.ext φ) b = some o := fun b o e => by
    rw [upd_ne (ne_of_none e hn)]
    exact e
  refine { ok := I.ok, os := I.os, bare := I.bare, base := ?_, loc := I.loc, cell := I.cell, free := ?_, freeC := ?_, pin := ?_, hok := ?_, len := I.len }
  · refine { keep := I.base.keep, slot := I.base.slot, free := ?_, there := I.base.there, tups := ?_, frzs := ?_, tbls := ?_ }
    · intro b o q z x
      have nb : b ≠ a := fun y => by
        rw [y, n0] at q
        cases q
      rw [upd_ne nb]
      exact I.base.free b o q z x
    · exact fun b xs q => up _ _ (I.base.tups b xs q)
    · exact fun b o u q => up _ _ (I.base.frzs b o u q)
    · intro b ps q
      obtain ⟨more, z⟩ := I.base.tbls b ps q
      exact ⟨more, up _ _ z⟩
  · rw [upd_ne nL.symm]
    exact I.free
  · intro y c e
    have nc : c ≠ a := fun z => by
      obtain ⟨v, o', e', hc⟩ := I.cell y c e
      rw [z, hg] at e'
      cases e'
      exact hd v hc
    rw [upd_ne nc]
    exact I.freeC y c e
  · intro p hp
    obtain ⟨q1, q2, q3⟩ := I.pin p hp
    exact ⟨q1, by rw [upd_ne (nP p hp)]; exact q2, q3⟩
  · intro b u e
    by_cases hb : b = a
    · subst hb
      rw [upd_same] at e
      cases e
      exact new
    · rw [upd_ne hb] at e
      exact (I.hok b u e).stay (fun _ _ _ z => z) (fun c q => up _ _ q) fun c xs q => up _ _ q
end
/-! ### the try -/
/-- what the clause wishes of an error of the body: it is of the class, and known at the slots' value behind the suite -/
def wKept (K : PySem.W.Frag) (c : Value) (i ik : Nat) (D : Ends) : WX := fun cls d σ H =>
  d = none ∧ ∃ cn : Str, cls = .ref (He.ga K cn) ∧ PySem.W.exmOne K cls c = some true ∧ ∀ a, H a = none → D.nx (((σ.set i (some (.ref a))).set ik (some (.ref a))).set i none) (upd H a (ExO K cn a))
def afterTry (X : Cx) (hd : ExceptHandler) (pins : List (Addr × Obj)) (D : Ends) : Value → Shared → Prop := fun u t =>
  wpAny (model X.prog X.w) X.A (noteFrame u X.env) (fun _ t1 => wpAny (model X.prog X.w) X.A (setFlight u none) (fun _ t2 =>
    wpAny (model X.prog X.w) X.A (handleBy u X.env [hd]) (SP X pins D) X.xe t2) X.xe t1) X.xe t
section
variable {X : Cx} {pins : List (Addr × Obj)} {D : Ends} {x n kp : Str} {c : Value} {i ik : Nat} {np kpos npos apos hpos pos : Pos}
abbrev keepHd (x n kp : Str) (np kpos npos apos hpos : Pos) : ExceptHandler := .ExceptHandler (some (.Name x np)) (some n) [.Assign [.Name kp kpos] (.Name n npos) apos] hpos
theorem kept_caught (ok : X.Ok) (hs : X.stack = X.env :: X.outer) (hf : X.env.frame = some X.env.locals) (hx : X.ex = []) (hN : X.N.Nodup) (hi : X.N[i]? = some n) (hln : X.env.kindOf n = some .local) (hk : X.N[ik]? = some kp) (hlk : X.env.kindOf kp = some .local)
    (hg : Gl X x) (hdb : (x == ("__debug__" : Str)) = false) (hm : X.mg x = some c) (hnv : ∀ (a : Addr) (q : List (Addr × Obj)), PE (X.suite a q) (.Name n npos) (tVar i)) (hsw : ∀ (a : Addr) (q : List (Addr × Obj)), swapsWith (.Name n npos) (some (.Name kp kpos)) apos.line (X.suite a q).env = pure false)
    {xe : Value → Shared → Prop} (u : Value) (t : Shared) (xx : XE (X.tr (X.pn ++ pins) xe) (wKept X.K c i ik D) u t) : afterTry X (keepHd x n kp np kpos npos apos hpos) pins D u t := by
  obtain ⟨a, B, tI, pins1, σ1, H1, cls, d, rfl, J0, nb, up, sky, na, os, ag, rfl, cn, rfl, hmatch, hend⟩ := xx
  have J : Inv X pins σ1 H1 tI := J0.ofTry ok
  have hframes : X.A.frames = some (X.env :: X.outer) := by
    rw [ok.frames]
    exact congrArg some hs
  have sky1 : Sky B (X.env :: X.outer) a (Zc (.ref (He.ga X.K cn)) none) X.env.locals t.heap := by
    have q : Sky B X.stack a (Zc (.ref (He.ga X.K cn)) none) X.env.locals t.heap := sky
    rw [hs] at q
    exact q
  unfold afterTry
  refine Sky.land Zc.steady hframes hf sky1 fun g1 fl up1 => ?_
  obtain ⟨oe, vs, he, hz, hdt⟩ := fl.there
  have J1 : Inv X pins σ1 H1 { t with heap := g1 } := J.landed nb fl.1 (up.trans up1) os ag
  -- the error is no frame, and newer than all that stood
  have nfr : a ∉ frs (X.env :: X.outer) := fun hmem => by
    obtain ⟨_, o', e', hnf⟩ := fl.2.2.1.mem hmem
    rw [he] at e'
    cases e'
    exact hnf _ hdt
  have newI : tI.heap.get? a = none := by
    cases q : tI.heap.get? a with
    | none => rfl
    | some o =>
      have z := nb a o q (by
        show a ∉ frs X.stack
        rw [hs]
        exact nfr)
      rw [fl.2.1] at z
      cases z
  have nL : a ≠ X.env.locals := fun z => nfr (List.mem_filterMap.mpr ⟨X.env, List.mem_cons_self, by rw [hf, z]⟩)
  have nF : a ∉ X.fs := fun hmem => by
    obtain ⟨e0, he0, q⟩ := List.mem_filterMap.mp hmem
    exact nfr (List.mem_filterMap.mpr ⟨e0, List.mem_cons_of_mem _ he0, q⟩)
  have nP : ∀ p ∈ X.pn ++ pins, p.1 ≠ a := fun p hp z => by
    have q := (J.pin p hp).1
    rw [z, newI] at q
    cases q
  have n0 : X.s_0.heap.get? a = none := by
    cases q : X.s_0.heap.get? a with
    | none => rfl
    | some o =>
      obtain ⟨o', z⟩ := J.base.there a o q (by rw [hx]; simp)
      rw [newI] at z
      cases z
  have T1 := J1.suite he hdt na nL nF
  refine wpAny_handleBy_cons (codeAny_handlers_test ?_) (by intro q; cases q)
  have LT : PySem.W.Looks (model X.prog X.w) g1 (typeOf (.ref a)) (.ref (He.ga X.K cn)) := fun A Q E s' k q => wpAny_typeOf_ref (k _ _ he) (by rw [hz.1]; exact q)
  refine ld_glob (X := X.suite a ((a, oe) :: (X.pn ++ pins))) T1 hg hm ?_ hdb
  refine (PySem.W.exm_one (M := model X.prog X.w) J1.kIn LT hmatch).here ?_
  refine codeAny_handlers_suite_as (HandSPX.lands_againZ fl fun g2 fl2 up2 => ?_)
  obtain ⟨oe2, vs2, he2, hz2, hdt2⟩ := fl2.there
  have J2 : Inv X pins σ1 H1 { t with heap := g2 } := J.landed nb fl2.1 ((up.trans up1).trans up2) os ag
  have T2 := J2.suite he2 hdt2 na nL nF
  refine store_ok (X := X.suite a ((a, oe2) :: (X.pn ++ pins))) (v := .ref a) T2 hN hi (.inl hln) rfl (fun t5 T5 => ?_) (.inr hln)
  have run := (pss_cons (ps_set (X := X.suite a ((a, oe2) :: (X.pn ++ pins))) (pos := apos) (pos' := kpos) hN hk (.inl hlk) (hnv a _) (hsw a _) (.inr hlk)) pss_nil).run [] t5 _ H1
    { nx := fun σ6 H6 => H6 = H1 ∧ σ6 = (σ1.set i (some (.ref a))).set ik (some (.ref a)), rt := fun _ _ => False } T5 ⟨.ref a, by
      rw [List.getElem?_set_self]
      rw [J2.len]
      exact (List.getElem?_eq_some_iff.mp hi).1, ⟨rfl, rfl⟩⟩
  refine wpAny_mono run (fun f t6 q => ?_) (fun _ _ z => z.elim)
  cases f with
  | next =>
    obtain ⟨σ6, H6, T6, rfl, rfl⟩ := q
    obtain ⟨p1, _⟩ := T6.pin (a, oe2) (by simp)
    have J6 : Inv X pins _ H6 t6 := T6.unsuite ok
    have J7 := inv_track (φ := fun h => ∃ (oe : Obj) (vs : Array Value), h.get? a = some oe ∧ Zc (.ref (He.ga X.K cn)) none oe ∧ oe.data = .fields vs) J6 p1 (fun v z => by rw [hdt2] at z; cases z) na nL nP n0 ⟨oe2, vs2, p1, hz2, hdt2⟩ (fun h h' ⟨o, v, q1, q2⟩ k => ⟨o, v, k _ q1, q2⟩)
    exact gone_ok J7 hN hi hln fun t8 J8 => ⟨_, _, J8, hend a na⟩
  | brk => obtain ⟨_, _, _, z⟩ := q; exact z.elim
  | cont => obtain ⟨_, _, _, z⟩ := q; exact z.elim
  | ret v => obtain ⟨_, _, _, _, _, z⟩ := q; exact z.elim
end
end VR

/-! VX1: the try, by trees. -/
namespace VR
open PySem PySem.Spec PyProof.Rows L2
section
variable {X : Cx} {W : WX} {x n kp : Str} {c : Value} {i ik nk k : Nat} {N : List Str} {sc : Scope} {np kpos npos apos hpos pos : Pos} {body : List Stmt} {es : Es}
theorem ps_kept {tb : WX → TS} (hs : X.stack = X.env :: X.outer) (hf : X.env.frame = some X.env.locals) (hx : X.ex = []) (hN : X.N.Nodup) (hi : X.N[i]? = some n) (hln : X.env.kindOf n = some .local) (hk : X.N[ik]? = some kp) (hlk : X.env.kindOf kp = some .local)
    (hg : Gl X x) (hdb : (x == ("__debug__" : Str)) = false) (hm : X.mg x = some c) (hnv : ∀ (a : Addr) (q : List (Addr × Obj)), PE (X.suite a q) (.Name n npos) (tVar i)) (hsw : ∀ (a : Addr) (q : List (Addr × Obj)), swapsWith (.Name n npos) (some (.Name kp kpos)) apos.line (X.suite a q).env = pure false)
    (hb : ∀ (W' : WX) (pn : List (Addr × Obj)) (xe : Value → Shared → Prop), Takes (X.tr pn xe) W' → PassesOwn (model X.prog X.w) X.A X.env xe → PSs (X.tr pn xe) body (tb W')) :
    PS X (.Try body [keepHd x n kp np kpos npos apos hpos] [] [] pos) (fun D σ H => tb (wKept X.K c i ik D) D σ H) := by
  refine ⟨fun pins s σ H D I h => ?_⟩
  have pass : PassesOwn (model X.prog X.w) X.A X.env (afterTry X (keepHd x n kp np kpos npos apos hpos) pins D) := PassesOwn.looking
  have run := (hb (wKept X.K c i ik D) (X.pn ++ pins) (afterTry X (keepHd x n kp np kpos npos apos hpos) pins D) (fun u t xx => kept_caught I.ok hs hf hx hN hi hln hk hlk hg hdb hm hnv hsw u t xx) pass).run [] s σ H D (I.toTry _) h
  refine wpAny_Try_except (wpAny_mono run (fun f s1 q => ?_) fun _ _ z => z)
  cases f with
  | next =>
    obtain ⟨σ1, H1, J, z⟩ := q
    exact wpAny_execs_nil ⟨σ1, H1, J.ofTry I.ok, z⟩
  | brk =>
    obtain ⟨σ1, H1, J, z⟩ := q
    exact ⟨σ1, H1, J.ofTry I.ok, z⟩
  | cont =>
    obtain ⟨σ1, H1, J, z⟩ := q
    exact ⟨σ1, H1, J.ofTry I.ok, z⟩
  | ret u =>
    obtain ⟨v, σ1, H1, J, r, z⟩ := q
    exact ⟨v, σ1, H1, J.ofTry I.ok, r, z⟩
/-- the errors named cs are kept; others are not foreseen -/
def evTry (cs : List Str) (es : Es) (i ik : Nat) : Es := fun env => match es env with
  | .exc cn env' => if cn ∈ cs ∧ i < env'.length ∧ ik < env'.length then .next ((env'.set ik (some (.exc cn))).set i none) else .fail
  | r => r
theorem SOk.tr (o : SOk X W k N sc) {W' : WX} {pn : List (Addr × Obj)} {xe : Value → Shared → Prop} (tk : Takes (X.tr pn xe) W') (ps : PassesOwn (model X.prog X.w) X.A X.env xe) : SOk (X.tr pn xe) W' k N sc where
  u := o.u
  calm := o.calm
  tk := tk
  room := o.room
  hN := o.hN
  sc := o.sc
  nd := o.nd
  pass := ps
  fn := o.fn
  stk := o.stk
  frm := o.frm
  exs := o.exs
/-- what stands in a slot that holds nothing is of no matter -/
theorem rep_sig {K : PySem.W.Frag} {G H : Hp} {σ : L2.St} {env : Envt} {ω : Own3} (r : Rep K G H σ env ω) {j : Nat} (h : env[j]? = some none) (y : Option V) : Rep K G H (σ.set j y) env ω := by
  refine ⟨r.sub, fun m t ht => ?_, r.emp, by rw [List.length_set]; exact r.len⟩
  have ne : j ≠ m := fun z => by
    rw [← z, h] at ht
    cases ht
  rw [List.getElem?_set_ne ne]
  exact r.own m t ht
theorem rep_clear {K : PySem.W.Frag} {G H : Hp} {σ : L2.St} {env : Envt} {ω : Own3} (r : Rep K G H σ env ω) {j : Nat} (hj : j < env.length) : ∃ ω', Rep K G H σ (env.set j none) ω' ∧ ∀ b, dom ω' b → dom ω b := by
  cases q : env[j]? with
  | none =>
    rw [List.getElem?_eq_none_iff] at q
    omega
  | some w =>
    cases w with
    | none =>
      have e : env.set j none = env := by
        refine List.ext_getElem? fun m => ?_
        by_cases z : j = m
        · subst z
          rw [List.getElem?_set_self hj, q]
        · rw [List.getElem?_set_ne z]
      rw [e]
      exact ⟨ω, r, fun _ z => z⟩
    | some t =>
      obtain ⟨_, ω', _, r', _, _, sub⟩ := r.out q
      exact ⟨ω', r', sub⟩
def isL (sc : Scope) (y : Str) : Bool := match sc.names.lookup y with
  | some .local => true
  | _ => false
theorem isL_eq {y : Str} (h : isL sc y = true) : sc.names.lookup y = some .local := by
  unfold isL at h
  split at h
  · assumption
  · cases h
theorem SOk.try (o : SOk X W k N sc) (cs : List Str) (hb : ∀ (W' : WX) (pn : List (Addr × Obj)) (xe : Value → Shared → Prop), SOk (X.tr pn xe) W' k N sc → DSs (X.tr pn xe) W' nk body es) (li : cLoc N sc i n = true) (lk : cLoc N sc ik kp = true) (vi : cVar N sc i n = true)
    (si : isL sc n = true) (sk : isL sc kp = true) (hik : i ≠ ik) (ni : nk ≤ i) (nik : nk ≤ ik) (gx : X.mg x = some (.ref (He.ga X.K x))) (hg : cGl sc x = true) (hcs : ∀ cn ∈ cs, PySem.W.exmOne X.K (.ref (He.ga X.K cn)) (.ref (He.ga X.K x)) = some true) :
    DS X W nk (.Try body [keepHd x n kp np kpos npos apos hpos] [] [] pos) (evTry cs es i ik) := by
  have kn : ∀ {y : Str}, isL sc y = true → X.env.kindOf y = some .local := fun {y} h => by
    show X.env.scope.names.lookup y = some .local
    rw [o.sc]
    exact isL_eq h
  have vis : ∀ (a : Addr) (q : List (Addr × Obj)), PE (X.suite a q) (.Name n npos) (tVar i) := fun a q => by
    unfold cVar plainN at vi
    simp only [Bool.and_eq_true, decide_eq_true_eq, Bool.not_eq_true'] at vi
    exact pe_var (X := X.suite a q) (by show X.N[i]? = _; rw [o.hN]; exact vi.1) (.inl (kn si)) vi.2.2.1.1 vi.2.2.1.2
  refine ⟨_, ps_kept (tb := fun W' D σ H => ∃ G env ω, Rep X.K G H σ env ω ∧ GoodS X W' nk G H σ ω D (es env)) o.stk o.frm o.exs o.nd (o.loc li).1 (kn si) (o.loc lk).1 (kn sk) (o.gl hg) (cGl_name hg).2 gx vis (fun _ _ => swaps_no rfl) (fun W' pn xe tk ps => ?_), fun G H σ env ω D r g => ⟨G, env, ω, r, ?_⟩⟩
  · obtain ⟨t, h1, h2⟩ := hb W' pn xe (o.tr tk ps)
    exact ⟨fun pins s σ H D I ⟨G, env, ω, r, g⟩ => h1.run pins s σ H D I (h2 G H σ env ω D r g)⟩
  · unfold evTry at g
    cases q : es env with
    | next env' => rw [q] at g; exact g
    | brk env' => rw [q] at g; exact g
    | cnt env' => rw [q] at g; exact g
    | ret t env' => rw [q] at g; exact g
    | fail => rw [q] at g; exact g
    | exc cn env' =>
      rw [q] at g
      simp only at g
      split at g
      case isFalse => exact g.elim
      rename_i hc
      obtain ⟨hc, hl1, hl2⟩ := hc
      intro σ1 G1 H1 ω1 s1 r1 n1 k1
      refine ⟨rfl, cn, rfl, hcs cn hc, fun a ha => ?_⟩
      have hGa : G1 a = none := by
        cases z : G1 a with
        | none => rfl
        | some o' =>
          rw [r1.sub a o' z] at ha
          cases ha
      have hne : ∀ b o', H1 b = some o' → b ≠ a := fun b o' e z => by
        rw [z, ha] at e
        cases e
      have sG : Same G1 (upd G1 a (ExO X.K cn a)) := fun b o' e => by
        rw [upd_ne (fun z => by rw [z, hGa] at e; cases e)]
        exact e
      have sH : Same (upd G1 a (ExO X.K cn a)) (upd H1 a (ExO X.K cn a)) := fun b o' e => by
        by_cases z : b = a
        · subst z
          rw [upd_same] at e ⊢
          exact e
        · rw [upd_ne z] at e ⊢
          exact r1.sub b o' e
      have r2 : Rep X.K (upd G1 a (ExO X.K cn a)) (upd H1 a (ExO X.K cn a)) σ1 env' ω1 := r1.step sG sH fun b hb => by
        obtain ⟨⟨o', e⟩, gb⟩ := r1.there hb
        rw [upd_ne (hne b o' e), upd_ne (hne b o' e)]
        exact ⟨rfl, gb⟩
      obtain ⟨ω2, r3, sub3⟩ := rep_clear r2 hl1
      have r4 := rep_sig r3 (j := i) (by rw [List.getElem?_set_self hl1]) (some (.ref a))
      obtain ⟨ω4, r5, sub5⟩ := r4.put (i := ik) (v := .ref a) (t := .exc cn) (S := fun _ => False) (by rw [List.length_set]; exact hl2) (.exc (by rw [upd_same]) fun _ z => z) (fun _ z => z.elim)
      have r6 := rep_sig r5 (j := i) (by rw [List.getElem?_set_ne hik.symm, List.getElem?_set_self hl1]) none
      have ee : (env'.set i none).set ik (some (.exc cn)) = (env'.set ik (some (.exc cn))).set i none := List.set_comm _ _ hik
      rw [ee] at r6
      refine g _ _ _ _ ⟨fun b o' e => sG b o' (s1.ext b o' e), fun b o' nd hb => ?_⟩ r6 ?_ ?_
      · obtain ⟨z1, z2⟩ := s1.frm b o' nd hb
        refine ⟨by rw [upd_ne (hne b o' z1)]; exact z1, fun z => ?_⟩
        rw [upd_ne (hne b o' z1)]
        exact z2 z
      · exact fun b hb => n1 b (sub3 b ((sub5 b hb).elim (fun z => z.elim) id))
      · intro m hm
        rw [List.getElem?_set_ne (by omega), List.getElem?_set_ne (by omega), List.getElem?_set_ne (by omega)]
        exact k1 m hm
end
end VR

/-! VX2: isinstance of a kept error; list.index; a hook with facts of one's own. -/
namespace VR
open PySem PySem.Spec PyProof.Rows L2
/-- isinstance(x, c) of errors by their classes' names -/
def IsF (K : PySem.W.Frag) (cv : Value) (tbl : List (Str × Bool)) : Prop := ∀ q ∈ tbl, ExcC K (He.ga K q.1) ∧ PySem.W.kitOne K (.ref (He.ga K q.1)) cv = some q.2
def evIsE (tbl : List (Str × Bool)) (ea : Ev) : Ev := fun env => (ea env).bind fun t env' => match t with
  | .exc cn => R.lift ((tbl.lookup cn).map fun b => T.dat (.bool b)) env'
  | _ => .fail
def rIsK (K : PySem.W.Frag) : List V → Hp → VK → Prop := fun xs H Q => ∃ (a : Addr) (cn : Str) (cc : V) (cv : Value) (b : Bool), xs = [.ref a, cc] ∧ H a = some (ExO K cn a) ∧ (∀ u, RelV cc u → u = cv) ∧ ExcC K (He.ga K cn) ∧ PySem.W.kitOne K (.ref (He.ga K cn)) cv = some b ∧ Q (.bl b) H
section
variable {X : Cx} {W : WX} {p : Bool} {k : Nat} {N : List Str} {sc : Scope} {a o : Expr} {ea : Ev} {pos p0 p1 apos cpos : Pos}
theorem call_isK : CallR X (.builtin "isinstance") (rIsK X.K) := by
  intro pins s σ H xs us Q I r h
  obtain ⟨a, cn, cc, cv, b, rfl, hH, hcv, C, hkit, q⟩ := h
  cases r with
  | cons r1 r2 =>
    cases r2 with
    | cons r3 r4 =>
      cases r4
      cases r1
      cases hcv _ r3
      obtain ⟨⟨oe, vs, hget, hz, hdat⟩, _⟩ := I.hok a _ hH
      have at_ : PySem.W.InstAt s.heap a oe (He.ga X.K cn) none := by
        obtain ⟨oc, od, odt, osl⟩ := oe
        obtain ⟨z1, z2⟩ := hz
        simp only at z1 z2 hdat
        subst z1 z2 hdat
        exact ⟨hget, rfl, rfl, trivial⟩
      refine PySem.W.kia_one (PySem.W.handS_kitx_exc C.hg C.hk C.hs C.hd C.ha C.hn C.ht C.hm) I.kIn at_ hkit (fun z => nomatch z) fun t1 => ?_
      exact ⟨.bl b, H, I.kept (t' := t1) (fun _ _ z => z), rfl, q⟩
theorem lookup_mem {tbl : List (Str × Bool)} {cn : Str} {b : Bool} (h : tbl.lookup cn = some b) : (cn, b) ∈ tbl := by
  induction tbl with
  | nil => cases h
  | cons q l ih =>
    obtain ⟨x, y⟩ := q
    rw [List.lookup_cons] at h
    by_cases c : cn == x
    · simp only [c] at h
      cases h
      rw [eq_of_beq c]
      exact List.mem_cons_self
    · simp only [c] at h
      exact List.mem_cons_of_mem _ (ih h)
theorem isE_read {te : TE} {cc : V} {cv : Value} {tbl : List (Str × Bool)} (kk : ∀ G H σ env ω (Q : VK), Rep X.K G H σ env ω → GoodP X W p G H σ ω Q (ea env) → te σ H Q) (hcv : ∀ u, RelV cc u → u = cv) (F : IsF X.K cv tbl) {G H : Hp} {σ : L2.St} {env : Envt} {ω : Own3} {Q : VK} (r : Rep X.K G H σ env ω) (g : GoodE X W p G H σ ω Q (evIsE tbl ea env)) :
    tCB (rIsK X.K) (tCons te (tCons (tC cc) tNil)) σ H Q := by
  refine kk G H σ env ω _ r ?_
  unfold evIsE at g
  cases q : ea env with
  | exc c env' =>
    rw [q] at g
    exact g
  | fail =>
    rw [q] at g
    exact g
  | ok t env' =>
    rw [q] at g
    intro x G' H' ω' s1 r1 o1 n1 k1
    simp only [R.bind] at g
    cases o1 with
    | @exc aa cn hG =>
      simp only [R.lift] at g
      cases q2 : tbl.lookup cn with
      | none =>
        rw [q2] at g
        exact g.elim
      | some b =>
        rw [q2] at g
        obtain ⟨f1, f2⟩ := F _ (lookup_mem q2)
        refine ⟨aa, cn, cc, cv, b, rfl, r1.sub _ _ hG, hcv, f1, f2, ?_⟩
        exact good_dat (d := .bool b) g s1 r1 n1 k1 (.bl b)
    | dat _ => exact g.elim
    | fdc _ _ _ _ => exact g.elim
    | node _ _ _ => exact g.elim
/-- isinstance(x, C), C a class of the module's -/
theorem EOk.isE (c : EOk X W k N sc) {x : Str} (tbl : List (Str × Bool)) (b : X.mg "isinstance" = none) (g : cGl sc "isinstance" = true) (mx : X.mg x = some (.ref (He.ga X.K x))) (gx : cGl sc x = true) (F : IsF X.K (.ref (He.ga X.K x)) tbl) (h : DP X W p a ea) (hs : noStar a = true) :
    DE X W p (.Call (.Name "isinstance" p0) [a, .Name x p1] [] pos) (evIsE tbl ea) := by
  obtain ⟨t, h1, h2⟩ := h
  exact ⟨_, pe_callB call_isK (c.gl g) b rfl (pa_cons h1 (pa_cons (pe_glob (v := .ref (He.ga X.K x)) (c.gl gx) mx rfl (cGl_name gx).2) pa_nil rfl) (star_cons hs)) (by decide) (by decide) (star_cons hs) rfl, fun G H σ env ω Q r gg => isE_read (cc := .ref (He.ga X.K x)) (cv := .ref (He.ga X.K x)) h2 (fun u z => z) F r gg⟩
/-- isinstance(x, T), T a built-in class -/
theorem EOk.isET (c : EOk X W k N sc) {x : Str} {n : String} (tbl : List (Str × Bool)) (b : X.mg "isinstance" = none) (g : cGl sc "isinstance" = true) (mx : X.mg x = none) (gx : cGl sc x = true) (hv : bootBuiltins x = some (.type n)) (F : IsF X.K (.type n) tbl) (h : DP X W p a ea) (hs : noStar a = true) :
    DE X W p (.Call (.Name "isinstance" p0) [a, .Name x p1] [] pos) (evIsE tbl ea) := by
  obtain ⟨t, h1, h2⟩ := h
  exact ⟨_, pe_callB call_isK (c.gl g) b rfl (pa_cons h1 (pa_cons (pe_bltn (v := .ty n) (c.gl gx) mx hv rfl (cGl_name gx).1 (cGl_name gx).2) pa_nil rfl) (star_cons hs)) (by decide) (by decide) (star_cons hs) rfl, fun G H σ env ω Q r gg => isE_read (cc := .ty n) (cv := .type n) h2 (fun u z => z) F r gg⟩
/-! l.index(x) -/
theorem mt_findT (hu : X.A.units + 64 < cLine) : MtR X "list.index" (rM1 X.K fndT) := by
  intro pins s σ H x xs v us Q I rx rxs h
  obtain ⟨y, rfl, G, t, u, rr, sg, h1, h2, e, kk⟩ := h
  obtain ⟨uy, rfl, ry⟩ := rxs.one
  unfold fndT at e
  split at e
  · rename_i ds d e1 e2
    split at e
    · rename_i hk
      rw [Option.map_eq_some_iff] at e
      obtain ⟨j, hj, rfl⟩ := e
      rw [Bool.and_eq_true] at hk
      obtain ⟨a, vs, rfl, hd, q2, _⟩ := vw_seq sg h1 e1
      cases rx
      obtain ⟨its, rv, pl, hlen⟩ := I.list (q2 rfl)
      obtain ⟨as, ra⟩ := Dp.readsAll I ds vs its (dqAll_dp ds _ (dpAll_mono sg _ _ hd)) rv
      obtain ⟨bs, rb⟩ := vw_reads I sg h2 e2 ry
      obtain ⟨p1, p2⟩ := okD_list hk.1
      obtain ⟨p3, p4⟩ := okD_one hk.2
      have ra' : ReadsAll s.heap its.toArray.toList ds as := ra
      obtain ⟨hjs, hit, hno⟩ := PySem.SeqAt.hit_at ra' p1 hj
      have hl2 := rv.length
      have hsz := sizeLine_eq
      have hjl : j < its.length := by simpa using hjs
      have hin := PySem.SeqAt.items_plain (A := X.A) ra' rb p1 p3 (by
        have := Nat.min_le_left (PyData.depthAll ds) d.depth
        omega)
      obtain ⟨⟨cls, dd, data, sls⟩, nn, ho, hc, hdn, hdt⟩ := pl
      simp only at hc hdt
      subst hc hdt
      refine call_meets PySem.F.slot_list_index ⟨_, ho, rfl⟩ PySem.F.entry_list_index (PySem.F.args_list_index_2 _ _) (SeqAt.list_indexAt a its.toArray nn dd sls uy _ j hjs (by omega) hit hno) ⟨ho, hin, ?_⟩
      exact ⟨.int (j : Nat), H, I.tok _, ⟨_, rfl⟩, kk _ _ _ (.of_dat sg (.int _))⟩
    · cases e
  · cases e
theorem EOk.fnd (c : EOk X W k N sc) {i : Nat} (ho : PE X o (tVar i)) (h : DP X W true a ea) (hs : noStar a = true) (hbase : attributeBase o "index" X.env (eval o X.env) = eval o X.env) (hline : (apos.endLine == cpos.line) = true) : DE X W true (.Call (.Attribute o "index" apos) [a] [] cpos) (evM1 fndT i ea) :=
  de_m1 PySem.F.slot_list_index PySem.F.type_list_index (mt_findT c.u) ho h hs hbase hline
end
/-! ### a hook with more facts -/
def hookX (n : Nat) (fa : List He.Fa) (fn : List He.DefD) (ex : PySem.W.Frag → Bool) : PySem.W.Hook where
  α := He.AlD × Bool
  obs := fun s => (He.obsDG n fa fn s.heap.get?, ex (He.frG s.heap.get? (He.asD s.heap.get? n)))
  val := fun _ => (He.valD fn, true)
  says := fun _ h => ∃ K : PySem.W.Frag, K.In h ∧ He.SaysD fa fn K ∧ ex K = true
  of := fun _ _ e => ⟨_, He.frG_in, congrArg Prod.fst e, congrArg Prod.snd e⟩
  keeps := fun _ _ _ ⟨K, hK, c1, c2⟩ kk => ⟨K, PySem.W.Frag.In.keeps hK kk, c1, c2⟩
def obX (n : Nat) (fa : List He.Fa) (fn : List He.DefD) (ex : PySem.W.Frag → Bool) (g : Addr → Option Obj) : He.AlD × Bool := (He.obsDG n fa fn g, ex (He.frG g (He.asD g n)))
theorem obX_eq {n : Nat} {fa : List He.Fa} {fn : List He.DefD} {ex : PySem.W.Frag → Bool} {g : Addr → Option Obj} {s : Shared} (h : ∀ a, g a = s.heap.get? a) : obX n fa fn ex g = (hookX n fa fn ex).obs s := by
  have e : g = s.heap.get? := funext h
  rw [e]
  rfl
def excB (K : PySem.W.Frag) (D : Addr) : Bool :=
  He.eqO (PySem.W.findIn K (.ref D) "__getattribute__") (some (some (.builtin "BaseException.__getattribute__"))) && (He.eqO (PySem.W.findIn K (.ref D) "__getattr__") (some none) && (decide (PySem.W.subIn K (.ref D) (.type "BaseException") = some true) && (PySem.W.hasDictIn K D &&
    (He.eqO (PySem.W.findIn K (.ref D) "__class__") (some (some (.builtin "object.__class__"))) && (He.eqO (PySem.W.specialIn K (.builtin "object.__class__") "__get__") (some (some (.builtin "getset_descriptor.__get__"))) && (decide (PySem.W.takesIn K (.builtin "object.__class__") = some true) && decide (PySem.W.mroIn K D (.type "object") = some true)))))))
theorem excB_ok {K : PySem.W.Frag} {D : Addr} (h : excB K D = true) : ExcC K D := by
  unfold excB at h
  simp only [Bool.and_eq_true, decide_eq_true_eq] at h
  obtain ⟨h1, h2, h3, h4, h5, h6, h7, h8⟩ := h
  exact ⟨He.eqO_ok h1, He.eqO_ok h2, h3, h4, He.eqO_ok h5, He.eqO_ok h6, h7, h8⟩
def isfB (K : PySem.W.Frag) (cv : Value) (tbl : List (Str × Bool)) : Bool := tbl.all fun q => excB K (He.ga K q.1) && decide (PySem.W.kitOne K (.ref (He.ga K q.1)) cv = some q.2)
theorem isfB_ok {K : PySem.W.Frag} {cv : Value} {tbl : List (Str × Bool)} (h : isfB K cv tbl = true) : IsF K cv tbl := fun q hq => by
  have z := List.all_eq_true.mp h q hq
  rw [Bool.and_eq_true, decide_eq_true_eq] at z
  exact ⟨excB_ok z.1, z.2⟩
end VR

/-! VX3: min of a list of numbers. -/
namespace VR
open PySem PySem.Spec PyProof.Rows L2
def minI : List Int → Option Int
  | [] => none
  | x :: xs => some (xs.foldl min x)
theorem minI_fold : ∀ (xs : List Int) (x : Int), (xs.foldl min x = x ∨ xs.foldl min x ∈ xs) ∧ xs.foldl min x ≤ x ∧ ∀ y ∈ xs, xs.foldl min x ≤ y
  | [], x => ⟨.inl rfl, Int.le_refl _, fun y hy => by cases hy⟩
  | z :: xs, x => by
    obtain ⟨h1, h2, h3⟩ := minI_fold xs (min x z)
    rw [List.foldl_cons]
    refine ⟨?_, by omega, fun y hy => ?_⟩
    · rcases h1 with h | h
      · rcases Int.le_total x z with c | c
        · left
          rw [h, Int.min_eq_left c]
        · right
          rw [h, Int.min_eq_right c]
          exact List.mem_cons_self
      · exact .inr (List.mem_cons_of_mem _ h)
    · rcases List.mem_cons.mp hy with rfl | w
      · omega
      · exact h3 y w
theorem minI_spec {ns : List Int} {m : Int} (h : minI ns = some m) : m ∈ ns ∧ ∀ y ∈ ns, m ≤ y := by
  cases ns with
  | nil => cases h
  | cons x xs =>
    cases h
    obtain ⟨h1, h2, h3⟩ := minI_fold xs x
    refine ⟨?_, fun y hy => ?_⟩
    · rcases h1 with h | h
      · rw [h]; exact List.mem_cons_self
      · exact List.mem_cons_of_mem _ h
    · rcases List.mem_cons.mp hy with rfl | w
      · exact h2
      · exact h3 y w
def minT (t : T) : Option T := match t.seq with
  | some (false, ds) => (allInts ds).bind fun ns => (minI ns).map fun m => .dat (.int m)
  | _ => none
section
variable {X : Cx} {W : WX} {p : Bool} {k : Nat} {N : List Str} {sc : Scope} {a : Expr} {ea : Ev} {p0 pos : Pos}
theorem cr_min1 (hc : X.calm = true) : CallR X (.builtin "min") (r1 X.K minT) := by
  intro pins s σ H xs us Q I r h
  obtain ⟨G, x, t, r', rfl, sg, h1, e, kk⟩ := h
  unfold minT at e
  split at e
  · rename_i ds e1
    rw [Option.bind_eq_some_iff] at e
    obtain ⟨ns, e2, e⟩ := e
    rw [Option.map_eq_some_iff] at e
    obtain ⟨m, e0, rfl⟩ := e
    obtain ⟨a, vs, rfl, q1, q2, _⟩ := vw_seq sg h1 e1
    have e3 := allInts_eq e2
    subst e3
    have e4 := dq_ints q1
    subst e4
    obtain ⟨m1, m2⟩ := minI_spec e0
    refine cr_min hc pins s σ H _ us Q I r ⟨a, ns, rfl, q2 rfl, List.length_pos_of_mem m1, fun m' g1 g2 => ?_⟩
    have : m' = m := Int.le_antisymm (g2 m m1) (m2 m' g1)
    subst this
    exact kk _ _ _ (.of_dat sg (.int _))
  · cases e
theorem EOk.min (c : EOk X W k N sc) (b : X.mg "min" = none) (g : cGl sc "min" = true) (h : DP X W p a ea) (hs : noStar a = true) : DE X W p (.Call (.Name "min" p0) [a] [] pos) (evB1 minT ea) := de_b1 (cr_min1 c.calm) (c.gl g) b rfl (cGl_name g).1 (cGl_name g).2 hs h
end
end VR

/-! VX4: enumerate of a list. -/
namespace VR
open PySem PySem.Spec PyProof.Rows L2
def enumD (ds : List PyData) : List PyData := List.zipWith (fun (k : Nat) d => .tuple [.int (k : Int), d]) (List.range ds.length) ds
def evEnum (evs : Envt → R (List T)) : Envt → R Src := fun env => (evs env).bind fun ts env' => match frzAll ts with
  | some [.list ds] => .ok (.fix (enumD ds)) env'
  | _ => .fail
theorem enumD_at {ds : List PyData} {i : Nat} {d : PyData} (h : (enumD ds)[i]? = some d) : ∃ d1, ds[i]? = some d1 ∧ d = .tuple [.int (i : Int), d1] := by
  unfold enumD at h
  rw [List.getElem?_zipWith_eq_some] at h
  obtain ⟨x, y, h1, h2, h3⟩ := h
  obtain ⟨hl, e⟩ := List.getElem?_eq_some_iff.mp h1
  rw [List.getElem_range] at e
  subst e
  exact ⟨y, h2, h3.symm⟩
theorem enumD_len (ds : List PyData) : (enumD ds).length = ds.length := by
  unfold enumD
  rw [List.length_zipWith, List.length_range, Nat.min_self]
theorem src_enum {K : PySem.W.Frag} {G H : Hp} {a : Addr} {vs : List V} {ds : List PyData} (s : Same G H) (h1 : SqL K H a vs) (hd1 : DqAll K G vs ds) : SrcOk K G H (Ite K a) (enumD ds) := by
  refine ⟨fun i d hi => ?_, fun i hi => ⟨vs, h1, by rw [enumD_len] at hi; rw [dpAll_len hd1]; omega⟩⟩
  obtain ⟨d1, e1, rfl⟩ := enumD_at hi
  obtain ⟨v, hv, q1⟩ := dpAll_at' hd1 e1
  refine ⟨⟨vs, v, h1, hv⟩, fun x H' y => ?_⟩
  obtain ⟨T, x1, rfl, hT, rfl, y1⟩ := y
  have z1 := y1 vs h1
  rw [hv] at z1
  cases z1
  exact ⟨_, .tup s hT (.cons (.int _) (.cons q1 .nil))⟩
section
variable {X : Cx} {W : WX} {p : Bool} {a : Expr} {evs : Envt → R (List T)}
theorem di_enum {elts : List Expr} {kk : Nat} {tpos p0 pos : Pos} (hg : Gl X "enumerate") (hm : X.mg "enumerate" = none) (h : DA X W p [a] evs) (ha : noStar a = true) : DI X W p (.Tuple elts kk tpos) (.Call (.Name "enumerate" p0) [a] [] pos) (evEnum evs) := by
  obtain ⟨t, h1, h2⟩ := h
  refine ⟨_, pi_enum hg hm h1 (star_cons ha), fun G H σ env ω Q r g => h2 G H σ env ω _ r ?_⟩
  unfold evEnum at g
  cases q : evs env with
  | ok ts env' =>
    rw [q] at g
    intro vs G1 H1 ω1 τ s1 r1 l1 d1 n1 k1
    simp only [R.bind] at g
    split at g
    · rename_i ds hf
      obtain ⟨G3, gs, r3, hD, fr⟩ := l1.freeze r1 d1 hf
      cases hD with
      | cons q1 hD =>
        cases hD
        cases q1 with
        | lst a1 a2 =>
          exact ⟨_, _, rfl, same_sqL r3.sub a1, g _ G3 H1 ω1 (step_freeze s1 n1 gs fr) r3 (fun G2 H2 e1 e2 => src_enum e2 (same_sqL e2 (same_sqL e1 a1)) (dpAll_mono e1 _ _ a2)) (fun b hb => n1 b (.inl hb)) k1⟩
    · exact g.elim
  | exc c env' =>
    rw [q] at g
    exact g
  | fail =>
    rw [q] at g
    exact g
theorem goodE_at {G H G1 H1 : Hp} {σ : L2.St} {ω ω1 : Own3} {Q : VK} {r : R T} (g : GoodE X W false G H σ ω Q r) (s1 : Step G H (dom ω) G1 H1) (n1 : New H (dom ω) (dom ω1)) : GoodE X W false G1 H1 σ ω1 Q r := by
  cases r with
  | ok t env' => exact fun v G' H' ω' S s2 r2 o2 d2 n2 k2 => g v G' H' ω' S (s1.trans s2 n1) r2 o2 d2 (New.trans s1 n1 n2) (fun z => by cases z)
  | exc c env' => exact fun G' H' ω' s2 r2 n2 => g G' H' ω' (s1.trans s2 n1) r2 (New.trans s1 n1 n2)
  | fail => exact g
/-- x[e].append(a) -/
def evAppI (i : Nat) (ek ea : Ev) : Ev := fun env => match env[i]? with
  | some (some _) => (ek env).bind fun t env1 => match t with
    | .dat (.int k) => evApp i [k] ea env1
    | _ => .fail
  | _ => .fail
theorem de_appI {i : Nat} {pk : Bool} {o b : Expr} {ek ea : Ev} {spos apos cpos : Pos} (ho : PE X o (tVar i)) (hk : DP X W pk b ek) (h : DE X W true a ea) (hsl : noSlice b = true) (hs : noStar a = true)
    (hbase : attributeBase (.Subscript o b spos) "append" X.env (eval (.Subscript o b spos) X.env) = eval (.Subscript o b spos) X.env) (hline : (apos.endLine == cpos.line) = true) : DE X W false (.Call (.Attribute (.Subscript o b spos) "append" apos) [a] [] cpos) (evAppI i ek ea) := by
  obtain ⟨t, h1, h2⟩ := h
  obtain ⟨tk, g1, g2⟩ := hk
  have hst : starEach [a] X.env = (false, eval a X.env) :: starEach [] X.env := star_cons hs
  refine ⟨_, pe_bm PySem.F.plainAttrs_list PySem.F.slot_list_append PySem.F.type_list_append mt_append (pe_ix ix_list ho g1 (plainIx_of hsl)) (pa_cons h1 pa_nil hst) hbase (by rw [hst]; rfl) hline hst rfl, fun G H σ env ω Q r g => ?_⟩
  unfold evAppI at g
  split at g
  · rename_i t0 ht0
    obtain ⟨v, hv, o0⟩ := r.own i t0 ht0
    refine ⟨v, hv, g2 G H σ env ω _ r ?_⟩
    cases q : ek env with
    | exc c env1 =>
      rw [q] at g
      exact g
    | fail =>
      rw [q] at g
      exact g
    | ok kt env1 =>
      rw [q] at g
      intro y G1 H1 ω1 s1 r1 o1 n1 k1
      simp only [R.bind] at g
      split at g
      · rename_i k
        have hy : y = .int k := by
          cases o1 with
          | dat hd => exact dq_int hd
        subst hy
        obtain ⟨v', u, e1, e2, e3⟩ := app_read (W := W) (p := true) (i := i) (ks := [k]) h2 (.inr rfl) r1 (goodE_at g s1 n1)
        rw [hv] at e1
        cases e1
        obtain ⟨a', vs, j, w', q1, q2, q3, q4, q5⟩ := e2
        cases (show w' = u from q5)
        exact ⟨a', vs, k, _, q1, rfl, SqL.of q2, by unfold atI; rw [q3]; exact q4, e3⟩
      · exact g.elim
  · exact g.elim
end
end VR

/-! VX5: d.values(), d.items() of a dict that is frozen for good, walked. -/
namespace VR
open PySem PySem.Spec PyProof.Rows L2
def evDctW (F : List Key → List PyData → List PyData) (i : Nat) : Envt → R Src := fun env => match env[i]? with
  | some (some (.node (.dct ks false false) ts)) => (match keysL ks, frzAll ts with
    | some l, some ds => .ok (.fix (F l ds)) (env.set i (some (.fdc l ds)))
    | _, _ => .fail)
  | some (some (.fdc l ds)) => .ok (.fix (F l ds)) env
  | _ => .fail
def evVals (i : Nat) : Envt → R Src := evDctW (fun _ ds => ds) i
def evItms (i : Nat) : Envt → R Src := evDctW (fun l ds => List.zipWith (fun k d => .tuple [keyD k, d]) l ds) i
theorem src_vals {K : PySem.W.Frag} {G : Hp} {a : Addr} {o : Obj} {kvs : List (Key × V)} {ds : List PyData} (h : G a = some (.frz o (.dK kvs))) (hd : DqAll K G (kvs.map (·.2)) ds) : ∀ G2 H2, Same G G2 → Same G2 H2 → SrcOk K G2 H2 (Itd a o kvs) ds := by
  intro G2 H2 e1 e2
  have hH := e2 _ _ (e1 _ _ h)
  have hl : kvs.length = ds.length := by
    have := dpAll_len hd
    rw [List.length_map] at this
    exact this
  refine ⟨fun i d hi => ?_, fun i hi => ⟨hH, by omega⟩⟩
  obtain ⟨v, hv, q⟩ := dpAll_at' (dpAll_mono e1 _ _ hd) hi
  rw [List.getElem?_map, Option.map_eq_some_iff] at hv
  obtain ⟨kv, hkv, rfl⟩ := hv
  refine ⟨⟨hH, (List.getElem?_eq_some_iff.mp hkv).1⟩, fun x H' y => ?_⟩
  obtain ⟨rfl, k, hk⟩ := y
  rw [hkv] at hk
  cases hk
  exact ⟨G2, .of_dat e2 q⟩
section
variable {X : Cx} {W : WX} {p : Bool} {tg e : Expr} {apos cpos : Pos}
/-- for v in d.values() -/
theorem di_vals {i : Nat} (h : PE X e (tVar i)) (hbase : attributeBase e "values" X.env (eval e X.env) = eval e X.env) (hline : (apos.endLine == cpos.line) = true) : DI X W false tg (.Call (.Attribute e "values" apos) [] [] cpos) (evVals i) := by
  have hv := pi_values (tg := tg) h hbase hline
  refine ⟨_, pi_or2 (pi_lockP hv) hv, fun G H σ env ω Q r g => ?_⟩
  unfold evVals evDctW at g
  split at g
  · rename_i ks ts ht
    split at g
    · rename_i l ds h1 h2
      have ek := keysL_eq h1
      subst ek
      obtain ⟨a, kvs, hv, hH, hk, rest⟩ := r.lockD ht h2
      refine .inl ⟨a, _, hH, trivial, fun od => ?_⟩
      obtain ⟨G', ω', s1, r1, sub, Ga⟩ := rest od
      refine ⟨_, hv, a, od, kvs, rfl, upd_same, ?_⟩
      refine g _ G' _ ω' s1 r1 ?_ (fun b hb => .inl (sub b hb)) (fun z => by cases z)
      have hi : i < env.length := (List.getElem?_eq_some_iff.mp ht).1
      obtain ⟨v', hv', o'⟩ := r1.own i _ (List.getElem?_set_self hi)
      rw [hv] at hv'
      cases hv'
      cases o' with
      | @fdc a' od' kvs' _ _ _ h3 hk3 nd hd z =>
        rw [Ga] at h3
        cases h3
        exact src_vals Ga hd
    · exact g.elim
  · rename_i l ds ht
    obtain ⟨v, hv, o⟩ := r.own i _ ht
    cases o with
    | @fdc a od kvs _ _ _ h hk nd hd z =>
      refine .inr ⟨_, hv, a, od, kvs, rfl, r.sub _ _ h, ?_⟩
      exact g _ G H ω .refl r (src_vals h hd) .refl fun z => by cases z
  · exact g.elim
end
end VR

/-! VX6: list(d.values()). -/
namespace VR
open PySem PySem.Spec PyProof.Rows L2
def tLstVals (td : TE) : TE := fun σ H Q => td σ H fun x H1 => ∃ a kvs, x = V.ref a ∧ Rd H1 a (.dK kvs) ∧ ∀ p, H1 p = none → Q (.ref p) (upd H1 p (.lst (kvs.map (·.2))))
theorem kv_vals {kvs : List (Key × V)} {vs : List (Key × Value)} (r : KV kvs vs) : Vals (kvs.map (·.2)) (vs.map (·.2)) := by
  unfold KV at r
  induction r with
  | nil => exact .nil
  | cons r _ ih => exact .cons r.2 ih
section
variable {X : Cx} {W : WX} {k : Nat} {N : List Str} {sc : Scope} {o : Expr} {td : TE} {p0 pos apos mpos : Pos}
theorem pe_lstVals (hc : X.calm = true) (hg : Gl X "list") (hm : X.mg "list" = none) (hd : PE X o td) (hbase : attributeBase o "values" X.env (eval o X.env) = eval o X.env) (hline : (apos.endLine == mpos.line) = true)
    (hse : starEach [Expr.Call (.Attribute o "values" apos) [] [] mpos] X.env = [(false, eval (Expr.Call (.Attribute o "values" apos) [] [] mpos) X.env)]) :
    PE X (.Call (.Name "list" p0) [.Call (.Attribute o "values" apos) [] [] mpos] [] pos) (tLstVals td) := by
  refine ⟨fun pins s σ H Q I h => ?_⟩
  refine Call_ (ld_blt I hg hm boot_list ?_)
  rw [hse]
  refine PySem.callWith_type1 (wpAny_Call_method0_late hbase hline (thn (hd.run pins s σ H _ I h) fun v s1 y => ?_))
  obtain ⟨x, H1, I1, r1, a, kvs, rfl, ha, q⟩ := y
  obtain rfl : v = Value.ref a := r1
  obtain ⟨z, hsys, vs, rel, dof⟩ := dk_rd I1.hok ha
  obtain ⟨ep, dat⟩ := dof.dictAt
  have dat' := dat
  obtain ⟨ob, es, ho, ex, hdat, hko, hpr, hnd⟩ := dat'
  refine ⟨"dict", "dict.values", F.plainAttrs_dict, F.slot_dict_values, F.type_dict_values, ⟨ob, ho, ex.1⟩, fun b e => ?_, Calls.callWith_builtin rfl (PySem.evalArgs_none ?_)⟩
  · cases e
    exact ⟨ob, ho, ex.2.1⟩
  refine call_meetsIn F.slot_dict_values ⟨ob, ho, ex.1⟩ F.entry_dict_values (F.args_dict_values_1 _) (meets_dict_values (mixKind X.prog X.w) a hsys) ⟨⟨vs, dof⟩, ?_⟩
  have k1 : ∀ b u, s1.heap.get? b = some u → (s1.heap.push { cls := .type "dict_values", data := .fields #[.ref a] }).get? b = some u := fun b u e => Heap.get?_push_of_some _ e
  have dat1 : (s1.heap.push { cls := .type "dict_values", data := .fields #[.ref a] }).DictAt (mixKind X.prog X.w) a vs ep := dat.keep k1
  have I2 : Inv X pins σ H1 { s1 with heap := s1.heap.push { cls := .type "dict_values", data := .fields #[.ref a] } } := I1.kept (t' := s1.toks) k1
  refine PySem.W.kdl_call (PySem.W.kdl_values (knd := mixKind X.prog X.w) (kvs := vs) (ep := ep)) (I.ok.hd hc) ⟨⟨_, Heap.get?_push_size _ rfl, rfl, rfl⟩, dat1⟩ (by rw [← KV.length rel]; exact z) fun h' tk acc c' hk hD hacc => ?_
  have hv : acc.toList = vs.map (·.2) := PySem.W.kdl_vals_eq acc.toList (by rw [Array.length_toList]; exact hacc.1) fun j v e => hacc.2 j v (by rw [← Array.getElem?_toList]; exact e)
  refine ⟨.ref _, _, I2.laid (t' := tk) (o := .lst (kvs.map (·.2))) hk (Nat.le_refl _) (show ObjOk X.prog X.w _ _ _ (.lst (kvs.map (·.2))) from ⟨by rw [List.length_map]; exact z, acc.toList, c', by rw [hv]; exact kv_vals rel, by rw [Array.toArray_toList]; exact hD⟩), rfl, q _ (I2.hok.fresh (Nat.le_refl _))⟩
theorem pe_or2' {e : Expr} {t1 t2 : TE} (h1 : PE X e t1) (h2 : PE X e t2) : PE X e (fun σ H Q => t1 σ H Q ∨ t2 σ H Q) := ⟨fun pins s σ H Q I h => h.elim (h1.run pins s σ H Q I) (h2.run pins s σ H Q I)⟩
theorem pe_lockP {e : Expr} {t : TE} (h : PE X e t) : PE X e (fun σ H Q => ∃ d u, H d = some u ∧ Mut (some u) ∧ ∀ od, t σ (upd H d (.frz od u)) Q) := by
  refine ⟨fun pins s σ H Q I hw => ?_⟩
  obtain ⟨d, u, hd, mu, hw⟩ := hw
  obtain ⟨od, I1⟩ := I.lock hd mu
  exact h.run pins s σ _ _ I1 (hw od)
/-- list(d.values()): the dict is frozen -/
def evLstV (i : Nat) : Ev := fun env => match env[i]? with
  | some (some (.node (.dct ks false false) ts)) => (match keysL ks, frzAll ts with
    | some l, some ds => .ok (tl ds) (env.set i (some (.fdc l ds)))
    | _, _ => .fail)
  | some (some (.fdc l ds)) => .ok (tl ds) env
  | _ => .fail
theorem EOk.lsv (c : EOk X W k N sc) {i : Nat} (b : X.mg "list" = none) (g0 : cGl sc "list" = true) (ho : PE X o (tVar i)) (hbase : attributeBase o "values" X.env (eval o X.env) = eval o X.env) (hline : (apos.endLine == mpos.line) = true) : DE X W false (.Call (.Name "list" p0) [.Call (.Attribute o "values" apos) [] [] mpos] [] pos) (evLstV i) := by
  have hv := pe_lstVals (p0 := p0) (pos := pos) c.calm (c.gl g0) b ho hbase hline (star_cons rfl)
  refine ⟨_, pe_or2' (pe_lockP hv) hv, fun G H σ env ω Q r g => ?_⟩
  unfold evLstV at g
  split at g
  · rename_i ks ts ht
    split at g
    · rename_i l ds h1 h2
      have ek := keysL_eq h1
      subst ek
      obtain ⟨a, kvs, hv, hH, hk, rest⟩ := r.lockD ht h2
      refine .inl ⟨a, _, hH, trivial, fun od => ?_⟩
      obtain ⟨G', ω', s1, r1, sub, Ga⟩ := rest od
      refine ⟨_, hv, a, kvs, rfl, .inr ⟨od, upd_same⟩, fun pp hpp => ?_⟩
      have hi : i < env.length := (List.getElem?_eq_some_iff.mp ht).1
      obtain ⟨v', hv', o'⟩ := r1.own i _ (List.getElem?_set_self hi)
      rw [hv] at hv'
      cases hv'
      cases o' with
      | @fdc a' od' kvs' _ _ _ h3 hk3 nd hd z =>
        rw [Ga] at h3
        cases h3
        exact good_new g s1 r1 (fun b hb => .inl (sub b hb)) (fun z => by cases z) (.lst r1.sub hpp hd)
    · exact g.elim
  · rename_i l ds ht
    obtain ⟨v, hv, o⟩ := r.own i _ ht
    cases o with
    | @fdc a od kvs _ _ _ h hk nd hd z =>
      refine .inr ⟨_, hv, a, kvs, rfl, .inr ⟨od, r.sub _ _ h⟩, fun pp hpp => ?_⟩
      exact good_new g .refl r .refl (fun z => by cases z) (.lst r.sub hpp hd)
  · exact g.elim
end
end VR

/-! VX7: d != {}, d == {}. -/
namespace VR
open PySem PySem.Spec PyProof.Rows L2
section
variable {prog : Program} {w : World} {K : Type} [DecidableEq K] {knd : KeyKind prog w K} {A : Around} {E Q : Value → Shared → Prop} {s : Shared} {x y : Addr} {ps : List (K × Value)}
theorem ne_empty (m1 : (x == sysModules) = false) (m2 : (y == sysModules) = false) (d1 : s.heap.DictOf knd x ps) (d2 : s.heap.DictOf knd y []) (room : A.units < cLine) (q : Q (.bool (!ps.isEmpty)) s) : wpAny (model prog w) A (richCompare .NotEq (.ref x) (.ref y)) Q E s := by
  refine wpAny_richCompare_same_room (op := .NotEq) d1.typeIs d2.typeIs PySem.F.slot_dict_ne (wpAny_call_entry PySem.F.slot_dict_ne d1.typeIs PySem.F.entry_dict_ne ?_ (PySem.F.args_dict_ne_2 _ _)) room
  refine wpAny_bind (show wpAny _ _ (Builtin.Dict.dictSlotArgs "__ne__" ⟨[.ref x, .ref y], []⟩) _ _ s from ?_)
  unfold Builtin.Dict.dictSlotArgs
  refine wpAny_bind (wpAny_notOrdered_dict d1.typeIs (show wpAny _ _ (pure (Value.ref x, Value.ref y)) _ _ s from wpAny_pure ?_))
  refine wpAny_bind (wpAny_isInstance (T := "dict") d2.typeIs PySem.F.sub_dict_dict ?_)
  simp only [Bool.not_true, Bool.false_eq_true, if_false]
  refine wpAny_bind (wpAny_pure (wpAny_bind (wpAny_pure (wpAny_bind (PySem.W.samePairsP (r := true) m1 m2 d1 d2 (fun h0 => ?_) ?_)))))
  · cases ps with
    | nil => exact .nil
    | cons _ _ => cases h0
  · refine wpAny_pure ⟨_, rfl, (by intro z; cases z), ?_⟩
    cases ps with
    | nil => simpa using q
    | cons _ _ => simpa using q
end
def rNe0 : R2 := fun x y H Q => ∃ a b kvs, x = V.ref a ∧ y = V.ref b ∧ Rd H a (.dK kvs) ∧ H b = some (.dK []) ∧ Q (.bl (!kvs.isEmpty)) H
section
variable {X : Cx} {W : WX} {k : Nat} {N : List Str} {sc : Scope} {o : Expr} {dpos pos : Pos}
theorem op_ne0 (hu : X.A.units + 64 < cLine) : OpR X (compareOp .NotEq) rNe0 := by
  intro pins s σ H x y v u Q I rx ry h
  obtain ⟨a, b, kvs, rfl, rfl, ha, hb, q⟩ := h
  cases rx
  cases ry
  obtain ⟨z, m1, vs, rel, d1⟩ := dk_rd I.hok ha
  obtain ⟨_, m2, vs2, rel2, d2⟩ := dk_of I.hok hb
  have e2 : vs2 = [] := List.length_eq_zero_iff.mp (KV.length rel2).symm
  subst e2
  have e1 : kvs.isEmpty = vs.isEmpty := by
    have := KV.length rel
    cases kvs <;> cases vs <;> first | rfl | (simp at this)
  show wpAny _ _ (richCompare .NotEq (.ref a) (.ref b)) _ _ s
  exact ne_empty m1 m2 d1 d2 (by omega) ⟨.bl _, H, I, rfl, by rw [← e1]; exact q⟩
/-- d != {} -/
def evNe0 (i : Nat) : Ev := fun env => match env[i]? with
  | some (some (.node (.dct ks false false) _)) => .ok (.dat (.bool (!ks.isEmpty))) env
  | some (some (.fdc l _)) => .ok (.dat (.bool (!l.isEmpty))) env
  | _ => .fail
theorem ne0_end {G H : Hp} {σ : L2.St} {env : Envt} {ω : Own3} {Q : VK} {b : Bool} (r : Rep X.K G H σ env ω) (g : GoodE X W true G H σ ω Q (.ok (.dat (.bool b)) env)) {q : Addr} (hq : H q = none) : Q (.bl b) (upd H q (.dK [])) := by
  have sh : Same H (upd H q (.dK [])) := same_upd hq
  have sp : ∀ b, (∃ ob, H b = some ob) → upd H q (.dK []) b = H b := fun b ⟨ob, hb⟩ => (sh b ob hb).trans hb.symm
  have r2 : Rep X.K G (upd H q (.dK [])) σ env ω := r.step (fun _ _ z => z) (fun b ob z => sh b ob (r.sub b ob z)) fun b hb => ⟨sp b (r.there hb).1, (r.there hb).2⟩
  exact good_dat g ⟨fun _ _ z => z, fun b ob _ z => ⟨sh b ob z, fun w => w⟩⟩ r2 .refl (fun _ => sh) (.bl b)
theorem ne0_read {G H : Hp} {σ : L2.St} {env : Envt} {ω : Own3} {Q : VK} {i : Nat} (r : Rep X.K G H σ env ω) (g : GoodE X W true G H σ ω Q (evNe0 i env)) : ∃ v, σ[i]? = some (some v) ∧ ∀ q, H q = none → rNe0 v (.ref q) (upd H q (.dK [])) Q := by
  unfold evNe0 at g
  split at g
  · rename_i ks ts ht
    obtain ⟨v, hv, o1⟩ := r.own i _ ht
    obtain ⟨aa, rfl⟩ : ∃ aa, v = .ref aa := by
      cases o1 with
      | node _ _ _ _ _ _ => exact ⟨_, rfl⟩
    obtain ⟨vs, A, τ, n, _⟩ := own_kids o1
    obtain ⟨_, cell, _⟩ := n
    rcases cell with ⟨_, kvs, e1, e2, cell⟩ | ⟨z, _⟩
    · have hH : H aa = some (.dK kvs) := cell
      have ek : ks.isEmpty = kvs.isEmpty := by
        rw [← e1]
        cases kvs <;> rfl
      rw [ek] at g
      exact ⟨_, hv, fun q hq => ⟨aa, q, kvs, rfl, rfl, .inl ((same_upd hq) _ _ hH), upd_same, ne0_end r g hq⟩⟩
    · cases z
  · rename_i l ds ht
    obtain ⟨v, hv, o1⟩ := r.own i _ ht
    cases o1 with
    | @fdc a od kvs _ _ _ h hk nd hd z =>
      have ek : l.isEmpty = kvs.isEmpty := by
        rw [← hk]
        cases kvs <;> rfl
      rw [ek] at g
      exact ⟨_, hv, fun q hq => ⟨a, q, kvs, rfl, rfl, .inr ⟨od, (same_upd hq) _ _ (r.sub _ _ h)⟩, upd_same, ne0_end r g hq⟩⟩
  · exact g.elim
theorem EOk.ne0 (c : EOk X W k N sc) {i : Nat} (ho : PE X o (tVar i)) (hm : behindInMarks .NotEq (.Dict [] [] dpos) = false) : DE X W true (.Compare o [.NotEq] [.Dict [] [] dpos] pos) (evNe0 i) := ⟨_, pe_cmpR (op_ne0 c.u) ho pe_dnewK hm, fun G H σ env ω Q r g => ne0_read r g⟩
theorem EOk.tne0 (c : EOk X W k N sc) {i : Nat} (ho : PE X o (tVar i)) (hm : behindInMarks .NotEq (.Dict [] [] dpos) = false) : DT X W true (.Compare o [.NotEq] [.Dict [] [] dpos] pos) (evTst (evNe0 i)) := ⟨_, pt_cmpR (op_ne0 c.u) ho pe_dnewK hm, fun G H σ env ω Q r g => ne0_read r (goodT_E g)⟩
end
end VR

/-! VX8: several objects laid at once; sorted(d.items()). -/
namespace VR
open PySem PySem.Spec PyProof.Rows L2
section
variable {X : Cx} {pins : List (Addr × Obj)} {σ : L2.St} {H H' : Hp} {s : Shared} {h' : Heap}
theorem un_more {fs ex : List Addr} (k : ∀ b u, s.heap.get? b = some u → h'.get? b = some u) (sub : Same H H') (new : ∀ b o, H' b = some o → H b = some o ∨ s.heap.objs.size ≤ b) : Un fs ex H H' s.heap h' where
  keep := fun b u q _ _ _ => k b u q
  slot := fun b u q _ _ _ => ⟨u.slots, k b u q⟩
  free := fun b u q n _ => by
    cases e : H' b with
    | none => rfl
    | some o =>
      rcases new b o e with z | z
      · rw [n] at z
        cases z
      · exact absurd (Heap.lt_size q) (Nat.not_lt.mpr z)
  there := fun b u q _ => ⟨u, k b u q⟩
  tups := fun b xs q => sub _ _ q
  frzs := fun b u xs q => sub _ _ q
  tbls := fun b ps q => ⟨#[], by rw [sub _ _ q]; simp⟩
theorem hok_more {P : Program} {w : World} (x : HOk P w H s.heap) (k : ∀ b u, s.heap.get? b = some u → h'.get? b = some u) (sub : Same H H') (new : ∀ b o, H' b = some o → H b = some o ∨ ObjOk P w H' h' b o) : HOk P w H' h' := fun b o e => by
  rcases new b o e with z | z
  · exact (x b o z).stay (fun c v _ q => k c v q) (fun c q => sub _ _ q) fun c xs q => sub _ _ q
  · exact z
end
/-- the pairs of a dict, laid -/
def layT (H : Hp) : List (Addr × (Key × V)) → Hp
  | [] => H
  | q :: l => fun b => if b = q.1 then some (.tup [kV q.2.1, q.2.2]) else layT H l b
theorem layT_other {H : Hp} : ∀ {l : List (Addr × (Key × V))} {b : Addr}, b ∉ l.map (·.1) → layT H l b = H b
  | [], _, _ => rfl
  | q :: l, b, h => by
    have h1 : b ≠ q.1 := fun z => h (by rw [z]; simp)
    show (if b = q.1 then _ else layT H l b) = _
    rw [if_neg h1]
    exact layT_other fun z => h (by simp at z ⊢; exact .inr z)
theorem layT_some {H : Hp} : ∀ {l : List (Addr × (Key × V))} {b : Addr} {o : HO}, layT H l b = some o → (∃ q ∈ l, b = q.1 ∧ o = .tup [kV q.2.1, q.2.2]) ∨ (b ∉ l.map (·.1) ∧ H b = some o)
  | [], _, _, h => .inr ⟨by simp, h⟩
  | q :: l, b, o, h => by
    have h' : (if b = q.1 then some (HO.tup [kV q.2.1, q.2.2]) else layT H l b) = some o := h
    by_cases c : b = q.1
    · rw [if_pos c] at h'
      cases h'
      exact .inl ⟨q, List.mem_cons_self, c, rfl⟩
    · rw [if_neg c] at h'
      rcases layT_some h' with ⟨w, h1, h2, h3⟩ | ⟨h1, h2⟩
      · exact .inl ⟨w, List.mem_cons_of_mem _ h1, h2, h3⟩
      · exact .inr ⟨by rw [List.map_cons, List.mem_cons]; exact fun z => z.elim c h1, h2⟩
theorem layT_at {H : Hp} : ∀ {l : List (Addr × (Key × V))}, (l.map (·.1)).Nodup → ∀ q ∈ l, layT H l q.1 = some (.tup [kV q.2.1, q.2.2])
  | q :: l, hn, w, hw => by
    rw [List.map_cons] at hn
    obtain ⟨h1, h2⟩ := List.nodup_cons.mp hn
    show (if w.1 = q.1 then some (HO.tup [kV q.2.1, q.2.2]) else layT H l w.1) = _
    rcases List.mem_cons.mp hw with rfl | z
    · rw [if_pos rfl]
    · rw [if_neg (fun e => h1 (by rw [← e]; exact List.mem_map.mpr ⟨w, z, rfl⟩))]
      exact layT_at h2 w z
theorem layT_same {H : Hp} {l : List (Addr × (Key × V))} (h : ∀ q ∈ l, H q.1 = none) : Same H (layT H l) := fun b o e => by
  rw [layT_other]
  · exact e
  · intro z
    obtain ⟨q, hq, rfl⟩ := List.mem_map.mp z
    rw [h q hq] at e
    cases e
def prsD (kvs : List (Key × V)) (ds : List PyData) : List PyData := List.zipWith (fun (q : Key × V) d => .tuple [keyD q.1, d]) kvs ds
def tSrtI (K : PySem.W.Frag) (td : TE) : TE := fun σ H Q => td σ H fun x H1 => ∃ a kvs ds, x = V.ref a ∧ H1 a = some (.dK kvs) ∧ DqAll K H1 (kvs.map (·.2)) ds ∧ okSort (prsD kvs ds) = true ∧
  ∀ (as : List Addr) (p : Addr), as.length = kvs.length → as.Nodup → (∀ b ∈ as, H1 b = none) → H1 p = none → p ∉ as → Q (.ref p) (upd (layT H1 (as.zip kvs)) p (.lst ((((as.map V.ref).zip (prsD kvs ds)).mergeSort (PySem.W.dataLe false Prod.snd)).map (·.1))))
theorem prs_all {K : PySem.W.Frag} {H H' : Hp} (sub : Same H H') : ∀ (as : List Addr) (kvs : List (Key × V)) (ds : List PyData), DqAll K H (kvs.map (·.2)) ds → (∀ q ∈ as.zip kvs, H' q.1 = some (.tup [kV q.2.1, q.2.2])) → ∀ y ∈ (as.map V.ref).zip (prsD kvs ds), Dq K H' y.1 y.2
  | [], _, _, _, _, y, hy => by simp at hy
  | _ :: _, [], _, _, _, y, hy => by simp [prsD] at hy
  | a :: as, q :: kvs, [], h, _, y, hy => by simp [prsD] at hy
  | a :: as, q :: kvs, d :: ds, h, hT, y, hy => by
    rw [List.map_cons] at h
    cases h with
    | cons h1 h2 =>
      have hz : (List.map V.ref (a :: as)).zip (prsD (q :: kvs) (d :: ds)) = (V.ref a, .tuple [keyD q.1, d]) :: (as.map V.ref).zip (prsD kvs ds) := rfl
      rw [hz] at hy
      rcases List.mem_cons.mp hy with rfl | hy
      · exact .tup (hT (a, q) List.mem_cons_self) (.cons (dq_kV _) (.cons (dp_mono sub _ _ h1) .nil))
      · exact prs_all sub as kvs ds h2 (fun w hw => hT w (List.mem_cons_of_mem _ hw)) y hy
theorem each_refs {l : List PyData} : ∀ {as : List Addr}, as.length = l.length → PySem.W.EachIs (fun u (b : VD) => RelV b.1 u) (as.map Value.ref) ((as.map V.ref).zip l) := by
  induction l with
  | nil =>
    intro as h
    rw [List.length_eq_zero_iff.mp h]
    exact .nil
  | cons d l ih =>
    intro as h
    cases as with
    | nil => cases h
    | cons a as => exact .cons rfl (ih (by simpa using h))
section
variable {X : Cx} {W : WX} {k : Nat} {N : List Str} {sc : Scope} {o : Expr} {td : TE} {p0 pos apos mpos : Pos}
theorem pe_srtI (hc : X.calm = true) (hu : X.A.units + 64 < cLine) (hg : Gl X "sorted") (hm : X.mg "sorted" = none) (hd : PE X o td) (hbase : attributeBase o "items" X.env (eval o X.env) = eval o X.env) (hline : (apos.endLine == mpos.line) = true)
    (hse : starEach [Expr.Call (.Attribute o "items" apos) [] [] mpos] X.env = [(false, eval (Expr.Call (.Attribute o "items" apos) [] [] mpos) X.env)]) :
    PE X (.Call (.Name "sorted" p0) [.Call (.Attribute o "items" apos) [] [] mpos] [] pos) (tSrtI X.K td) := by
  refine ⟨fun pins s0 σ H0 Q I0 h => ?_⟩
  refine wpAny_Call_Name_kw (ld_blt I0 hg hm (u := .builtin "sorted") (by rfl) ?_ (by decide) (by decide))
  rw [hse]
  refine PySem.callWith_builtin1 (wpAny_Call_method0_late hbase hline (thn (hd.run pins s0 σ H0 _ I0 h) fun v s2 y => ?_))
  obtain ⟨x, H1, I1, r1, a, kvs, ds, rfl, ha, hdq, ok, q⟩ := y
  obtain rfl : v = Value.ref a := r1
  obtain ⟨z, hsys, ws, rel, dof⟩ := dk_of I1.hok ha
  obtain ⟨es, ep, raw, hez, hee⟩ := dof.raw
  obtain ⟨ob, ho, ex, hdat⟩ := id raw
  refine ⟨"dict", "dict.items", F.plainAttrs_dict, F.slot_dict_items, F.type_dict_items, ⟨ob, ho, ex.1⟩, fun b e => ?_, Calls.callWith_builtin rfl (PySem.evalArgs_none ?_)⟩
  · cases e
    exact ⟨ob, ho, ex.2.1⟩
  refine call_meetsIn F.slot_dict_items ⟨ob, ho, ex.1⟩ F.entry_dict_items (F.args_dict_items_1 _) (meets_dict_items (mixKind X.prog X.w) a hsys) ⟨⟨ws, dof⟩, ?_⟩
  have hkl : kvs.length = es.size := by rw [hez]; exact KV.length rel
  have I2 : Inv X pins σ H1 { s2 with heap := s2.heap.push { cls := .type "dict_items", data := .fields #[.ref a] } } := I1.kept (t' := s2.toks) fun b u e => Heap.get?_push_of_some _ e
  refine Calls.call_function_entry kind_sorted plain_sorted entry_sorted (args_sorted1 _) ?_
  unfold Builtin.«sorted»
  refine wpAny_bind (m := checkCount "sorted" 1 1 _) (wpAny_pure ?_)
  refine wpAny_bind (PySem.W.dil_collect (A := X.A.in1) (es := es) (ep := ep) (I0.ok.hd hc) ⟨_, Heap.get?_push_size _ rfl, rfl, rfl⟩ (raw.push _) (by rw [← hkl]; exact z) fun h' tk as keep hl G => ?_)
  have hal : as.length = kvs.length := by rw [hl, hkl]
  have hnd : as.Nodup := G.rise.imp fun z e => by rw [e] at z; exact Nat.lt_irrefl _ z
  have hfr : ∀ b ∈ as, (s2.heap.push { cls := .type "dict_items", data := .fields #[.ref a] }).objs.size ≤ b := fun b hb => Nat.le_of_lt (G.above b hb)
  have hno : ∀ b ∈ as, H1 b = none := fun b hb => I2.hok.fresh (hfr b hb)
  have hmem : ∀ w ∈ as.zip kvs, w.1 ∈ as := fun w hw => (List.of_mem_zip hw).1
  have sub : Same H1 (layT H1 (as.zip kvs)) := layT_same fun w hw => hno _ (hmem w hw)
  have hzn : ((as.zip kvs).map (·.1)).Nodup := by
    rw [List.map_fst_zip (by omega)]
    exact hnd
  have tup : ∀ w ∈ as.zip kvs, ObjOk X.prog X.w (layT H1 (as.zip kvs)) h' w.1 (.tup [kV w.2.1, w.2.2]) := fun w hw => by
    obtain ⟨j, hj⟩ := List.mem_iff_getElem?.mp hw
    rw [List.getElem?_zip_eq_some] at hj
    obtain ⟨j1, j2⟩ := hj
    obtain ⟨hje, hob⟩ := G.pairs j w.1 j1
    have hjw : j < ws.length := by rw [← hez]; exact hje
    obtain ⟨x', e1, e2⟩ := KV.at' rel (i := j) (k := ws[j].1) (v := ws[j].2) (List.getElem?_eq_getElem hjw)
    rw [j2] at e1
    have e1' := Option.some.inj e1
    obtain ⟨k1, k2⟩ := hee j hje ws[j].1 ws[j].2 (List.getElem?_eq_getElem hjw)
    rw [e1']
    have rk : RelV (kV ws[j].1) es[j].key := by
      rcases keyIs_shape k1 with ⟨i, t, ek, ev⟩ | ⟨z, t, ek, ev⟩
      · rw [ek]
        exact ⟨t, ev⟩
      · rw [ek]
        exact ⟨t, ev⟩
    exact ⟨by show 2 ≤ sizeLine; decide, [es[j].key, es[j].val], .cons rk (.cons (by rw [k2]; exact e2) .nil), ⟨_, hob, rfl, _, rfl⟩⟩
  have I : Inv X pins σ (layT H1 (as.zip kvs)) { s2 with heap := h', toks := tk } := I2.un (un_more keep sub fun b u e => by
    rcases layT_some e with ⟨w, w1, w2, _⟩ | ⟨_, w⟩
    · exact .inr (by rw [w2]; exact hfr _ (hmem w w1))
    · exact .inl w) (hok_more I2.hok keep sub fun b u e => by
    rcases layT_some e with ⟨w, w1, rfl, rfl⟩ | ⟨_, w⟩
    · exact .inr (tup w w1)
    · exact .inl w)
  have hpl : (prsD kvs ds).length = kvs.length := by
    unfold prsD
    rw [List.length_zipWith]
    have := dpAll_len hdq
    rw [List.length_map] at this
    omega
  have hEv := each_refs (l := prsD kvs ds) (as := as) (by rw [hal, hpl])
  have hM := prs_all sub as kvs ds hdq fun w hw => layT_at hzn w hw
  have hsn : ((as.map V.ref).zip (prsD kvs ds)).map (·.2) = prsD kvs ds := List.map_snd_zip (by rw [List.length_map, hal, hpl]; exact Nat.le_refl _)
  rw [← hsn] at ok
  obtain ⟨al, so, dp⟩ := okSort_ok ok
  have hML : ((as.map V.ref).zip (prsD kvs ds)).length = (as.map Value.ref).length := by rw [List.length_zip, List.length_map, List.length_map, hpl, hal, Nat.min_self]
  have hvs : (as.map Value.ref).length ≤ sizeLine := by rw [List.length_map, hal]; exact z
  have qq := fun p h1 h2 => q as p hal hnd hno h1 h2
  generalize hvv : as.map Value.ref = vs at hEv hML hvs ⊢
  generalize (as.map V.ref).zip (prsD kvs ds) = M' at hEv hM ok al so dp hML qq
  refine wpAny_bind (wpAny_newList ?_ hvs)
  have hoL : (h'.push (seqObj "list" vs.toArray 0)).get? h'.objs.size = some (seqObj "list" vs.toArray 0) := Heap.get?_push_size _ rfl
  refine wpAny_bind (wpAny_holding (PySem.W.list_sort_data (β := VD) (enc := Prod.snd) (R := fun u b => RelV b.1 u) (bs := M') (s := { s2 with heap := h'.push (seqObj "list" vs.toArray 0), toks := tk }) hoL hEv (each_two I (fun b u e => Heap.get?_push_of_some _ e) (none_above (Nat.le_refl _)) hEv hM) al so (by rw [hML]; exact hvs) (fun b hb => ?_) fun out ho1 ho2 => ?_))
  · have z := dp b.2 (List.mem_map.mpr ⟨b, hb, rfl⟩)
    show X.A.units + 1 + 1 + b.2.depth < cLine
    omega
  · obtain ⟨c, hc'⟩ := sortedHeap_at (vs := vs) (out := out.toArray) hoL
    have vv := each_vals ho2
    have lv : ((M'.mergeSort (PySem.W.dataLe false Prod.snd)).map (·.1)).length ≤ sizeLine := by
      rw [vv.length, ho1, hML]
      exact hvs
    have hn : layT H1 (as.zip kvs) h'.objs.size = none := I.hok.fresh (Nat.le_refl _)
    have old : ∀ b u, h'.get? b = some u → (sortedHeap (h'.push (seqObj "list" vs.toArray 0)) h'.objs.size vs out.toArray).get? b = some u := fun b u e => by
      have hlt := Heap.lt_size e
      rw [sortedHeap_old (Nat.ne_of_lt hlt) (by rw [size_push']; exact Nat.lt_succ_of_lt hlt)]
      exact Heap.get?_push_of_some _ e
    have J := I.laid (t' := tk) (a := h'.objs.size) (o := .lst ((M'.mergeSort (PySem.W.dataLe false Prod.snd)).map (·.1))) old (Nat.le_refl _) ⟨lv, out, c, vv, hc'⟩
    have hnp : h'.objs.size ∉ as := fun z => Nat.lt_irrefl _ (G.there z)
    have hn1 : H1 h'.objs.size = none := by
      cases e : H1 h'.objs.size with
      | none => rfl
      | some u =>
        rw [sub _ _ e] at hn
        cases hn
    exact wpAny_pure ⟨_, rfl, .ref h'.objs.size, _, J, rfl, qq _ hn1 hnp⟩
end
end VR

/-! VX9: sorted(d.items()), its evaluator. -/
namespace VR
open PySem PySem.Spec PyProof.Rows L2
def prK (l : List Key) (ds : List PyData) : List PyData := List.zipWith (fun k d => .tuple [keyD k, d]) l ds
def evSrtI (ea : Ev) : Ev := fun env => (ea env).bind fun t env' => match t with
  | .node (.dct ks false false) ts => (match keysL ks, frzAll ts with
    | some l, some ds => if okSort (prK l ds) = true then .ok (tl (sortD (prK l ds))) env' else .fail
    | _, _ => .fail)
  | _ => .fail
theorem prsD_K : ∀ (kvs : List (Key × V)) (ds : List PyData), prsD kvs ds = prK (kvs.map (·.1)) ds
  | [], _ => rfl
  | _ :: _, [] => rfl
  | q :: kvs, d :: ds => by
    have := prsD_K kvs ds
    unfold prsD prK at this ⊢
    rw [List.map_cons, List.zipWith_cons_cons, List.zipWith_cons_cons, this]
theorem keys_inj : ∀ (xs ys : List Key), xs.map (fun k => (Sum.inl k : DK)) = ys.map (fun k => (Sum.inl k : DK)) → xs = ys
  | [], [], _ => rfl
  | [], _ :: _, h => by cases h
  | _ :: _, [], h => by cases h
  | x :: xs, y :: ys, h => by
    rw [List.map_cons, List.map_cons] at h
    injection h with h1 h2
    rw [Sum.inl.inj h1, keys_inj xs ys h2]
section
variable {X : Cx} {W : WX} {p : Bool} {k : Nat} {N : List Str} {sc : Scope} {a : Expr} {ea : Ev} {p0 pos apos mpos : Pos}
open Classical in
theorem EOk.sri (c : EOk X W k N sc) (b0 : X.mg "sorted" = none) (g0 : cGl sc "sorted" = true) (h : DE X W p a ea) (hbase : attributeBase a "items" X.env (eval a X.env) = eval a X.env) (hline : (apos.endLine == mpos.line) = true) : DE X W p (.Call (.Name "sorted" p0) [.Call (.Attribute a "items" apos) [] [] mpos] [] pos) (evSrtI ea) := by
  obtain ⟨t, h1, h2⟩ := h
  refine ⟨_, pe_srtI (p0 := p0) (pos := pos) c.calm c.u (c.gl g0) b0 h1 hbase hline (star_cons rfl), fun G H σ env ω Q r g => h2 G H σ env ω _ r ?_⟩
  unfold evSrtI at g
  cases q : ea env with
  | exc c env' =>
    rw [q] at g
    exact g
  | fail =>
    rw [q] at g
    exact g
  | ok tt env' =>
    rw [q] at g
    intro x G1 H1 ω1 S s1 r1 o1 d1 n1 k1
    simp only [R.bind] at g
    split at g
    · rename_i ks ts
      split at g
      · rename_i l ds e1 e2
        split at g
        · rename_i ok
          have ek := keysL_eq e1
          subst ek
          obtain ⟨aa, rfl⟩ : ∃ aa, x = .ref aa := by
            cases o1 with
            | node _ _ _ _ _ _ => exact ⟨_, rfl⟩
          have there := o1.there
          obtain ⟨vs, A, τ, n, gA, lo, nA, sS⟩ := own_kids o1
          obtain ⟨nd, cq, hA⟩ := n
          rcases cq with ⟨_, kvs, f1, f2, cell⟩ | ⟨z, _⟩
          · have hH : H1 aa = some (.dK kvs) := cell
            have hk : kvs.map (·.1) = l := keys_inj _ _ (by rw [List.map_map]; exact f1)
            have gs : Same G1 (fun b => if S b then H1 b else G1 b) := fun b o' e => by
              show (if S b then H1 b else G1 b) = some o'
              split
              · rename_i z
                rw [(there b z).2] at e
                cases e
              · exact e
            have sub2 : Same (fun b => if S b then H1 b else G1 b) H1 := fun b o' e => by
              have e' : (if S b then H1 b else G1 b) = some o' := e
              split at e'
              · exact e'
              · exact r1.sub b o' e'
            have hdq : DqAll X.K (fun b => if S b then H1 b else G1 b) (kvs.map (·.2)) ds := by
              obtain ⟨z1, z2⟩ := frzAll_at e2
              rw [f2]
              refine dpAll_of (lo.len.trans z1) fun j v d hv' hd' => ?_
              obtain ⟨t', y1, y2⟩ := z2 j d hd'
              have oj := lo.own j v t' hv' y1
              refine oj.read gs d y2 fun b hb => ?_
              have hb' : τ b = some j := hb
              have hS : S b := (sS b).mpr (.inr ⟨j, hb'⟩)
              show (if S b then H1 b else G1 b) = H1 b
              rw [if_pos hS]
            have hG2 : ∀ b, ¬ S b → (fun b => if S b then H1 b else G1 b) b = G1 b := fun b hb => if_neg hb
            generalize (fun b => if S b then H1 b else G1 b) = G2 at gs sub2 hdq hG2
            have hpr : prsD kvs ds = prK l ds := by rw [prsD_K, hk]
            refine ⟨aa, kvs, ds, rfl, hH, dpAll_mono sub2 _ _ hdq, by rw [hpr]; exact ok, fun as pp hal hnd hno hpp hnp => ?_⟩
            have hmem : ∀ w ∈ as.zip kvs, w.1 ∈ as := fun w hw => (List.of_mem_zip hw).1
            have hzf : (as.zip kvs).map (·.1) = as := List.map_fst_zip (by omega)
            have sG : Same G2 (layT G2 (as.zip kvs)) := layT_same fun w hw => same_free sub2 (hno _ (hmem w hw))
            have sH : Same H1 (layT H1 (as.zip kvs)) := layT_same fun w hw => hno _ (hmem w hw)
            have tH : ∀ w ∈ as.zip kvs, layT H1 (as.zip kvs) w.1 = some (.tup [kV w.2.1, w.2.2]) := layT_at (by rw [hzf]; exact hnd)
            have tG : ∀ w ∈ as.zip kvs, layT G2 (as.zip kvs) w.1 = some (.tup [kV w.2.1, w.2.2]) := layT_at (by rw [hzf]; exact hnd)
            have sub3 : Same (layT G2 (as.zip kvs)) (layT H1 (as.zip kvs)) := fun b o' e => by
              rcases layT_some e with ⟨w, w1, rfl, rfl⟩ | ⟨_, w⟩
              · exact tH w w1
              · exact sH b o' (sub2 b o' w)
            have away : ∀ b o', H1 b = some o' → b ∉ (as.zip kvs).map (·.1) := fun b o' e z => by
              rw [hzf] at z
              rw [hno b z] at e
              cases e
            have r3 : Rep X.K (layT G2 (as.zip kvs)) (layT H1 (as.zip kvs)) σ env' ω1 := r1.step (fun b o' e => sG b o' (gs b o' e)) sub3 fun b hb => by
              obtain ⟨⟨o', e⟩, gb⟩ := r1.there hb
              have nS : ¬ S b := fun z => by
                obtain ⟨j, hj⟩ := hb
                rw [d1 b z] at hj
                cases hj
              refine ⟨by rw [layT_other (away b o' e)], ?_⟩
              rw [layT_other (away b o' e), hG2 b nS]
              exact gb
            have st : Step G1 H1 (fun b => dom ω1 b ∨ S b) (layT G2 (as.zip kvs)) (layT H1 (as.zip kvs)) := ⟨fun b o' e => sG b o' (gs b o' e), fun b o' nS e => ⟨sH b o' e, fun z => by
              rw [layT_other (away b o' e), hG2 b (fun y => nS (.inr y))]
              exact z⟩⟩
            have ed : (((as.map V.ref).zip (prsD kvs ds)).mergeSort (PySem.W.dataLe false Prod.snd)).map Prod.snd = sortD (prK l ds) := by
              have e1 : (((as.map V.ref).zip (prsD kvs ds)).mergeSort (PySem.W.dataLe false Prod.snd)).map Prod.snd = sortD (((as.map V.ref).zip (prsD kvs ds)).map Prod.snd) := by
                unfold sortD
                exact PySem.W.sort_maps (r := PySem.W.dataLe false Prod.snd) (s := PySem.W.dataLe false id) Prod.snd (fun _ _ _ _ => rfl)
              have hpl : (prsD kvs ds).length ≤ (as.map V.ref).length := by
                unfold prsD
                rw [List.length_zipWith, List.length_map]
                omega
              rw [e1, List.map_snd_zip hpl, hpr]
            have hall := prs_all sG as kvs ds hdq tG
            have hd : DqAll X.K (layT G2 (as.zip kvs)) ((((as.map V.ref).zip (prsD kvs ds)).mergeSort (PySem.W.dataLe false Prod.snd)).map (·.1)) (sortD (prK l ds)) := by
              rw [← ed]
              refine dpAll_of (by rw [List.length_map, List.length_map]) fun i v d hv hd => ?_
              rw [List.getElem?_map] at hv hd
              cases z : (((as.map V.ref).zip (prsD kvs ds)).mergeSort (PySem.W.dataLe false Prod.snd))[i]? with
              | none =>
                rw [z] at hv
                cases hv
              | some b =>
                rw [z] at hv hd
                cases hv
                cases hd
                exact hall b ((List.mergeSort_perm _ _).mem_iff.mp (List.mem_of_getElem? z))
            have hp3 : layT H1 (as.zip kvs) pp = none := by
              rw [layT_other (by rw [hzf]; exact hnp)]
              exact hpp
            exact good_new g (s1.trans st n1) r3 (fun b hb => n1 b (.inl hb)) (fun z b o' e => sH b o' (k1 z b o' e)) (NewT.lst sub3 hp3 hd)
          · cases z
        · exact g.elim
      · exact g.elim
    · exact g.elim
end
end VR

/-! VX10: d[k] = e; d.get(k, e). -/
namespace VR
open PySem PySem.Spec PyProof.Rows L2
theorem putK_old {κ : Type} [DecidableEq κ] {f : κ → DK} (hf : ∀ x y, f x = f y → x = y) (k : κ) (v : V) : ∀ (kvs : List (κ × V)) (m : Nat), (kvs.map (·.1)).Nodup → ixK (kvs.map fun q => f q.1) (f k) = some m →
    (kvs.any fun kv => decide (kv.1 = k)) = true ∧ (kvs.map fun kv => if kv.1 = k then (kv.1, v) else kv).map (·.1) = kvs.map (·.1) ∧ (kvs.map fun kv => if kv.1 = k then (kv.1, v) else kv).map (·.2) = (kvs.map (·.2)).set m v
  | [], m, _, h => by cases h
  | p :: r, m, hn, h => by
    rw [List.map_cons] at hn
    obtain ⟨n1, n2⟩ := List.nodup_cons.mp hn
    unfold ixK at h
    rw [List.map_cons, List.findIdx?_cons] at h
    by_cases c : p.1 = k
    · rw [if_pos (by rw [c]; simp)] at h
      cases h
      have e : (r.map fun kv => if kv.1 = k then (kv.1, v) else kv) = r := by
        refine (List.map_congr_left fun q hq => ?_).trans (List.map_id _)
        rw [if_neg fun z => n1 (by rw [c, ← z]; exact List.mem_map.mpr ⟨q, hq, rfl⟩)]
        rfl
      refine ⟨by rw [List.any_cons, decide_eq_true c, Bool.true_or], ?_, ?_⟩
      · rw [List.map_cons, e, if_pos c]
        rfl
      · rw [List.map_cons, e, if_pos c]
        rfl
    · rw [if_neg (by simpa using fun z => c (hf _ _ z)), Option.map_eq_some_iff] at h
      obtain ⟨m', h1, rfl⟩ := h
      obtain ⟨i1, i2, i3⟩ := putK_old hf k v r m' n2 h1
      refine ⟨by rw [List.any_cons, i1, Bool.or_true], ?_, ?_⟩
      · rw [List.map_cons, List.map_cons, List.map_cons, i2, if_neg c]
      · rw [List.map_cons, List.map_cons, List.map_cons, i3, if_neg c, List.set_cons_succ]
def evPutK (i j : Nat) (ev : Ev) : Es := fun env => (ev env).st fun t env' => match env'[i]?, env'[j]? with
  | some (some (.node (.dct ks false false) ts)), some (some (.dat d)) => (match DK.of d with
    | some (.inl k) => if ts.length < 1000000 then (match ixK ks (.inl k) with
        | some m => .next (env'.set i (some (.node (.dct ks false false) (ts.set m t))))
        | none => .next (env'.set i (some (.node (.dct (ks ++ [.inl k]) false false) (ts ++ [t])))))
      else .fail
    | _ => .fail)
  | _, _ => .fail
section
variable {X : Cx} {W : WX} {p pk pf : Bool} {e o k f : Expr} {ev ek ef : Ev} {nk : Nat} {pos pos' apos cpos : Pos}
theorem ds_putK {i j : Nat} (hu : X.A.units + 1 < cLine) (ho : PE X o (tVar i)) (hk : PE X k (tVar j)) (h : DE X W p e ev) (hs : swapsWith e (some (.Subscript o k pos')) pos.line X.env = pure false) : DS X W nk (.Assign [.Subscript o k pos'] e pos) (evPutK i j ev) := by
  obtain ⟨t, h1, h2⟩ := h
  refine ⟨_, ps_dput hu ho hk h1 hs, fun G H σ env ω D r g => h2 G H σ env ω _ r ?_⟩
  unfold evPutK at g
  cases q : ev env with
  | exc c env' =>
    rw [q] at g
    exact goodX_S g
  | fail =>
    rw [q] at g
    exact g
  | ok t' env' =>
    rw [q] at g
    intro v G1 H1 ω1 S s1 r1 o1 d1 n1 _
    simp only [R.st] at g
    split at g
    · rename_i ks ts d e1 e2
      split at g
      · rename_i k' ek
        split at g
        · rename_i hsz
          obtain ⟨vd, hvd, od⟩ := r1.own i _ e1
          obtain ⟨vk, hvk, ok⟩ := r1.own j _ e2
          have hdk : Dq X.K G1 vk d := by
            cases ok with
            | dat h _ => exact h
          have hyk : vk = kV k' := inl_of hdk ek
          obtain ⟨aa, rfl⟩ : ∃ aa, vd = .ref aa := by
            cases od with
            | node _ _ _ _ _ _ => exact ⟨_, rfl⟩
          obtain ⟨vs, A, τ, nd, gA, l, nA, sS⟩ := own_kids od
          obtain ⟨nk', q2, hA⟩ := id nd
          obtain ⟨kvs, ek1, ek2, cell⟩ : ∃ kvs : List (Key × V), kvs.map (fun q => (Sum.inl q.1 : DK)) = ks ∧ kvs.map (·.2) = vs ∧ H1 aa = some (.dK kvs) := by
            rcases q2 with ⟨_, kvs, w1, w2, w3⟩ | ⟨z, _⟩
            · exact ⟨kvs, w1, w2, w3⟩
            · cases z
          have hlen : kvs.length = ts.length := by
            have z := l.len
            rw [← ek2, List.length_map] at z
            exact z
          have haω : ω1 aa = some i := (sS aa).mpr (.inl ((hA aa).mpr rfl))
          have hGa : G1 aa = none := gA aa ((hA aa).mpr rfl)
          have haS : ∀ b, S b → b ≠ aa := fun b hb z => by
            have w := d1 b hb
            rw [z, haω] at w
            cases w
          have haτ : ∀ b, dom τ b → b ≠ aa := fun b ⟨m, hm⟩ z => by
            have w := nA aa ((hA aa).mpr rfl)
            rw [← z, hm] at w
            cases w
          have hi : i < env'.length := (List.getElem?_eq_some_iff.mp e1).1
          refine ⟨.ref aa, hvd, vk, hvk, aa, upd H1 aa (.dK (putK kvs k' v)), rfl, by rw [hyk]; exact DPut.k cell (by rw [hlen, sizeLine_eq]; omega), ?_⟩
          generalize hH4 : upd H1 aa (.dK (putK kvs k' v)) = H4
          have hne : ∀ b, b ≠ aa → H4 b = H1 b := fun b hb => by rw [← hH4]; exact upd_ne hb
          have haa : H4 aa = some (.dK (putK kvs k' v)) := by rw [← hH4]; exact upd_same
          have l4 : OwnL X.K G1 H4 vs ts τ := l.step (fun _ _ z => z) fun b hb => ⟨hne b (haτ b hb), (l.there hb).2⟩
          have o4 : Own X.K G1 H4 v t' S := o1.step (fun _ _ z => z) fun b hb => ⟨hne b (haS b hb), (o1.there b hb).2⟩
          have dS : ∀ b, S b → τ b = none := fun b hb => by
            cases w : τ b with
            | none => rfl
            | some m =>
              have z := (sS b).mpr (.inr ⟨m, w⟩)
              have y := d1 b hb
              have z' : ω1 b = some i := z
              rw [y] at z'
              cases z'
          have sub4 : Same G1 H4 := fun b ob z => by
            have w : b ≠ aa := fun y => by
              rw [y, hGa] at z
              cases z
            rw [hne b w]
            exact r1.sub b ob z
          have s4 : Step G H (dom ω) G1 H4 := s1.trans (S1 := dom ω1) ⟨fun _ _ z => z, fun b ob hb z => ⟨by
            have w : b ≠ aa := fun y => hb ⟨i, by rw [y]; exact haω⟩
            rw [hne b w]
            exact z, fun w => w⟩⟩ (dom_new n1)
          have fin : ∀ (ks' : List DK) (vs' : List V) (ts' : List T) (τ5 : Own3), NodeAt X.K H4 aa (.dct ks' false false) vs' (fun b => b = aa) → OwnL X.K G1 H4 vs' ts' τ5 → (∀ b, dom τ5 b → dom τ b ∨ S b) → ∃ ω' : Own3, Rep X.K G1 H4 σ (env'.set i (some (.node (.dct ks' false false) ts'))) ω' ∧ New H (dom ω) (dom ω') := fun ks' vs' ts' τ5 nd5 l5 d5 => by
            have ot5 := own_of_kids (G := G1) nd5 (fun b hb => by rw [hb]; exact hGa) l5 fun b hb => by
              cases w : τ5 b with
              | none => rfl
              | some m =>
                rcases d5 b ⟨m, w⟩ with z | z
                · exact absurd hb (haτ b z)
                · exact absurd hb (haS b z)
            obtain ⟨ω', r', d'⟩ := r1.mut hi hvd ot5 (fun b hb => by
              rcases hb with rfl | hb
              · exact .inl haω
              · rcases d5 b hb with z | z
                · exact .inl ((sS b).mpr (.inr z))
                · exact .inr (d1 b z)) (fun b _ hb2 => hne b fun z => hb2 (by rw [z]; exact haω)) sub4
            refine ⟨ω', r', fun b hb => ?_⟩
            rcases d' b hb with (rfl | z) | z
            · exact n1 _ (.inl ⟨i, haω⟩)
            · rcases d5 b z with w | w
              · exact n1 b (.inl ⟨i, (sS b).mpr (.inr w)⟩)
              · exact n1 b (.inr w)
            · exact n1 b (.inl z.1)
          have nk2 : (kvs.map (·.1)).Nodup := by
            have z : (kvs.map (fun q => (Sum.inl q.1 : DK))).Nodup := by rw [ek1]; exact nk'
            exact List.pairwise_map.mpr (List.Pairwise.imp (fun {a b} w e => w (by rw [e])) (List.pairwise_map.mp z))
          have mm : ∀ xs : List (Key × V), xs.map (fun q => (Sum.inl q.1 : DK)) = (xs.map (·.1)).map fun x => (Sum.inl x : DK) := fun xs => by
            rw [List.map_map]
            rfl
          have hix := valV_ix (f := fun x => (Sum.inl x : DK)) (fun x y z => Sum.inl.inj z) k' kvs
          rw [ek1, ek2] at hix
          cases hj : ixK ks (.inl k') with
          | some m =>
            rw [hj] at g
            simp only at g
            have hj' : ixK (kvs.map fun q => (Sum.inl q.1 : DK)) (Sum.inl k') = some m := by rw [ek1]; exact hj
            obtain ⟨p1, p2, p3⟩ := putK_old (f := fun x => (Sum.inl x : DK)) (fun x y z => Sum.inl.inj z) k' v kvs m nk2 hj'
            have hm : m < ts.length := by
              obtain ⟨hjl, _⟩ := List.findIdx?_eq_some_iff_getElem.mp hj
              rw [← ek1, List.length_map, hlen] at hjl
              exact hjl
            have hput : putK kvs k' v = kvs.map (fun kv => if kv.1 = k' then (kv.1, v) else kv) := by
              unfold putK
              rw [if_pos p1]
            obtain ⟨τ5, l5, d5⟩ := l4.set hm o4 dS
            obtain ⟨ω', r', n'⟩ := fin ks (vs.set m v) (ts.set m t') τ5 ⟨nk', .inl ⟨rfl, putK kvs k' v, by
              rw [hput, mm, p2, ← mm]
              exact ek1, by rw [hput, p3, ek2], haa⟩, fun b => Iff.rfl⟩ l5 d5
            exact g σ G1 H4 ω' s4 r' n' .refl
          | none =>
            rw [hj] at g
            simp only at g
            have hnone : valV kvs k' = none := by
              rw [← hix, hj]
              rfl
            have hput := putK_new v hnone
            obtain ⟨τ5, l5, d5⟩ := l4.snoc o4 dS
            have nkn : (ks ++ [Sum.inl k']).Nodup := by
              refine List.nodup_append.mpr ⟨nk', List.nodup_cons.mpr ⟨List.not_mem_nil, List.nodup_nil⟩, fun x hx y hy z => ?_⟩
              rw [List.mem_singleton] at hy
              rw [z, hy] at hx
              exact ixK_none hj hx
            obtain ⟨ω', r', n'⟩ := fin (ks ++ [.inl k']) (vs ++ [v]) (ts ++ [t']) τ5 ⟨nkn, .inl ⟨rfl, putK kvs k' v, by rw [hput, List.map_append, ek1]; rfl, by rw [hput, List.map_append, ek2]; rfl, haa⟩, fun b => Iff.rfl⟩ l5 fun b hb => (d5 b).mp hb
            exact g σ G1 H4 ω' s4 r' n' .refl
        · exact g.elim
      · exact g.elim
    · exact g.elim
def evGet (i : Nat) (ek ef : Ev) : Ev := fun env => match env[i]? with
  | some (some (.node (.dct _ false false) _)) => (ek env).bind fun kt env1 => (ef env1).bind fun dt env2 => (match env2[i]?, kt.frz.bind DK.of with
    | some (some (.node (.dct ks false false) ts)), some (.inl k) => (match ixK ks (.inl k) with
      | some m => (match ts[m]? with
        | some t => .ok t env2
        | none => .fail)
      | none => .ok dt env2)
    | _, _ => .fail)
  | _ => .fail
theorem dp_get {i : Nat} (hu : X.A.units + 1 < cLine) (ho : PE X o (tVar i)) (hk : DP X W pk k ek) (hf : DE X W pf f ef) (m : M2 X o "get" apos k f cpos) : DP X W (pk && pf) (.Call (.Attribute o "get" apos) [k, f] [] cpos) (evGet i ek ef) := by
  obtain ⟨tk, k1, k2⟩ := hk
  obtain ⟨tf, f1, f2⟩ := hf
  refine ⟨_, pe_dget2 hu ho k1 f1 m, fun G H σ env ω Q r g => ?_⟩
  unfold evGet at g
  split at g
  · rename_i ks0 ts0 ht0
    obtain ⟨v, hv, o0⟩ := r.own i _ ht0
    obtain ⟨aa, rfl⟩ : ∃ aa, v = .ref aa := by
      cases o0 with
      | node _ _ _ _ _ _ => exact ⟨_, rfl⟩
    refine ⟨.ref aa, hv, aa, rfl, ?_, ?_⟩
    · obtain ⟨vs, A, τ, n, _⟩ := own_kids o0
      obtain ⟨_, q, _⟩ := n
      rcases q with ⟨_, kvs, _, _, z⟩ | ⟨_, kvs, _, _, z⟩
      · exact .inl ⟨kvs, .inl z⟩
      · exact .inr ⟨kvs, .inl z⟩
    refine k2 G H σ env ω _ r ?_
    cases q : ek env with
    | exc c env1 =>
      rw [q] at g
      exact g
    | fail =>
      rw [q] at g
      exact g
    | ok kt env1 =>
      rw [q] at g
      simp only [R.bind] at g
      intro y G1 H1 ω1 s1 r1 o1 n1 k1'
      refine f2 G1 H1 σ env1 ω1 _ r1 ?_
      cases q2 : ef env1 with
      | exc c env2 =>
        rw [q2] at g
        exact goodX_step s1 n1 g
      | fail =>
        rw [q2] at g
        exact g
      | ok dt env2 =>
        rw [q2] at g
        simp only at g
        intro z G2 H2 ω2 S s2 r2 o2 d2 n2 k2'
        split at g
        · rename_i ks ts k' e1 e2
          have hyk : y = kV k' := by
            cases w : kt.frz with
            | none =>
              rw [w] at e2
              cases e2
            | some d =>
              rw [w] at e2
              exact inl_of (o1.dq r1.sub w) e2
          obtain ⟨v', hv', od⟩ := r2.own i _ e1
          rw [hv] at hv'
          cases hv'
          obtain ⟨vs, A, τ, nd, gA, l, nA, sS⟩ := own_kids od
          obtain ⟨nk', q3, hA⟩ := id nd
          obtain ⟨kvs, ek1, ek2, cell⟩ : ∃ kvs : List (Key × V), kvs.map (fun q => (Sum.inl q.1 : DK)) = ks ∧ kvs.map (·.2) = vs ∧ H2 aa = some (.dK kvs) := by
            rcases q3 with ⟨_, kvs, w1, w2, w3⟩ | ⟨z, _⟩
            · exact ⟨kvs, w1, w2, w3⟩
            · cases z
          have hix := valV_ix (f := fun x => (Sum.inl x : DK)) (fun x y z => Sum.inl.inj z) k' kvs
          rw [ek1, ek2] at hix
          refine ⟨valV kvs k', by rw [hyk]; exact DGet.k cell, ?_⟩
          have st : Step G H (dom ω) G2 H2 := s1.trans s2 n1
          have nn : New H (dom ω) (dom ω2) := New.trans s1 n1 (dom_new n2)
          have kk : (pk && pf) = true → Same H H2 := same_and k1' k2'
          cases hj : ixK ks (.inl k') with
          | some m =>
            rw [hj] at g hix
            simp only at g
            simp only [Option.bind_some] at hix
            split at g
            · rename_i t ht
              have hm : m < vs.length := by
                rw [l.len]
                exact (List.getElem?_eq_some_iff.mp ht).1
              rw [List.getElem?_eq_getElem hm] at hix
              rw [← hix]
              exact g _ G2 H2 ω2 st r2 (l.own m _ t (List.getElem?_eq_getElem hm) ht).vw nn kk
            · exact g.elim
          | none =>
            rw [hj] at g hix
            simp only at g
            rw [← hix]
            exact g z G2 H2 ω2 st r2 o2.vw nn kk
        · exact g.elim
  · exact g.elim
end
section
variable {X : Cx} {W : WX} {p pk pf : Bool} {e f : Expr} {ev ek ef : Ev} {nk n : Nat} {N : List Str} {sc : Scope} {pos pos' p0 p1 apos cpos : Pos}
theorem SOk.putK (c : SOk X W n N sc) {i j : Nat} {x y : Str} (hx : cVar N sc i x = true) (hy : cVar N sc j y = true) (hn : noLc e = true) (h : DE X W p e ev) : DS X W nk (.Assign [.Subscript (.Name x p0) (.Name y p1) pos'] e pos) (evPutK i j ev) :=
  ds_putK (by have := c.u; omega) (c.vr hx) (c.vr hy) h (swaps_no hn)
theorem EOk.get (c : EOk X W n N sc) {i : Nat} {o k : Expr} (ho : PE X o (tVar i)) (hk : DP X W pk k ek) (hf : DE X W pf f ef) (m : M2 X o "get" apos k f cpos) : DP X W (pk && pf) (.Call (.Attribute o "get" apos) [k, f] [] cpos) (evGet i ek ef) :=
  dp_get (by have := c.u; omega) ho hk hf m
end
end VR

/-! VX11: sorted(d). -/
namespace VR
open PySem PySem.Spec PyProof.Rows L2
open PySem.W (Datum DatumOrd)
theorem strLt (a b : Str) : DatumOrd.lt a b = ltCps a.cps.toList b.cps.toList := (ltCps_eq _ _).symm
theorem strNeg {x z : Str} (y : Str) (h : DatumOrd.lt x z = true) : DatumOrd.lt x y = true ∨ DatumOrd.lt y z = true := by
  rw [← DatumOrd.lt_eq] at h
  rw [← DatumOrd.lt_eq, ← DatumOrd.lt_eq]
  exact lex_negTrans _ _ _ h
theorem strTot {x y : Str} (h1 : DatumOrd.lt x y = false) (h2 : DatumOrd.lt y x = false) : x = y := by
  rw [← DatumOrd.lt_eq] at h1 h2
  have e := lex_total _ _ h1 h2
  have q := (PySem.W.toks_eqv _ _ (DatumOrd.alike x y)).2
  by_cases c : x = y
  · exact c
  · have w := q (by rw [Datum.eqv]; exact decide_eq_false c) [] [Sum.inl 0]
    rw [e, List.append_nil, ← List.append_nil (PySem.W.keyToks (Datum.toD y)), List.append_assoc, PySem.W.lex_pre, PySem.W.lex_pre] at w
    exact absurd w (by decide)
theorem strAs {x y : Str} (h : DatumOrd.lt x y = true) : DatumOrd.lt y x = false := by
  cases q : DatumOrd.lt y x with
  | false => rfl
  | true =>
    rw [← DatumOrd.lt_eq] at h q
    have z := lex_trans _ _ _ h q
    have w := PySem.W.dataLt_self (Datum.toD x)
    exact absurd (w.symm.trans z) (by decide)
theorem rising_pw : ∀ (l : List Str) (p : Str), risingS p l = true → (p :: l).Pairwise fun a b : Str => DatumOrd.lt b a = false
  | [], p, _ => List.pairwise_singleton _ _
  | x :: r, p, h => by
    have h' : (!ltCps x.cps.toList p.cps.toList && risingS x r) = true := h
    rw [Bool.and_eq_true] at h'
    obtain ⟨h1, h2⟩ := h'
    have ih := rising_pw r x h2
    have hxp : DatumOrd.lt x p = false := by
      rw [strLt]
      simpa using h1
    refine List.pairwise_cons.mpr ⟨fun b hb => ?_, ih⟩
    rcases List.mem_cons.mp hb with rfl | hb
    · exact hxp
    · have hbx := (List.pairwise_cons.mp ih).1 b hb
      cases q : DatumOrd.lt b p with
      | false => rfl
      | true =>
        rcases strNeg x q with z | z
        · rw [hbx] at z
          cases z
        · rw [hxp] at z
          cases z
theorem sortedS_pw : ∀ ys : List Str, sortedS ys = true → ys.Pairwise fun a b : Str => DatumOrd.lt b a = false
  | [], _ => .nil
  | x :: r, h => rising_pw r x h
theorem sortS_eq {xs ys : List Str} (hp : ys.Perm xs) (hs : sortedS ys = true) : sortD (xs.map PyData.str) = ys.map PyData.str := by
  have e : sortD (xs.map PyData.str) = (xs.mergeSort fun x y : Str => !DatumOrd.lt y x).map PyData.str := by
    unfold sortD
    refine (PySem.W.sort_maps (r := fun x y : Str => !DatumOrd.lt y x) (s := PySem.W.dataLe false id) (f := PyData.str) fun a _ b _ => ?_).symm
    show (!DatumOrd.lt b a) = !PySem.W.dataLt (Datum.toD b) (Datum.toD a)
    rw [DatumOrd.lt_eq]
  rw [e]
  congr 1
  have pw := List.pairwise_mergeSort (le := fun x y : Str => !DatumOrd.lt y x) (fun a b c h1 h2 => by
    simp only [Bool.not_eq_true'] at h1 h2 ⊢
    cases q : DatumOrd.lt c a with
    | false => rfl
    | true =>
      rcases strNeg b q with z | z
      · rw [h2] at z
        cases z
      · rw [h1] at z
        cases z) (fun a b => by
    cases q : DatumOrd.lt b a with
    | false => rfl
    | true =>
      rw [strAs q]
      rfl) xs
  refine List.Perm.eq_of_pairwise (le := fun a b : Str => DatumOrd.lt b a = false) (fun a b _ _ h1 h2 => strTot h2 h1) (List.Pairwise.imp (fun {a b} z => by simpa using z) pw) (sortedS_pw ys hs) ((List.mergeSort_perm ..).trans hp.symm)
def txtK : List Key → Option (List Str)
  | [] => some []
  | .inr x :: l => (txtK l).map (x :: ·)
  | .inl _ :: _ => none
theorem txtK_eq : ∀ {l : List Key} {xs : List Str}, txtK l = some xs → l = xs.map Sum.inr
  | [], xs, h => by
    cases h
    rfl
  | .inr x :: l, xs, h => by
    rw [txtK, Option.map_eq_some_iff] at h
    obtain ⟨ys, h1, rfl⟩ := h
    rw [txtK_eq h1]
    rfl
  | .inl _ :: _, _, h => by cases h
def srdL (l : List Key) : Option T := (txtK l).bind fun xs => if xs.length < 64 then some (tl (sortD (xs.map PyData.str))) else none
def srdT : T → Option T
  | .node (.dct ks false false) _ => (keysL ks).bind srdL
  | .fdc l _ => srdL l
  | _ => none
theorem dqS {K : PySem.W.Frag} {G : Hp} : ∀ ys : List Str, DqAll K G (ys.map V.str) (ys.map PyData.str)
  | [] => .nil
  | y :: ys => .cons (.str y) (dqS ys)
section
variable {X : Cx} {W : WX} {k nk : Nat} {N : List Str} {sc : Scope} {p : Bool} {a : Expr} {ea : Ev} {pos p0 : Pos}
theorem cr_srd (hc : X.calm = true) : CallR X (.builtin "sorted") (r1 X.K srdT) := by
  intro pins s σ H xs us Q I r h
  obtain ⟨G, x, t, r', rfl, sg, h1, e, kk⟩ := h
  have main : ∀ (aa : Addr) (kvs : List (Key × V)), Rd H aa (.dK kvs) → srdL (kvs.map (·.1)) = some r' → x = .ref aa → wpAny (model X.prog X.w) X.A (call (.builtin "sorted") us) (EP X pins σ Q) X.xe s := fun aa kvs rd hr hx => by
    subst hx
    unfold srdL at hr
    cases hq : txtK (kvs.map (·.1)) with
    | none =>
      rw [hq] at hr
      cases hr
    | some zs =>
      rw [hq] at hr
      simp only [Option.bind_some] at hr
      split at hr
      · rename_i hl
        cases hr
        refine call_sortedD hc pins s σ H _ us Q I r ⟨aa, kvs, zs, rfl, rd, txtK_eq hq, hl, fun ys pp hp hs hn => ?_⟩
        rw [sortS_eq hp hs] at kk
        exact kk _ _ _ (.lst sg hn (dqS ys))
      · cases hr
  unfold srdT at e
  split at e
  · rename_i ks ts
    cases h1 with
    | @node aa _ vs _ A n l ch =>
      obtain ⟨nd, q, hA⟩ := n
      rcases q with ⟨_, kvs, e1, e2, cell⟩ | ⟨z, _⟩
      · rw [← e1] at e
        have hk : keysL (kvs.map fun q => (Sum.inl q.1 : DK)) = some (kvs.map (·.1)) := by
          clear e1 e2 cell e main
          induction kvs with
          | nil => rfl
          | cons q l ih =>
            rw [List.map_cons, keysL, ih]
            rfl
        rw [hk] at e
        exact main aa kvs (.inl cell) e rfl
      · cases z
  · rename_i l ds
    have h2 := h1.fdcn sg
    cases h2 with
    | @node aa _ vs _ A n l' ch =>
      obtain ⟨nd, q, hA⟩ := n
      rcases q with ⟨_, kvs, e1, e2, cell⟩ | ⟨z, _⟩
      · have hk : kvs.map (·.1) = l := keys_inj _ _ (by rw [List.map_map]; exact e1)
        rw [← hk] at e
        obtain ⟨o, ho⟩ : ∃ o, H aa = some (.frz o (.dK kvs)) := cell
        exact main aa kvs (.inr ⟨o, ho⟩) e rfl
      · cases z
  · cases e
theorem EOk.srd (c : EOk X W k N sc) (b : X.mg "sorted" = none) (g : cGl sc "sorted" = true) (h : DP X W p a ea) (hs : noStar a = true) : DE X W p (.Call (.Name "sorted" p0) [a] [] pos) (evB1 srdT ea) := de_b1 (cr_srd c.calm) (c.gl g) b rfl (cGl_name g).1 (cGl_name g).2 hs h
end
end VR

/-! VX12: zip of lists and tuples, mixed. -/
namespace VR
open PySem PySem.Spec PyProof.Rows L2
def SqX (K : PySem.W.Frag) (t : Bool) (H : Hp) (a : Addr) (xs : List V) : Prop := if t = true then SqT K H a xs else SqL K H a xs
def IterX (t : Bool) (h : Heap) (it a : Addr) (i : Nat) : Prop := if t = true then h.IsTupleIter it a i else h.IsListIter it a i
def SeqX (t : Bool) (h : Heap) (a : Addr) (its : Array Value) : Prop := if t = true then h.IsTuple a its else h.IsList a its
def itObj (t : Bool) (a : Addr) : Obj := { cls := .type (if t = true then "tuple_iterator" else "list_iterator"), data := .fields #[.ref a, .int 0 0] }
section
variable {prog : Program} {w : World} {A : Around}
theorem draws_x (t : Bool) (hh : A.handled = none) (it a : Addr) (hne : a ≠ it) (items : Array Value) : Draws prog w A it [it, a] items.size (fun i v => items[i]? = some v) (fun i h => IterX t h it a i ∧ SeqX t h a items) := by
  cases t
  · exact Draws.list hh it a hne items
  · exact Draws.tuple hh it a hne items
theorem begins_x (t : Bool) (a : Addr) (items : Array Value) : Begins (.ref a) (itObj t a) fun h => SeqX t h a items := by
  cases t
  · exact begins_list a items
  · exact begins_tuple a items
theorem iterX_new (t : Bool) {h : Heap} {it a : Addr} (e : h.get? it = some (itObj t a)) : IterX t h it a 0 := by
  cases t
  · exact ⟨_, e, rfl, rfl⟩
  · exact ⟨_, e, rfl, rfl⟩
theorem iterX_at (t : Bool) {h h' : Heap} {it a : Addr} {i : Nat} (x : IterX t h it a i) (k : ∀ o, h.get? it = some o → h'.get? it = some o) : IterX t h' it a i := by
  cases t
  · obtain ⟨o, e, r⟩ := (show h.IsListIter it a i from x)
    exact ⟨o, k o e, r⟩
  · obtain ⟨o, e, r⟩ := (show h.IsTupleIter it a i from x)
    exact ⟨o, k o e, r⟩
theorem iterX_obj (t : Bool) {h : Heap} {it a : Addr} {i : Nat} (x : IterX t h it a i) : ∃ o, h.get? it = some o ∧ ∀ v, o.data ≠ .cell v := by
  cases t
  · obtain ⟨o, e, _, d⟩ := (show h.IsListIter it a i from x)
    exact ⟨o, e, fun v q => by rw [d] at q; cases q⟩
  · obtain ⟨o, e, _, d⟩ := (show h.IsTupleIter it a i from x)
    exact ⟨o, e, fun v q => by rw [d] at q; cases q⟩
end
section
variable {X : Cx} {pins : List (Addr × Obj)} {σ : L2.St} {H : Hp} {s : Shared} {a : Addr} {xs : List V}
theorem inv_seqX (t : Bool) (I : Inv X pins σ H s) (h : SqX X.K t H a xs) : ∃ its : List Value, Vals xs its ∧ SeqX t s.heap a its.toArray := by
  cases t
  · obtain ⟨its, rv, hl, _⟩ := I.list h
    exact ⟨its, rv, hl.isList⟩
  · obtain ⟨its, rv, hl, _⟩ := I.tuple h
    exact ⟨its, rv, hl⟩
theorem seqX_lt (t : Bool) {h : Heap} {its : Array Value} (x : SeqX t h a its) : a < h.objs.size := by
  cases t
  · obtain ⟨o, e, _⟩ := (show h.IsList a its from x)
    exact Heap.lt_size e
  · obtain ⟨o, e, _⟩ := (show h.IsTuple a its from x)
    exact Heap.lt_size e
end
def ItzX (K : PySem.W.Frag) (t1 t2 : Bool) (a b : Addr) (xs ys : List V) : It :=
  ⟨fun i H => SqX K t1 H a xs ∧ SqX K t2 H b ys ∧ i < min xs.length ys.length,
    fun i H v H' => ∃ T x y, v = .ref T ∧ H T = none ∧ H' = upd H T (.tup [x, y]) ∧ xs[i]? = some x ∧ ys[i]? = some y,
    fun i H => SqX K t1 H a xs ∧ SqX K t2 H b ys ∧ min xs.length ys.length ≤ i⟩
theorem turn_zipX {P : Program} {w : World} {K : PySem.W.Frag} {elts : List Expr} {kk : Nat} {tpos : Pos} {t1 t2 : Bool} {a b z TI TO i1 i2 : Addr} {xs ys : List V} (S : ZipSep2 z TI TO i1 i2 [i1, a] [i2, b]) (ha : a ≠ i1) (hb : b ≠ i2) :
    Turn P w K (.Tuple elts kk tpos) (ItzX K t1 t2 a b xs ys) [z, TI, TO, i1, i2] z (fun i h => i ≤ min xs.length ys.length ∧ IsZip h z TI TO .none ∧ IsTupOf2 h TI (.ref i1) (.ref i2) ∧ (∃ x y, IsTupOf2 h TO x y) ∧ IterX t1 h i1 a i ∧ IterX t2 h i2 b i) where
  mem := by simp
  obj := fun i h st c hc => by
    obtain ⟨_, hz, hTI, ⟨x, y, hTO⟩, h1, h2⟩ := st
    have e' : c = z ∨ c = TI ∨ c = TO ∨ c = i1 ∨ c = i2 := by simpa using hc
    rcases e' with rfl | rfl | rfl | rfl | rfl
    · exact ⟨_, hz, fun v q => nomatch q⟩
    · exact ⟨_, hTI, fun v q => nomatch q⟩
    · exact ⟨_, hTO, fun v q => nomatch q⟩
    · exact iterX_obj t1 h1
    · exact iterX_obj t2 h2
  keep := fun i h h' st k => by
    obtain ⟨hi, hz, hTI, ⟨x, y, hTO⟩, h1, h2⟩ := st
    exact ⟨hi, k z (by simp) _ hz, k TI (by simp) _ hTI, ⟨x, y, k TO (by simp) _ hTO⟩, iterX_at t1 h1 fun o q => k i1 (by simp) o q, iterX_at t2 h2 fun o q => k i2 (by simp) o q⟩
  item := by
    intro X hP hw hK hc i pins s σ H E I hf st hg
    subst hP hw hK
    obtain ⟨hi, hz, hTI, hTO, h1, h2⟩ := st
    obtain ⟨q1, q2, hlt⟩ := hg
    obtain ⟨its1, r1, e1⟩ := inv_seqX t1 I q1
    obtain ⟨its2, r2, e2⟩ := inv_seqX t2 I q2
    have l1 := r1.length
    have l2 := r2.length
    have hh : X.A.in1.handled = none := I.ok.hd hc
    have lt1 : i < its1.toArray.size := by rw [List.size_toArray]; omega
    have lt2 : i < its2.toArray.size := by rw [List.size_toArray]; omega
    have W := GoesN.zip2 (prog := X.prog) (w := X.w) (A := X.A) (elts := elts) (x1 := kk) (pos := tpos) S (draws_x t1 hh i1 a ha its1.toArray) (draws_x t2 hh i2 b hb its2.toArray)
    refine W.goes i s _ E (by omega) ⟨hz, hTI, hTO, ⟨h1, e1⟩, ⟨h2, e2⟩⟩ fun v h' tk hY st' hk htk => ?_
    obtain ⟨T, u1, u2, rfl, hT, g1, g2, hTup⟩ := hY
    obtain ⟨hz', hTI', hTO', ⟨h1', _⟩, ⟨h2', _⟩⟩ := st'
    have hx1 : i < xs.length := by omega
    have hx2 : i < ys.length := by omega
    obtain ⟨w1, hw1, rw1⟩ := r1.get (List.getElem?_eq_getElem hx1)
    obtain ⟨w2, hw2, rw2⟩ := r2.get (List.getElem?_eq_getElem hx2)
    have eu1 : w1 = u1 := by
      rw [List.getElem?_toArray] at g1
      rw [hw1] at g1
      exact Option.some.inj g1
    have eu2 : w2 = u2 := by
      rw [List.getElem?_toArray] at g2
      rw [hw2] at g2
      exact Option.some.inj g2
    subst eu1 eu2
    have hTs : ∀ c ∈ [z, TI, TO, i1, i2], c ≠ T := fun c hcm e => by
      have lt : c < s.heap.objs.size := by
        have e' : c = z ∨ c = TI ∨ c = TO ∨ c = i1 ∨ c = i2 := by simpa using hcm
        rcases e' with rfl | rfl | rfl | rfl | rfl
        · exact Heap.lt_size hz
        · exact Heap.lt_size hTI
        · obtain ⟨_, _, q⟩ := hTO
          exact Heap.lt_size q
        · obtain ⟨o, q, _⟩ := iterX_obj t1 h1
          exact Heap.lt_size q
        · obtain ⟨o, q, _⟩ := iterX_obj t2 h2
          exact Heap.lt_size q
      rw [e] at lt
      exact absurd (Nat.lt_of_lt_of_le lt hT) (Nat.lt_irrefl _)
    have new : ObjOk X.prog X.w (upd H T (.tup [xs[i], ys[i]])) h' T (.tup [xs[i], ys[i]]) := ⟨by show 2 ≤ sizeLine; decide, [w1, w2], .cons rw1 (.cons rw2 .nil), hTup⟩
    have I1 : Inv X pins σ (upd H T (.tup [xs[i], ys[i]])) { s with heap := h', toks := tk } := I.turnedNew (t' := tk) (ch := [z, TI, TO, i1, i2]) (fun c o hcn q => hk c o (fun m => hcn (by
      have m' : c = z ∨ c = TO ∨ c = i1 ∨ c = i2 := by simpa using m
      rcases m' with rfl | rfl | rfl | rfl <;> simp)) q) hf hT new
    refine ⟨.ref T, _, I1, rfl, ⟨T, xs[i], ys[i], rfl, I.hok.fresh hT, rfl, List.getElem?_eq_getElem hx1, List.getElem?_eq_getElem hx2⟩, ⟨by omega, hz', hTI', hTO', h1', h2'⟩, fun c hcm => ?_⟩
    rw [upd_ne (hTs c hcm)]
    exact (hf c hcm).1
  done := by
    intro X hP hw hK hc i pins s σ H E I hf st hg
    subst hP hw hK
    obtain ⟨hi, hz, hTI, hTO, h1, h2⟩ := st
    obtain ⟨q1, q2, hge⟩ := hg
    obtain ⟨its1, r1, e1⟩ := inv_seqX t1 I q1
    obtain ⟨its2, r2, e2⟩ := inv_seqX t2 I q2
    have l1 := r1.length
    have l2 := r2.length
    have hh : X.A.in1.handled = none := I.ok.hd hc
    have W := GoesN.zip2 (prog := X.prog) (w := X.w) (A := X.A) (elts := elts) (x1 := kk) (pos := tpos) S (draws_x t1 hh i1 a ha its1.toArray) (draws_x t2 hh i2 b hb its2.toArray)
    have en : i = min its1.toArray.size its2.toArray.size := by
      rw [List.size_toArray, List.size_toArray]
      omega
    subst en
    refine W.stops s _ E ⟨hz, hTI, hTO, ⟨h1, e1⟩, ⟨h2, e2⟩⟩ fun h' tk hk htk => ?_
    exact I.turnedL (t' := tk) (ch := [z, TI, TO, i1, i2]) (fun c o hcn q => hk c o (fun m => hcn (by
      have m' : c = z ∨ c = TO ∨ c = i1 ∨ c = i2 := by simpa using m
      rcases m' with rfl | rfl | rfl | rfl <;> simp)) q) hf
  self := fun A i s Q E st h => wpAny_pyIter_zip st.2.1 h
def iZipX (K : PySem.W.Frag) (ta : TA) : TI := fun σ H R => ta σ H fun vs H1 => ∃ t1 t2 a b xs ys, vs = [.ref a, .ref b] ∧ SqX K t1 H1 a xs ∧ SqX K t2 H1 b ys ∧ R (ItzX K t1 t2 a b xs ys) H1
theorem pi_zipX {X : Cx} {e e2 : Expr} {ta : TA} {p pos tpos : Pos} {elts : List Expr} {kk : Nat} (hg : Gl X "zip") (hm : X.mg "zip" = none) (hp : PA X [e, e2] ta)
    (hs : starEach [e, e2] X.env = (false, eval e X.env) :: starEach [e2] X.env) (hpl : (backTo pos (starEach [e2] X.env)).any (·.1) = false) :
    PI X (.Tuple elts kk tpos) (.Call (.Name "zip" p) [e, e2] [] pos) (iZipX X.K ta) := by
  refine ⟨fun pins s σ H R I h => Call_ (ld_blt I hg hm PyProof.Rows.boot_zip (PyProof.Rows.callWith_type1 (thn (hp.run pos pins s σ H _ I h) fun us s1 ⟨vs, H1, I1, rr, qq⟩ => ?_) hs hpl))⟩
  obtain ⟨t1, t2, a, b, xs, ys, rfl, q1, q2, hR⟩ := qq
  cases rr with
  | cons ra rr =>
    cases rr with
    | cons rb rr =>
      cases rr
      cases ra
      cases rb
      obtain ⟨its1, r1, e1⟩ := inv_seqX t1 I1 q1
      obtain ⟨its2, r2, e2⟩ := inv_seqX t2 I1 q2
      have la := seqX_lt t1 e1
      have lb := seqX_lt t2 e2
      refine zip_begins2 (begins_x t1 a its1.toArray) (begins_x t2 b its2.toArray) e1 e2 fun h' hz hTI hTO g1 g2 hsz hk => wpAny_pyIter_zip hz ?_
      have I2 : Inv X pins σ H1 { s1 with heap := h' } := I1.kept (t' := s1.toks) hk
      have fresh : ∀ c, c ∈ [s1.heap.objs.size + 4, s1.heap.objs.size + 2, s1.heap.objs.size + 3, s1.heap.objs.size, s1.heap.objs.size + 1] → FpOk X pins H1 c := fun c hcm => by
        have hle : s1.heap.objs.size ≤ c := by
          have e' : c = s1.heap.objs.size + 4 ∨ c = s1.heap.objs.size + 2 ∨ c = s1.heap.objs.size + 3 ∨ c = s1.heap.objs.size ∨ c = s1.heap.objs.size + 1 := by simpa using hcm
          rcases e' with z | z | z | z | z <;> rw [z] <;> first | exact Nat.le_refl _ | exact Nat.le_add_right _ _
        exact I1.fpOk hle (I1.hok.fresh hle)
      exact ⟨s1.heap.objs.size + 4, [s1.heap.objs.size + 4, s1.heap.objs.size + 2, s1.heap.objs.size + 3, s1.heap.objs.size, s1.heap.objs.size + 1], _, _, H1, rfl, I2, turn_zipX (t1 := t1) (t2 := t2) (xs := xs) (ys := ys) (zip_sep2 (N := s1.heap.objs.size) (fp1 := [a]) (fp2 := [b]) (fun c hc => by rw [List.mem_singleton.mp hc]; exact la) (fun c hc => by rw [List.mem_singleton.mp hc]; exact lb)) (Nat.ne_of_lt la) (Nat.ne_of_lt (Nat.lt_succ_of_lt lb)), ⟨Nat.zero_le _, hz, hTI, ⟨_, _, hTO⟩, iterX_new t1 g1, iterX_new t2 g2⟩, fresh, hR⟩
theorem src_zipX {K : PySem.W.Frag} {G H : Hp} {t1 t2 : Bool} {a b : Addr} {vs ws : List V} {ds es : List PyData} (s : Same G H) (h1 : SqX K t1 H a vs) (h2 : SqX K t2 H b ws) (hd1 : DqAll K G vs ds) (hd2 : DqAll K G ws es) : SrcOk K G H (ItzX K t1 t2 a b vs ws) (zipD ds es) := by
  refine ⟨fun i d hi => ?_, fun i hi => ⟨h1, h2, by rw [zipD_len] at hi; rw [dpAll_len hd1, dpAll_len hd2]; exact hi⟩⟩
  obtain ⟨d1, d2, e1, e2, rfl⟩ := zipD_at hi
  obtain ⟨v, hv, q1⟩ := dpAll_at' hd1 e1
  obtain ⟨w, hw, q2⟩ := dpAll_at' hd2 e2
  have l1 := (List.getElem?_eq_some_iff.mp hv).1
  have l2 := (List.getElem?_eq_some_iff.mp hw).1
  refine ⟨⟨h1, h2, by omega⟩, fun x H' y => ?_⟩
  obtain ⟨T, x1, x2, rfl, hT, rfl, y1, y2⟩ := y
  rw [hv] at y1
  rw [hw] at y2
  cases y1
  cases y2
  exact ⟨_, .tup s hT (.cons q1 (.cons q2 .nil))⟩
/-- zip of two, lists or tuples -/
def evZipX (evs : Envt → R (List T)) : Envt → R Src := fun env => (evs env).bind fun ts env' => match frzAll ts with
  | some [.tuple ds, .list es] => .ok (.fix (zipD ds es)) env'
  | some [.list ds, .tuple es] => .ok (.fix (zipD ds es)) env'
  | _ => .fail
section
variable {X : Cx} {W : WX} {p : Bool} {e a b : Expr} {evs : Envt → R (List T)}
theorem di_zipX {elts : List Expr} {kk : Nat} {tpos p0 pos : Pos} (hg : Gl X "zip") (hm : X.mg "zip" = none) (h : DA X W p [a, b] evs) (ha : noStar a = true) (hb : noStar b = true) : DI X W p (.Tuple elts kk tpos) (.Call (.Name "zip" p0) [a, b] [] pos) (evZipX evs) := by
  obtain ⟨t, h1, h2⟩ := h
  have hst : starEach [b] X.env = [(false, eval b X.env)] := star_cons hb
  have hst2 : starEach [a, b] X.env = (false, eval a X.env) :: starEach [b] X.env := star_cons ha
  refine ⟨_, pi_zipX hg hm h1 hst2 (by rw [hst]; rfl), fun G H σ env ω Q r g => h2 G H σ env ω _ r ?_⟩
  unfold evZipX at g
  cases q : evs env with
  | ok ts env' =>
    rw [q] at g
    intro vs G1 H1 ω1 τ s1 r1 l1 d1 n1 k1
    simp only [R.bind] at g
    split at g
    · rename_i ds es hf
      obtain ⟨G3, gs, r3, hD, fr⟩ := l1.freeze r1 d1 hf
      cases hD with
      | cons q1 hD =>
        cases hD with
        | cons q2 hD =>
          cases hD
          cases q1 with
          | tup a1 a2 =>
            cases q2 with
            | lst b1 b2 => exact ⟨true, false, _, _, _, _, rfl, SqT.of (r3.sub _ _ a1), same_sqL r3.sub b1, g _ G3 H1 ω1 (step_freeze s1 n1 gs fr) r3 (fun G2 H2 e1 e2 => src_zipX (t1 := true) (t2 := false) e2 (SqT.of (e2 _ _ (e1 _ _ a1))) (same_sqL e2 (same_sqL e1 b1)) (dpAll_mono e1 _ _ a2) (dpAll_mono e1 _ _ b2)) (fun b hb => n1 b (.inl hb)) k1⟩
    · rename_i ds es hf
      obtain ⟨G3, gs, r3, hD, fr⟩ := l1.freeze r1 d1 hf
      cases hD with
      | cons q1 hD =>
        cases hD with
        | cons q2 hD =>
          cases hD
          cases q1 with
          | lst a1 a2 =>
            cases q2 with
            | tup b1 b2 => exact ⟨false, true, _, _, _, _, rfl, same_sqL r3.sub a1, SqT.of (r3.sub _ _ b1), g _ G3 H1 ω1 (step_freeze s1 n1 gs fr) r3 (fun G2 H2 e1 e2 => src_zipX (t1 := false) (t2 := true) e2 (same_sqL e2 (same_sqL e1 a1)) (SqT.of (e2 _ _ (e1 _ _ b1))) (dpAll_mono e1 _ _ a2) (dpAll_mono e1 _ _ b2)) (fun b hb => n1 b (.inl hb)) k1⟩
    · exact g.elim
  | exc c env' =>
    rw [q] at g
    exact g
  | fail =>
    rw [q] at g
    exact g
end
end VR

/-! the defs of visitrows_k91_whole_owners_held: evaluators, proofs (printed by gen.py). -/
namespace VW
open PySem PySem.Spec PyProof.Rows L2 VR
def top (i : Nat) : Stmt := PySem.Challenge.pw_visitrows_k91_whole_owners_held.main.body.getD i (.Pass ⟨0, 0, 0, 0⟩)
abbrev FnP (K : PySem.W.Frag) (x : Str) (st : Stmt) (f : Addr) (fd : FuncData) : Prop := FunD K x x (defArgs st) (defBody st) (defScope st) [] [] f fd

def ev_is_whole : Es := (evSeq (evRet (evBop true (evIsi ["int"] (evLoc 0)) (evBop true (evNot (evIsi ["bool"] (evLoc 0))) (evChn .LtE .LtE (ev2 (evLoc 1) (evLoc 0)) (evLoc 2)))))
  (fun env => .next env))
def F_is_whole : List T → FR := evFn 3 3 ev_is_whole
theorem ok_is_whole {P : Program} {w : World} {K : PySem.W.Frag} {mg : Str → Option Value} {base : Heap} {f : Addr} {fd : FuncData} (F : FnP K "is_whole" (top 7) f fd) (hx : mg "is_whole" = some (.ref f)) (b_isinstance : mg "isinstance" = none) (b_int : mg "int" = none) (b_bool : mg "bool" = none) : FnH P w K mg base 1 "is_whole" ["thing", "low", "high"] F_is_whole := by
  have v0 : cVar ["thing", "low", "high"] (defScope (top 7)) 0 "thing" = true := by kernel_rfl
  have g1 : cGl (defScope (top 7)) "isinstance" = true := by kernel_rfl
  have g2 : cGl (defScope (top 7)) "int" = true := by kernel_rfl
  have g3 : cGl (defScope (top 7)) "bool" = true := by kernel_rfl
  have v4 : cVar ["thing", "low", "high"] (defScope (top 7)) 1 "low" = true := by kernel_rfl
  have v5 : cVar ["thing", "low", "high"] (defScope (top 7)) 2 "high" = true := by kernel_rfl
  refine fn_ok (k := 0) (N := ["thing", "low", "high"]) (ps := ["thing", "low", "high"]) F ⟨rfl, rfl, rfl, by decide +kernel, by decide +kernel, by decide +kernel, by decide +kernel⟩ hx (by decide) (fun _ _ _ _ _ _ us hl => match us, hl with | [_, _, _], _ => rfl) ?_
  rintro X W rfl rfl rfl rfl rfl c
  exact (dss_cons (ds_ret (de_and (c.isi "int" b_isinstance g1 b_int g2 rfl (by decide) (dp_loc (c.vr v0)) rfl) (de_and (de_not (c.isi "bool" b_isinstance g1 b_bool g3 rfl (by decide) (dp_loc (c.vr v0)) rfl)) (de_one (c.chn (d2_pure (dp_loc (c.vr v4)) (dp_loc (c.vr v0))) (dp_loc (c.vr v5)) rfl)))))
    dss_nil)
def ev_is_name : Es := (evSeq (evRet (evBop true (evIsi ["str"] (evLoc 0)) (evBop true (evChn .LtE .LtE (ev2 (evC (.int 1)) (evB1 lenT (evLoc 0))) (evC (.int 4))) (evB1 allT (evComp (evFix (evTake 0)) (.one 1) [1] (fun env => .ok true env) (evCmp .In (ev2 (evLoc 1) (evC (.str "abcdefghijklmnopqrstuvwxyz")))))))))
  (fun env => .next env))
def F_is_name : List T → FR := evFn 2 1 ev_is_name
theorem ok_is_name {P : Program} {w : World} {K : PySem.W.Frag} {mg : Str → Option Value} {base : Heap} {f : Addr} {fd : FuncData} (F : FnP K "is_name" (top 8) f fd) (hx : mg "is_name" = some (.ref f)) (b_isinstance : mg "isinstance" = none) (b_str : mg "str" = none) (b_len : mg "len" = none) (i_LONGEST : GI mg "LONGEST" 4) (s_SMALL : GS mg "SMALL" "abcdefghijklmnopqrstuvwxyz") (b_all : mg "all" = none) : FnH P w K mg base 1 "is_name" ["thing"] F_is_name := by
  have v0 : cVar ["thing", "sign"] (defScope (top 8)) 0 "thing" = true := by kernel_rfl
  have g1 : cGl (defScope (top 8)) "isinstance" = true := by kernel_rfl
  have g2 : cGl (defScope (top 8)) "str" = true := by kernel_rfl
  have g3 : cGl (defScope (top 8)) "len" = true := by kernel_rfl
  have g4 : cGl (defScope (top 8)) "LONGEST" = true := by kernel_rfl
  have g5 : cGl (defScope (top 8)) "all" = true := by kernel_rfl
  refine fn_ok (k := 0) (N := ["thing", "sign"]) (ps := ["thing"]) F ⟨rfl, rfl, rfl, by decide +kernel, by decide +kernel, by decide +kernel, by decide +kernel⟩ hx (by decide) (fun _ _ _ _ _ _ us hl => match us, hl with | [_], _ => rfl) ?_
  rintro X W rfl rfl rfl rfl rfl c
  exact (dss_cons (ds_ret (de_and (c.isi "str" b_isinstance g1 b_str g2 rfl (by decide) (dp_loc (c.vr v0)) rfl) (de_and (c.chn (d2_pure de_int.dp (c.len b_len g3 (dp_loc (c.vr v0)) rfl).dp) (c.gi i_LONGEST g4).dp rfl) (de_one (c.all b_all g5 (c.comp (own := [("sign", 1)]) (by kernel_rfl) (by decide) rfl (di_fix (de_take (c.vr v0))) (fun q1 => c.bg1 (by kernel_rfl) q1) (fun q1 => dts_nil) (fun q1 => ((c.blk _ q1).cmp (d2_pure (dp_loc ((c.blk _ q1).vr (by kernel_rfl))) ((c.blk _ q1).gs s_SMALL (by kernel_rfl)).dp) rfl))).dp rfl)))))
    dss_nil)
def ev_is_step : Es := (evSeq (evIf (bopT false (notT (evTst (evIsi ["tuple"] (evLoc 0)))) (bopT false (evTst (evCmp .NotEq (ev2 (evB1 lenT (evLoc 0)) (evC (.int 4))))) (notT (evTst (evCall F_is_whole (arTmp (evLeaf (evIdx (ev2 (evLoc 0) (evC (.int 0))))) (arTmp (evC (.int 0)) (arTmp (evC (.int 9999)) arNil)))))))) (evSeq (evRet (evC (.bool false)))
  (fun env => .next env)) (fun env => .next env))
  (evSeq (evIf (bopT false (notT (evTst (evCall F_is_name (arTmp (evLeaf (evIdx (ev2 (evLoc 0) (evC (.int 1))))) arNil)))) (notT (evTst (evCall F_is_name (arTmp (evLeaf (evIdx (ev2 (evLoc 0) (evC (.int 2))))) arNil))))) (evSeq (evRet (evC (.bool false)))
  (fun env => .next env)) (fun env => .next env))
  (evSeq (evRet (evBop false (evCall F_is_name (arTmp (evLeaf (evIdx (ev2 (evLoc 0) (evC (.int 3))))) arNil)) (evBop true (evIsi ["str"] (evIdx (ev2 (evLoc 0) (evC (.int 3))))) (evCmp .Eq (ev2 (evIdx (ev2 (evLoc 0) (evC (.int 3)))) (evC (.str "")))))))
  (fun env => .next env))))
def F_is_step : List T → FR := evFn 1 1 ev_is_step
theorem ok_is_step {P : Program} {w : World} {K : PySem.W.Frag} {mg : Str → Option Value} {base : Heap} {f : Addr} {fd : FuncData} (F : FnP K "is_step" (top 9) f fd) (hx : mg "is_step" = some (.ref f)) (h_is_name : FnH P w K mg base 1 "is_name" ["thing"] F_is_name) (b_isinstance : mg "isinstance" = none) (b_str : mg "str" = none) (b_tuple : mg "tuple" = none) (b_len : mg "len" = none) (i_LAST : GI mg "LAST" 9999) (h_is_whole : FnH P w K mg base 1 "is_whole" ["thing", "low", "high"] F_is_whole) : FnH P w K mg base 2 "is_step" ["thing"] F_is_step := by
  have v0 : cVar ["thing"] (defScope (top 9)) 0 "thing" = true := by kernel_rfl
  have g1 : cGl (defScope (top 9)) "is_name" = true := by kernel_rfl
  have g2 : cGl (defScope (top 9)) "isinstance" = true := by kernel_rfl
  have g3 : cGl (defScope (top 9)) "str" = true := by kernel_rfl
  have g4 : cGl (defScope (top 9)) "tuple" = true := by kernel_rfl
  have g5 : cGl (defScope (top 9)) "len" = true := by kernel_rfl
  have g6 : cGl (defScope (top 9)) "LAST" = true := by kernel_rfl
  have g7 : cGl (defScope (top 9)) "is_whole" = true := by kernel_rfl
  refine fn_ok (k := 1) (N := ["thing"]) (ps := ["thing"]) F ⟨rfl, rfl, rfl, by decide +kernel, by decide +kernel, by decide +kernel, by decide +kernel⟩ hx (by decide) (fun _ _ _ _ _ _ us hl => match us, hl with | [_], _ => rfl) ?_
  rintro X W rfl rfl rfl rfl rfl c
  exact (dss_cons (ds_if (dw_or (dt_not (dt_call (c.isi "tuple" b_isinstance g2 b_tuple g4 rfl (by decide) (dp_loc (c.vr v0)) rfl))) (dw_or (c.tcmp (d2_pure (c.len b_len g5 (dp_loc (c.vr v0)) rfl).dp de_int.dp) rfl) (dw_or1 (dt_not (dt_call (c.cal h_is_whole (by decide) g7 (dr_tmp (de_leaf (c.idx (d2_pure (dp_loc (c.vr v0)) de_int.dp) rfl)) (dr_tmp de_int (dr_tmp (c.gi i_LAST g6) dr_nil rfl) rfl) rfl) rfl rfl)))))).dt (dss_cons (ds_ret de_bool)
    dss_nil) dss_nil)
    (dss_cons (ds_if (dw_or (dt_not (dt_call (c.cal h_is_name (by decide) g1 (dr_tmp (de_leaf (c.idx (d2_pure (dp_loc (c.vr v0)) de_int.dp) rfl)) dr_nil rfl) rfl rfl))) (dw_or1 (dt_not (dt_call (c.cal h_is_name (by decide) g1 (dr_tmp (de_leaf (c.idx (d2_pure (dp_loc (c.vr v0)) de_int.dp) rfl)) dr_nil rfl) rfl rfl))))).dt (dss_cons (ds_ret de_bool)
    dss_nil) dss_nil)
    (dss_cons (ds_ret (de_or (c.cal h_is_name (by decide) g1 (dr_tmp (de_leaf (c.idx (d2_pure (dp_loc (c.vr v0)) de_int.dp) rfl)) dr_nil rfl) rfl rfl) (de_one (de_and (c.isi "str" b_isinstance g2 b_str g3 rfl (by decide) (c.idx (d2_pure (dp_loc (c.vr v0)) de_int.dp) rfl) rfl) (de_one (c.cmp (d2_pure (c.idx (d2_pure (dp_loc (c.vr v0)) de_int.dp) rfl) de_str.dp) rfl))))))
    dss_nil)))
def ev_look_steps : Es := (evSeq (evIf (bopT false (notT (evTst (evIsi ["list", "tuple"] (evLoc 0)))) (notT (evTst (evB1 allT (evComp (evFix (evTake 0)) (.one 1) [1] (fun env => .ok true env) (evCall F_is_step (arTmp (evTake 1) arNil))))))) (evSeq (evRaise "NoStep")
  (fun env => .next env)) (fun env => .next env))
  (fun env => .next env))
def F_look_steps : List T → FR := evFn 2 1 ev_look_steps
theorem ok_look_steps {P : Program} {w : World} {K : PySem.W.Frag} {mg : Str → Option Value} {base : Heap} {f : Addr} {fd : FuncData} (F : FnP K "look_steps" (top 10) f fd) (hx : mg "look_steps" = some (.ref f)) (b_isinstance : mg "isinstance" = none) (b_list : mg "list" = none) (b_tuple : mg "tuple" = none) (h_is_step : FnH P w K mg base 2 "is_step" ["thing"] F_is_step) (b_all : mg "all" = none) (x_NoStep : GE mg K "NoStep") : FnH P w K mg base 3 "look_steps" ["steps"] F_look_steps := by
  have v0 : cVar ["steps", "step"] (defScope (top 10)) 0 "steps" = true := by kernel_rfl
  have g1 : cGl (defScope (top 10)) "isinstance" = true := by kernel_rfl
  have g2 : cGl (defScope (top 10)) "list" = true := by kernel_rfl
  have g3 : cGl (defScope (top 10)) "tuple" = true := by kernel_rfl
  have g4 : cGl (defScope (top 10)) "all" = true := by kernel_rfl
  have g5 : cGl (defScope (top 10)) "NoStep" = true := by kernel_rfl
  refine fn_ok (k := 2) (N := ["steps", "step"]) (ps := ["steps"]) F ⟨rfl, rfl, rfl, by decide +kernel, by decide +kernel, by decide +kernel, by decide +kernel⟩ hx (by decide) (fun _ _ _ _ _ _ us hl => match us, hl with | [_], _ => rfl) ?_
  rintro X W rfl rfl rfl rfl rfl c
  exact (dss_cons (ds_if (dw_or (dt_not (dt_call (c.isi2 "list" "tuple" b_isinstance g1 b_list g2 rfl (by decide) b_tuple g3 rfl (by decide) (dp_loc (c.vr v0)) rfl))) (dw_or1 (dt_not (dt_call (c.all b_all g4 (c.comp (own := [("step", 1)]) (by kernel_rfl) (by decide) rfl (di_fix (de_take (c.vr v0))) (fun q1 => c.bg1 (by kernel_rfl) q1) (fun q1 => dts_nil) (fun q1 => ((c.blk _ q1).cal h_is_step (by decide) (by kernel_rfl) (dr_tmp (de_take ((c.blk _ q1).vr (by kernel_rfl))) dr_nil rfl) rfl rfl))).dp rfl))))).dt (dss_cons (c.raise (p3 := ⟨0, 0, 0, 0⟩) x_NoStep g5)
    dss_nil) dss_nil)
    dss_nil)
def ev_in_order : Es := (evSeq (evDrop (evCall F_look_steps (arTmp (evTake 0) arNil)))
  (evSeq (evRet (evB1 ssT (evLoc 0)))
  (fun env => .next env)))
def F_in_order : List T → FR := evFn 1 1 ev_in_order
theorem ok_in_order {P : Program} {w : World} {K : PySem.W.Frag} {mg : Str → Option Value} {base : Heap} {f : Addr} {fd : FuncData} (F : FnP K "in_order" (top 11) f fd) (hx : mg "in_order" = some (.ref f)) (b_sorted : mg "sorted" = none) (b_set : mg "set" = none) (h_look_steps : FnH P w K mg base 3 "look_steps" ["steps"] F_look_steps) : FnH P w K mg base 4 "in_order" ["steps"] F_in_order := by
  have v0 : cVar ["steps"] (defScope (top 11)) 0 "steps" = true := by kernel_rfl
  have g1 : cGl (defScope (top 11)) "sorted" = true := by kernel_rfl
  have g2 : cGl (defScope (top 11)) "set" = true := by kernel_rfl
  have g3 : cGl (defScope (top 11)) "look_steps" = true := by kernel_rfl
  refine fn_ok (k := 3) (N := ["steps"]) (ps := ["steps"]) F ⟨rfl, rfl, rfl, by decide +kernel, by decide +kernel, by decide +kernel, by decide +kernel⟩ hx (by decide) (fun _ _ _ _ _ _ us hl => match us, hl with | [_], _ => rfl) ?_
  rintro X W rfl rfl rfl rfl rfl c
  exact (dss_cons (c.ex (c.cal h_look_steps (by decide) g3 (dr_tmp (de_take (c.vr v0)) dr_nil rfl) rfl rfl) rfl)
    (dss_cons (ds_ret (c.sset b_sorted g1 b_set g2 (dp_loc (c.vr v0)) rfl))
    dss_nil))
def ev_signs_at : Es := (evSeq (evRet (evB1 sortedT (evComp (evFix (evTake 0)) (.one 2) [2] (bopT true (evTst (evCmp .Eq (ev2 (evIdx (ev2 (evLoc 2) (evC (.int 1)))) (evLoc 1)))) (evTst (evCmp .NotEq (ev2 (evIdx (ev2 (evLoc 2) (evC (.int 3)))) (evC (.str "")))))) (evTup (evCons (evLeaf (evIdx (ev2 (evLoc 2) (evC (.int 0))))) (evCons (evLeaf (evIdx (ev2 (evLoc 2) (evC (.int 3))))) evNil))))))
  (fun env => .next env))
def F_signs_at : List T → FR := evFn 3 2 ev_signs_at
theorem ok_signs_at {P : Program} {w : World} {K : PySem.W.Frag} {mg : Str → Option Value} {base : Heap} {f : Addr} {fd : FuncData} (F : FnP K "signs_at" (top 12) f fd) (hx : mg "signs_at" = some (.ref f)) (b_sorted : mg "sorted" = none) : FnH P w K mg base 1 "signs_at" ["steps", "device"] F_signs_at := by
  have v0 : cVar ["steps", "device", "step"] (defScope (top 12)) 0 "steps" = true := by kernel_rfl
  have g1 : cGl (defScope (top 12)) "sorted" = true := by kernel_rfl
  refine fn_ok (k := 0) (N := ["steps", "device", "step"]) (ps := ["steps", "device"]) F ⟨rfl, rfl, rfl, by decide +kernel, by decide +kernel, by decide +kernel, by decide +kernel⟩ hx (by decide) (fun _ _ _ _ _ _ us hl => match us, hl with | [_, _], _ => rfl) ?_
  rintro X W rfl rfl rfl rfl rfl c
  exact (dss_cons (ds_ret (c.srt b_sorted g1 (c.comp (own := [("step", 2)]) (by kernel_rfl) (by decide) rfl (di_fix (de_take (c.vr v0))) (fun q1 => c.bg1 (by kernel_rfl) q1) (fun q1 => (dts_one (dw_and ((c.blk _ q1).tcmp (d2_pure ((c.blk _ q1).idx (d2_pure (dp_loc ((c.blk _ q1).vr (by kernel_rfl))) de_int.dp) rfl) (dp_loc ((c.blk _ q1).vr (by kernel_rfl)))) rfl) (dw_and1 ((c.blk _ q1).tcmp (d2_pure ((c.blk _ q1).idx (d2_pure (dp_loc ((c.blk _ q1).vr (by kernel_rfl))) de_int.dp) rfl) de_str.dp) rfl))).dt)) (fun q1 => (de_tup (da_cons (de_leaf ((c.blk _ q1).idx (d2_pure (dp_loc ((c.blk _ q1).vr (by kernel_rfl))) de_int.dp) rfl)) (da_cons (de_leaf ((c.blk _ q1).idx (d2_pure (dp_loc ((c.blk _ q1).vr (by kernel_rfl))) de_int.dp) rfl)) da_nil rfl) rfl)))).dp rfl))
    dss_nil)
def ev_owner_in : Es := (evSeq (evIf (evTst (evCmp .NotEq (ev2 (evIdx (ev2 (evLoc 1) (evC (.int 3)))) (evC (.str ""))))) (evSeq (evRet (evLeaf (evIdx (ev2 (evLoc 1) (evC (.int 3))))))
  (fun env => .next env)) (fun env => .next env))
  (evSeq (evSet 2 (evCall F_signs_at (arTmp (evTake 0) (arTmp (evLeaf (evIdx (ev2 (evLoc 1) (evC (.int 1))))) arNil))))
  (evSeq (evSet 3 (evComp (evFix (evTake 2)) (.one 4) [4] (evTst (evCmp .LtE (ev2 (evIdx (ev2 (evLoc 4) (evC (.int 0)))) (evIdx (ev2 (evLoc 1) (evC (.int 0))))))) (evTake 4)))
  (evSeq (evIf (evTst (evCmp .NotEq (ev2 (evLoc 3) (evLst evNil)))) (evSeq (evRet (evLeaf (evIdx (ev2 (evIdx (ev2 (evLoc 3) (evC (.int (-1))))) (evC (.int 1))))))
  (fun env => .next env)) (fun env => .next env))
  (evSeq (evRet (evIte (evTst (evCmp .NotEq (ev2 (evLoc 2) (evLst evNil)))) (evLeaf (evIdx (ev2 (evIdx (ev2 (evLoc 2) (evC (.int 0)))) (evC (.int 1))))) (evBin .Add (ev2 (evC (.str ".")) (evIdx (ev2 (evLoc 1) (evC (.int 1))))))))
  (fun env => .next env))))))
def F_owner_in : List T → FR := evFn 5 2 ev_owner_in
theorem ok_owner_in {P : Program} {w : World} {K : PySem.W.Frag} {mg : Str → Option Value} {base : Heap} {f : Addr} {fd : FuncData} (F : FnP K "owner_in" (top 13) f fd) (hx : mg "owner_in" = some (.ref f)) (h_signs_at : FnH P w K mg base 1 "signs_at" ["steps", "device"] F_signs_at) : FnH P w K mg base 2 "owner_in" ["steps", "step"] F_owner_in := by
  have v0 : cVar ["steps", "step", "signs", "ahead", "sign"] (defScope (top 13)) 2 "signs" = true := by kernel_rfl
  have v1 : cVar ["steps", "step", "signs", "ahead", "sign"] (defScope (top 13)) 1 "step" = true := by kernel_rfl
  have v2 : cVar ["steps", "step", "signs", "ahead", "sign"] (defScope (top 13)) 3 "ahead" = true := by kernel_rfl
  have l3 : cLoc ["steps", "step", "signs", "ahead", "sign"] (defScope (top 13)) 3 "ahead" = true := by kernel_rfl
  have v4 : cVar ["steps", "step", "signs", "ahead", "sign"] (defScope (top 13)) 0 "steps" = true := by kernel_rfl
  have g5 : cGl (defScope (top 13)) "signs_at" = true := by kernel_rfl
  have l6 : cLoc ["steps", "step", "signs", "ahead", "sign"] (defScope (top 13)) 2 "signs" = true := by kernel_rfl
  refine fn_ok (k := 1) (N := ["steps", "step", "signs", "ahead", "sign"]) (ps := ["steps", "step"]) F ⟨rfl, rfl, rfl, by decide +kernel, by decide +kernel, by decide +kernel, by decide +kernel⟩ hx (by decide) (fun _ _ _ _ _ _ us hl => match us, hl with | [_, _], _ => rfl) ?_
  rintro X W rfl rfl rfl rfl rfl c
  exact (dss_cons (ds_if (c.tcmp (d2_pure (c.idx (d2_pure (dp_loc (c.vr v1)) de_int.dp) rfl) de_str.dp) rfl) (dss_cons (ds_ret (de_leaf (c.idx (d2_pure (dp_loc (c.vr v1)) de_int.dp) rfl)))
    dss_nil) dss_nil)
    (dss_cons (c.set l6 (by decide) rfl (c.cal h_signs_at (by decide) g5 (dr_tmp (de_take (c.vr v4)) (dr_tmp (de_leaf (c.idx (d2_pure (dp_loc (c.vr v1)) de_int.dp) rfl)) dr_nil rfl) rfl) rfl rfl))
    (dss_cons (c.setLc l3 (by kernel_rfl) (by decide) (by kernel_rfl) (own := [("sign", 4)]) (by kernel_rfl) (by decide) rfl (di_fix (de_take (c.vr v0))) (fun q1 => c.bg1 (by kernel_rfl) q1) (fun q1 => (dts_one ((c.blk _ q1).tcmp (d2_pure ((c.blk _ q1).idx (d2_pure (dp_loc ((c.blk _ q1).vr (by kernel_rfl))) de_int.dp) rfl) ((c.blk _ q1).idx (d2_pure (dp_loc ((c.blk _ q1).vr (by kernel_rfl))) de_int.dp) rfl)) rfl))) (fun q1 => (de_take ((c.blk _ q1).vr (by kernel_rfl)))))
    (dss_cons (ds_if (c.tcmp (d2_pure (dp_loc (c.vr v2)) (de_lst da_nil).dp) rfl) (dss_cons (ds_ret (de_leaf (c.idx (d2_pure (c.idx (d2_pure (dp_loc (c.vr v2)) de_neg.dp) rfl) de_int.dp) rfl)))
    dss_nil) dss_nil)
    (dss_cons (ds_ret (de_ite (c.tcmp (d2_pure (dp_loc (c.vr v0)) (de_lst da_nil).dp) rfl) (de_leaf (c.idx (d2_pure (c.idx (d2_pure (dp_loc (c.vr v0)) de_int.dp) rfl) de_int.dp) rfl)) (de_bin (d2_pure de_str.dp (c.idx (d2_pure (dp_loc (c.vr v1)) de_int.dp) rfl)))))
    dss_nil)))))
def ev_whose : Es := (evSeq (evDrop (evCall F_look_steps (arTmp (evTake 0) arNil)))
  (evSeq (evIf (bopT false (notT (evTst (evCall F_is_step (arTmp (evTake 1) arNil)))) (evTst (evCmp .NotIn (ev2 (evLoc 1) (evLoc 0))))) (evSeq (evRaise "NoStep")
  (fun env => .next env)) (fun env => .next env))
  (evSeq (evRet (evCall F_owner_in (arTmp (evTake 0) (arTmp (evTake 1) arNil))))
  (fun env => .next env))))
def F_whose : List T → FR := evFn 2 2 ev_whose
theorem ok_whose {P : Program} {w : World} {K : PySem.W.Frag} {mg : Str → Option Value} {base : Heap} {f : Addr} {fd : FuncData} (F : FnP K "whose" (top 14) f fd) (hx : mg "whose" = some (.ref f)) (h_owner_in : FnH P w K mg base 2 "owner_in" ["steps", "step"] F_owner_in) (h_is_step : FnH P w K mg base 2 "is_step" ["thing"] F_is_step) (x_NoStep : GE mg K "NoStep") (h_look_steps : FnH P w K mg base 3 "look_steps" ["steps"] F_look_steps) : FnH P w K mg base 4 "whose" ["steps", "step"] F_whose := by
  have v0 : cVar ["steps", "step"] (defScope (top 14)) 0 "steps" = true := by kernel_rfl
  have v1 : cVar ["steps", "step"] (defScope (top 14)) 1 "step" = true := by kernel_rfl
  have g2 : cGl (defScope (top 14)) "owner_in" = true := by kernel_rfl
  have g3 : cGl (defScope (top 14)) "is_step" = true := by kernel_rfl
  have g4 : cGl (defScope (top 14)) "NoStep" = true := by kernel_rfl
  have g5 : cGl (defScope (top 14)) "look_steps" = true := by kernel_rfl
  refine fn_ok (k := 3) (N := ["steps", "step"]) (ps := ["steps", "step"]) F ⟨rfl, rfl, rfl, by decide +kernel, by decide +kernel, by decide +kernel, by decide +kernel⟩ hx (by decide) (fun _ _ _ _ _ _ us hl => match us, hl with | [_, _], _ => rfl) ?_
  rintro X W rfl rfl rfl rfl rfl c
  exact (dss_cons (c.ex (c.cal h_look_steps (by decide) g5 (dr_tmp (de_take (c.vr v0)) dr_nil rfl) rfl rfl) rfl)
    (dss_cons (ds_if (dw_or (dt_not (dt_call (c.cal h_is_step (by decide) g3 (dr_tmp (de_take (c.vr v1)) dr_nil rfl) rfl rfl))) (dw_or1 (c.tcmp (d2_pure (dp_loc (c.vr v1)) (dp_loc (c.vr v0))) rfl))).dt (dss_cons (c.raise (p3 := ⟨0, 0, 0, 0⟩) x_NoStep g4)
    dss_nil) dss_nil)
    (dss_cons (ds_ret (c.cal h_owner_in (by decide) g2 (dr_tmp (de_take (c.vr v0)) (dr_tmp (de_take (c.vr v1)) dr_nil rfl) rfl) rfl rfl))
    dss_nil)))
def ev_owners : Es := (evSeq (evDrop (evCall F_look_steps (arTmp (evTake 0) arNil)))
  (evSeq (evRet (evB1 ssT (evComp (evFix (evTake 0)) (.one 1) [1] (fun env => .ok true env) (evCall F_owner_in (arTmp (evTake 0) (arTmp (evTake 1) arNil))))))
  (fun env => .next env)))
def F_owners : List T → FR := evFn 2 1 ev_owners
theorem ok_owners {P : Program} {w : World} {K : PySem.W.Frag} {mg : Str → Option Value} {base : Heap} {f : Addr} {fd : FuncData} (F : FnP K "owners" (top 15) f fd) (hx : mg "owners" = some (.ref f)) (h_owner_in : FnH P w K mg base 2 "owner_in" ["steps", "step"] F_owner_in) (b_sorted : mg "sorted" = none) (b_set : mg "set" = none) (h_look_steps : FnH P w K mg base 3 "look_steps" ["steps"] F_look_steps) : FnH P w K mg base 4 "owners" ["steps"] F_owners := by
  have v0 : cVar ["steps", "step"] (defScope (top 15)) 0 "steps" = true := by kernel_rfl
  have g1 : cGl (defScope (top 15)) "sorted" = true := by kernel_rfl
  have g2 : cGl (defScope (top 15)) "set" = true := by kernel_rfl
  have g3 : cGl (defScope (top 15)) "look_steps" = true := by kernel_rfl
  refine fn_ok (k := 3) (N := ["steps", "step"]) (ps := ["steps"]) F ⟨rfl, rfl, rfl, by decide +kernel, by decide +kernel, by decide +kernel, by decide +kernel⟩ hx (by decide) (fun _ _ _ _ _ _ us hl => match us, hl with | [_], _ => rfl) ?_
  rintro X W rfl rfl rfl rfl rfl c
  exact (dss_cons (c.ex (c.cal h_look_steps (by decide) g3 (dr_tmp (de_take (c.vr v0)) dr_nil rfl) rfl rfl) rfl)
    (dss_cons (ds_ret (c.sset b_sorted g1 b_set g2 (c.comp (own := [("step", 1)]) (by kernel_rfl) (by decide) rfl (di_fix (de_take (c.vr v0))) (fun q1 => c.bg1 (by kernel_rfl) q1) (fun q1 => dts_nil) (fun q1 => ((c.blk _ q1).cal h_owner_in (by decide) (by kernel_rfl) (dr_tmp (de_take ((c.blk _ q1).vr (by kernel_rfl))) (dr_tmp (de_take ((c.blk _ q1).vr (by kernel_rfl))) dr_nil rfl) rfl) rfl rfl))).dp rfl))
    dss_nil))
def ev_devices_of : Es := (evSeq (evDrop (evCall F_look_steps (arTmp (evTake 0) arNil)))
  (evSeq (evRet (evB1 ssT (evComp (evFix (evTake 0)) (.one 2) [2] (evTst (evCmp .Eq (ev2 (evCall F_owner_in (arTmp (evTake 0) (arTmp (evTake 2) arNil))) (evLoc 1)))) (evLeaf (evIdx (ev2 (evLoc 2) (evC (.int 1))))))))
  (fun env => .next env)))
def F_devices_of : List T → FR := evFn 3 2 ev_devices_of
theorem ok_devices_of {P : Program} {w : World} {K : PySem.W.Frag} {mg : Str → Option Value} {base : Heap} {f : Addr} {fd : FuncData} (F : FnP K "devices_of" (top 16) f fd) (hx : mg "devices_of" = some (.ref f)) (h_owner_in : FnH P w K mg base 2 "owner_in" ["steps", "step"] F_owner_in) (b_sorted : mg "sorted" = none) (b_set : mg "set" = none) (h_look_steps : FnH P w K mg base 3 "look_steps" ["steps"] F_look_steps) : FnH P w K mg base 4 "devices_of" ["steps", "owner"] F_devices_of := by
  have v0 : cVar ["steps", "owner", "step"] (defScope (top 16)) 0 "steps" = true := by kernel_rfl
  have g1 : cGl (defScope (top 16)) "sorted" = true := by kernel_rfl
  have g2 : cGl (defScope (top 16)) "set" = true := by kernel_rfl
  have g3 : cGl (defScope (top 16)) "look_steps" = true := by kernel_rfl
  refine fn_ok (k := 3) (N := ["steps", "owner", "step"]) (ps := ["steps", "owner"]) F ⟨rfl, rfl, rfl, by decide +kernel, by decide +kernel, by decide +kernel, by decide +kernel⟩ hx (by decide) (fun _ _ _ _ _ _ us hl => match us, hl with | [_, _], _ => rfl) ?_
  rintro X W rfl rfl rfl rfl rfl c
  exact (dss_cons (c.ex (c.cal h_look_steps (by decide) g3 (dr_tmp (de_take (c.vr v0)) dr_nil rfl) rfl rfl) rfl)
    (dss_cons (ds_ret (c.sset b_sorted g1 b_set g2 (c.comp (own := [("step", 2)]) (by kernel_rfl) (by decide) rfl (di_fix (de_take (c.vr v0))) (fun q1 => c.bg1 (by kernel_rfl) q1) (fun q1 => (dts_one ((c.blk _ q1).tcmp (d2_pure ((c.blk _ q1).cal h_owner_in (by decide) (by kernel_rfl) (dr_tmp (de_take ((c.blk _ q1).vr (by kernel_rfl))) (dr_tmp (de_take ((c.blk _ q1).vr (by kernel_rfl))) dr_nil rfl) rfl) rfl rfl).dp (dp_loc ((c.blk _ q1).vr (by kernel_rfl)))) rfl))) (fun q1 => (de_leaf ((c.blk _ q1).idx (d2_pure (dp_loc ((c.blk _ q1).vr (by kernel_rfl))) de_int.dp) rfl)))).dp rfl))
    dss_nil))
def ev_shared : Es := (evSeq (evDrop (evCall F_look_steps (arTmp (evTake 0) arNil)))
  (evSeq (evSet 1 evDct)
  (evSeq (evForS (evFix (evTake 0)) 1 (.one 2) (evSeq (evDrop (evSda 1 (evIdx (ev2 (evLoc 2) (evC (.int 1)))) (evCall F_owner_in (arTmp (evTake 0) (arTmp (evTake 2) arNil)))))
  (fun env => .next env)))
  (evSeq (evRet (evB1 sortedT (evComp (evKeys 1) (.one 3) [3] (evTst (evCmp .Gt (ev2 (evB1 lsT (evIdx (ev2 (evLoc 1) (evLoc 3)))) (evC (.int 1))))) (evTake 3))))
  (fun env => .next env)))))
def F_shared : List T → FR := evFn 4 1 ev_shared
theorem ok_shared {P : Program} {w : World} {K : PySem.W.Frag} {mg : Str → Option Value} {base : Heap} {f : Addr} {fd : FuncData} (F : FnP K "shared" (top 17) f fd) (hx : mg "shared" = some (.ref f)) (b_len : mg "len" = none) (b_set : mg "set" = none) (b_sorted : mg "sorted" = none) (h_owner_in : FnH P w K mg base 2 "owner_in" ["steps", "step"] F_owner_in) (h_look_steps : FnH P w K mg base 3 "look_steps" ["steps"] F_look_steps) : FnH P w K mg base 4 "shared" ["steps"] F_shared := by
  have v0 : cVar ["steps", "book", "step", "device"] (defScope (top 17)) 1 "book" = true := by kernel_rfl
  have g1 : cGl (defScope (top 17)) "sorted" = true := by kernel_rfl
  have v2 : cVar ["steps", "book", "step", "device"] (defScope (top 17)) 0 "steps" = true := by kernel_rfl
  have l3 : cLoc ["steps", "book", "step", "device"] (defScope (top 17)) 2 "step" = true := by kernel_rfl
  have v4 : cVar ["steps", "book", "step", "device"] (defScope (top 17)) 2 "step" = true := by kernel_rfl
  have g5 : cGl (defScope (top 17)) "owner_in" = true := by kernel_rfl
  have l6 : cLoc ["steps", "book", "step", "device"] (defScope (top 17)) 1 "book" = true := by kernel_rfl
  have g7 : cGl (defScope (top 17)) "look_steps" = true := by kernel_rfl
  refine fn_ok (k := 3) (N := ["steps", "book", "step", "device"]) (ps := ["steps"]) F ⟨rfl, rfl, rfl, by decide +kernel, by decide +kernel, by decide +kernel, by decide +kernel⟩ hx (by decide) (fun _ _ _ _ _ _ us hl => match us, hl with | [_], _ => rfl) ?_
  rintro X W rfl rfl rfl rfl rfl c
  exact (dss_cons (c.ex (c.cal h_look_steps (by decide) g7 (dr_tmp (de_take (c.vr v2)) dr_nil rfl) rfl rfl) rfl)
    (dss_cons (c.set l6 (by decide) rfl de_dct)
    (dss_cons (c.for (di_fix (de_take (c.vr v2))) (c.g1 l3) (by decide) rfl (dss_cons (c.ex (de_sda (c.vr v0) (c.idx (d2_pure (dp_loc (c.vr v4)) de_int.dp) rfl) (c.cal h_owner_in (by decide) g5 (dr_tmp (de_take (c.vr v2)) (dr_tmp (de_take (c.vr v4)) dr_nil rfl) rfl) rfl rfl) ⟨base_no rfl, rfl, rfl, rfl⟩ rfl (base_no rfl) rfl) rfl)
    dss_nil))
    (dss_cons (ds_ret (c.srt b_sorted g1 (c.comp (own := [("device", 3)]) (by kernel_rfl) (by decide) rfl (di_keys (c.vr v0)) (fun q1 => c.bg1 (by kernel_rfl) q1) (fun q1 => (dts_one ((c.blk _ q1).tcmp (d2_pure ((c.blk _ q1).lset b_len (by kernel_rfl) b_set (by kernel_rfl) ((c.blk _ q1).idx (d2_pure (dp_loc ((c.blk _ q1).vr (by kernel_rfl))) (dp_loc ((c.blk _ q1).vr (by kernel_rfl)))) rfl) rfl).dp de_int.dp) rfl))) (fun q1 => (de_take ((c.blk _ q1).vr (by kernel_rfl))))).dp rfl))
    dss_nil))))
def ev_is_late : Es := (evSeq (evSet 2 (evCall F_signs_at (arTmp (evTake 0) (arTmp (evLeaf (evIdx (ev2 (evLoc 1) (evC (.int 1))))) arNil))))
  (evSeq (evRet (evBop true (evCmp .Eq (ev2 (evIdx (ev2 (evLoc 1) (evC (.int 3)))) (evC (.str "")))) (evBop true (evCmp .NotEq (ev2 (evLoc 2) (evLst evNil))) (evCmp .Gt (ev2 (evIdx (ev2 (evIdx (ev2 (evLoc 2) (evC (.int 0)))) (evC (.int 0)))) (evIdx (ev2 (evLoc 1) (evC (.int 0)))))))))
  (fun env => .next env)))
def F_is_late : List T → FR := evFn 3 2 ev_is_late
theorem ok_is_late {P : Program} {w : World} {K : PySem.W.Frag} {mg : Str → Option Value} {base : Heap} {f : Addr} {fd : FuncData} (F : FnP K "is_late" (top 18) f fd) (hx : mg "is_late" = some (.ref f)) (h_signs_at : FnH P w K mg base 1 "signs_at" ["steps", "device"] F_signs_at) : FnH P w K mg base 2 "is_late" ["steps", "step"] F_is_late := by
  have v0 : cVar ["steps", "step", "signs"] (defScope (top 18)) 1 "step" = true := by kernel_rfl
  have v1 : cVar ["steps", "step", "signs"] (defScope (top 18)) 2 "signs" = true := by kernel_rfl
  have v2 : cVar ["steps", "step", "signs"] (defScope (top 18)) 0 "steps" = true := by kernel_rfl
  have g3 : cGl (defScope (top 18)) "signs_at" = true := by kernel_rfl
  have l4 : cLoc ["steps", "step", "signs"] (defScope (top 18)) 2 "signs" = true := by kernel_rfl
  refine fn_ok (k := 1) (N := ["steps", "step", "signs"]) (ps := ["steps", "step"]) F ⟨rfl, rfl, rfl, by decide +kernel, by decide +kernel, by decide +kernel, by decide +kernel⟩ hx (by decide) (fun _ _ _ _ _ _ us hl => match us, hl with | [_, _], _ => rfl) ?_
  rintro X W rfl rfl rfl rfl rfl c
  exact (dss_cons (c.set l4 (by decide) rfl (c.cal h_signs_at (by decide) g3 (dr_tmp (de_take (c.vr v2)) (dr_tmp (de_leaf (c.idx (d2_pure (dp_loc (c.vr v0)) de_int.dp) rfl)) dr_nil rfl) rfl) rfl rfl))
    (dss_cons (ds_ret (de_and (c.cmp (d2_pure (c.idx (d2_pure (dp_loc (c.vr v0)) de_int.dp) rfl) de_str.dp) rfl) (de_and (c.cmp (d2_pure (dp_loc (c.vr v1)) (de_lst da_nil).dp) rfl) (de_one (c.cmp (d2_pure (c.idx (d2_pure (c.idx (d2_pure (dp_loc (c.vr v1)) de_int.dp) rfl) de_int.dp) rfl) (c.idx (d2_pure (dp_loc (c.vr v0)) de_int.dp) rfl)) rfl)))))
    dss_nil))
def ev_late : Es := (evSeq (evRet (evComp (evFix (evCall F_in_order (arTmp (evTake 0) arNil))) (.one 1) [1] (evTst (evCall F_is_late (arTmp (evTake 0) (arTmp (evTake 1) arNil)))) (evTake 1)))
  (fun env => .next env))
def F_late : List T → FR := evFn 2 1 ev_late
theorem ok_late {P : Program} {w : World} {K : PySem.W.Frag} {mg : Str → Option Value} {base : Heap} {f : Addr} {fd : FuncData} (F : FnP K "late" (top 19) f fd) (hx : mg "late" = some (.ref f)) (h_in_order : FnH P w K mg base 4 "in_order" ["steps"] F_in_order) (h_is_late : FnH P w K mg base 2 "is_late" ["steps", "step"] F_is_late) : FnH P w K mg base 5 "late" ["steps"] F_late := by
  have v0 : cVar ["steps", "step"] (defScope (top 19)) 0 "steps" = true := by kernel_rfl
  have g1 : cGl (defScope (top 19)) "in_order" = true := by kernel_rfl
  refine fn_ok (k := 4) (N := ["steps", "step"]) (ps := ["steps"]) F ⟨rfl, rfl, rfl, by decide +kernel, by decide +kernel, by decide +kernel, by decide +kernel⟩ hx (by decide) (fun _ _ _ _ _ _ us hl => match us, hl with | [_], _ => rfl) ?_
  rintro X W rfl rfl rfl rfl rfl c
  exact (dss_cons (ds_ret (c.comp (own := [("step", 1)]) (by kernel_rfl) (by decide) rfl (di_fix (c.cal h_in_order (by decide) g1 (dr_tmp (de_take (c.vr v0)) dr_nil rfl) rfl rfl)) (fun q1 => c.bg1 (by kernel_rfl) q1) (fun q1 => (dts_one (dt_call ((c.blk _ q1).cal h_is_late (by decide) (by kernel_rfl) (dr_tmp (de_take ((c.blk _ q1).vr (by kernel_rfl))) (dr_tmp (de_take ((c.blk _ q1).vr (by kernel_rfl))) dr_nil rfl) rfl) rfl rfl)))) (fun q1 => (de_take ((c.blk _ q1).vr (by kernel_rfl))))))
    dss_nil)
def ev__law_cell : Es := (evSeq (evIf (evTst (evCmp .Lt (ev2 (evLoc 1) (evB1 lenT (evLoc 0))))) (evSeq (evRet (evLeaf (evIdx (ev2 (evLoc 0) (evLoc 1)))))
  (fun env => .next env)) (fun env => .next env))
  (evSeq (evIf (evTst (evCmp .Eq (ev2 (evLoc 0) (evLst evNil)))) (evSeq (evRet (evC (.int 0)))
  (fun env => .next env)) (fun env => .next env))
  (evSeq (evRet (evBin .Add (ev2 (evBin .Mult (ev2 (evIdx (ev2 (evLoc 0) (evBin .Mod (ev2 (evLoc 1) (evB1 lenT (evLoc 0)))))) (evC (.int 31)))) (evLoc 1))))
  (fun env => .next env))))
def F__law_cell : List T → FR := evFn 2 2 ev__law_cell
theorem ok__law_cell {P : Program} {w : World} {K : PySem.W.Frag} {mg : Str → Option Value} {base : Heap} {f : Addr} {fd : FuncData} (F : FnP K "_law_cell" (top 21) f fd) (hx : mg "_law_cell" = some (.ref f)) (b_len : mg "len" = none) : FnH P w K mg base 1 "_law_cell" ["script", "k"] F__law_cell := by
  have v0 : cVar ["script", "k"] (defScope (top 21)) 1 "k" = true := by kernel_rfl
  have v1 : cVar ["script", "k"] (defScope (top 21)) 0 "script" = true := by kernel_rfl
  have g2 : cGl (defScope (top 21)) "len" = true := by kernel_rfl
  refine fn_ok (k := 0) (N := ["script", "k"]) (ps := ["script", "k"]) F ⟨rfl, rfl, rfl, by decide +kernel, by decide +kernel, by decide +kernel, by decide +kernel⟩ hx (by decide) (fun _ _ _ _ _ _ us hl => match us, hl with | [_, _], _ => rfl) ?_
  rintro X W rfl rfl rfl rfl rfl c
  exact (dss_cons (ds_if (c.tcmp (d2_pure (dp_loc (c.vr v0)) (c.len b_len g2 (dp_loc (c.vr v1)) rfl).dp) rfl) (dss_cons (ds_ret (de_leaf (c.idx (d2_pure (dp_loc (c.vr v1)) (dp_loc (c.vr v0))) rfl)))
    dss_nil) dss_nil)
    (dss_cons (ds_if (c.tcmp (d2_pure (dp_loc (c.vr v1)) (de_lst da_nil).dp) rfl) (dss_cons (ds_ret de_int)
    dss_nil) dss_nil)
    (dss_cons (ds_ret (de_bin (d2_pure (de_bin (d2_pure (c.idx (d2_pure (dp_loc (c.vr v1)) (de_bin (d2_pure (dp_loc (c.vr v0)) (c.len b_len g2 (dp_loc (c.vr v1)) rfl).dp)).dp) rfl) de_int.dp)).dp (dp_loc (c.vr v0)))))
    dss_nil)))
def ev__law_pick : Es := (evSeq (evSet 3 (evBin .Mod (ev2 (evBin .Mult (ev2 (evBin .Add (ev2 (evCall F__law_cell (arTmp (evTake 0) (arTmp (evTake 1) arNil))) (evBin .Mult (ev2 (evC (.int 6151)) (evBin .Add (ev2 (evLoc 1) (evC (.int 1)))))))) (evC (.int 40692)))) (evC (.int 2147483399)))))
  (evSeq (evRet (evBin .Mod (ev2 (evBin .Mod (ev2 (evBin .Add (ev2 (evBin .Mult (ev2 (evLoc 3) (evLoc 3))) (evBin .FloorDiv (ev2 (evLoc 3) (evC (.int 31)))))) (evC (.int 2147483629)))) (evLoc 2))))
  (fun env => .next env)))
def F__law_pick : List T → FR := evFn 4 3 ev__law_pick
theorem ok__law_pick {P : Program} {w : World} {K : PySem.W.Frag} {mg : Str → Option Value} {base : Heap} {f : Addr} {fd : FuncData} (F : FnP K "_law_pick" (top 22) f fd) (hx : mg "_law_pick" = some (.ref f)) (h__law_cell : FnH P w K mg base 1 "_law_cell" ["script", "k"] F__law_cell) : FnH P w K mg base 2 "_law_pick" ["script", "k", "many"] F__law_pick := by
  have v0 : cVar ["script", "k", "many", "drawn"] (defScope (top 22)) 2 "many" = true := by kernel_rfl
  have v1 : cVar ["script", "k", "many", "drawn"] (defScope (top 22)) 3 "drawn" = true := by kernel_rfl
  have v2 : cVar ["script", "k", "many", "drawn"] (defScope (top 22)) 1 "k" = true := by kernel_rfl
  have v3 : cVar ["script", "k", "many", "drawn"] (defScope (top 22)) 0 "script" = true := by kernel_rfl
  have g4 : cGl (defScope (top 22)) "_law_cell" = true := by kernel_rfl
  have l5 : cLoc ["script", "k", "many", "drawn"] (defScope (top 22)) 3 "drawn" = true := by kernel_rfl
  refine fn_ok (k := 1) (N := ["script", "k", "many", "drawn"]) (ps := ["script", "k", "many"]) F ⟨rfl, rfl, rfl, by decide +kernel, by decide +kernel, by decide +kernel, by decide +kernel⟩ hx (by decide) (fun _ _ _ _ _ _ us hl => match us, hl with | [_, _, _], _ => rfl) ?_
  rintro X W rfl rfl rfl rfl rfl c
  exact (dss_cons (c.set l5 (by decide) rfl (de_bin (d2_pure (de_bin (d2_pure (de_bin (d2_pure (c.cal h__law_cell (by decide) g4 (dr_tmp (de_take (c.vr v3)) (dr_tmp (de_take (c.vr v2)) dr_nil rfl) rfl) rfl rfl).dp (de_bin (d2_pure de_int.dp (de_bin (d2_pure (dp_loc (c.vr v2)) de_int.dp)).dp)).dp)).dp de_int.dp)).dp de_int.dp)))
    (dss_cons (ds_ret (de_bin (d2_pure (de_bin (d2_pure (de_bin (d2_pure (de_bin (d2_pure (dp_loc (c.vr v1)) (dp_loc (c.vr v1)))).dp (de_bin (d2_pure (dp_loc (c.vr v1)) de_int.dp)).dp)).dp de_int.dp)).dp (dp_loc (c.vr v0)))))
    dss_nil))
def ev__law_rows : Es := (evSeq (evSet 3 (evLeaf (evIdx (ev2 (evFrz (evLst (evCons (evC (.int 6)) (evCons (evC (.int 40)) (evCons (evC (.int 300)) (evCons (evC (.int 9999)) evNil)))))) (evCall F__law_pick (arTmp (evTake 0) (arTmp (evTake 1) (arTmp (evC (.int 4)) arNil))))))))
  (evSeq (evSet 4 (evLeaf (evIdx (ev2 (evFrz (evLst (evCons (evLst (evCons (evC (.str "")) (evCons (evC (.str "")) (evCons (evC (.str "")) (evCons (evC (.str "kim")) (evCons (evC (.str "al")) evNil)))))) (evCons (evLst (evCons (evC (.str "")) (evCons (evC (.str "kim")) (evCons (evC (.str "zoe")) evNil)))) (evCons (evLst (evCons (evC (.str "")) evNil)) (evCons (evLst (evCons (evC (.str "al")) (evCons (evC (.str "kim")) (evCons (evC (.str "zoe")) evNil)))) evNil)))))) (evCall F__law_pick (arTmp (evTake 0) (arTmp (evBin .Add (ev2 (evLoc 1) (evC (.int 1)))) (arTmp (evC (.int 4)) arNil))))))))
  (evSeq (evSet 5 (evLst evNil))
  (evSeq (evForS (evRng1 (evCall F__law_pick (arTmp (evTake 0) (arTmp (evBin .Add (ev2 (evLoc 1) (evC (.int 2)))) (arTmp (evBin .Add (ev2 (evLoc 2) (evC (.int 1)))) arNil))))) 3 (.one 6) (evSeq (evSet 7 (evBin .Add (ev2 (evBin .Add (ev2 (evLoc 1) (evC (.int 10)))) (evBin .Mult (ev2 (evC (.int 6)) (evLoc 6))))))
  (evSeq (evPar 10 11 (evCons (evCall F__law_pick (arTmp (evTake 0) (arTmp (evTake 7) (arTmp (evTake 3) arNil)))) (evCons (evLeaf (evIdx (ev2 (evFrz (evLst (evCons (evC (.str "a")) (evCons (evC (.str "b")) (evCons (evC (.str "cd")) evNil))))) (evCall F__law_pick (arTmp (evTake 0) (arTmp (evBin .Add (ev2 (evLoc 7) (evC (.int 1)))) (arTmp (evC (.int 3)) arNil))))))) evNil)))
  (evSeq (evSet 8 (evLeaf (evIdx (ev2 (evFrz (evLst (evCons (evC (.str "p")) (evCons (evC (.str "q")) (evCons (evC (.str "home")) (evCons (evC (.str "z")) evNil)))))) (evCall F__law_pick (arTmp (evTake 0) (arTmp (evBin .Add (ev2 (evLoc 7) (evC (.int 2)))) (arTmp (evC (.int 4)) arNil))))))))
  (evSeq (evSet 9 (evLeaf (evIdx (ev2S 4 (evCall F__law_pick (arTmp (evTake 0) (arTmp (evBin .Add (ev2 (evLoc 7) (evC (.int 3)))) (arTmp (evB1 lenT (evLoc 4)) arNil))))))))
  (evSeq (evDrop (evApp 5 [] (evTup (evCons (evTake 10) (evCons (evTake 11) (evCons (evTake 8) (evCons (evTake 9) evNil)))))))
  (evSeq (evIf (evTst (evCmp .Eq (ev2 (evCall F__law_pick (arTmp (evTake 0) (arTmp (evBin .Add (ev2 (evLoc 7) (evC (.int 4)))) (arTmp (evC (.int 9)) arNil)))) (evC (.int 0))))) (evSeq (evDrop (evApp 5 [] (evLeaf (evIdx (ev2S 5 (evCall F__law_pick (arTmp (evTake 0) (arTmp (evBin .Add (ev2 (evLoc 7) (evC (.int 5)))) (arTmp (evB1 lenT (evLoc 5)) arNil)))))))))
  (fun env => .next env)) (fun env => .next env))
  (fun env => .next env))))))))
  (evSeq (evRet (evMove 5))
  (fun env => .next env))))))
def F__law_rows : List T → FR := evFn 12 3 ev__law_rows
theorem ok__law_rows {P : Program} {w : World} {K : PySem.W.Frag} {mg : Str → Option Value} {base : Heap} {f : Addr} {fd : FuncData} (F : FnP K "_law_rows" (top 23) f fd) (hx : mg "_law_rows" = some (.ref f)) (b_range : mg "range" = none) (h__law_pick : FnH P w K mg base 2 "_law_pick" ["script", "k", "many"] F__law_pick) (b_len : mg "len" = none) : FnH P w K mg base 3 "_law_rows" ["script", "at", "most"] F__law_rows := by
  have v0 : cVar ["script", "at", "most", "span", "signs", "made", "k", "here", "page", "person", "moment", "device"] (defScope (top 23)) 5 "made" = true := by kernel_rfl
  have g1 : cGl (defScope (top 23)) "range" = true := by kernel_rfl
  have v2 : cVar ["script", "at", "most", "span", "signs", "made", "k", "here", "page", "person", "moment", "device"] (defScope (top 23)) 0 "script" = true := by kernel_rfl
  have v3 : cVar ["script", "at", "most", "span", "signs", "made", "k", "here", "page", "person", "moment", "device"] (defScope (top 23)) 1 "at" = true := by kernel_rfl
  have v4 : cVar ["script", "at", "most", "span", "signs", "made", "k", "here", "page", "person", "moment", "device"] (defScope (top 23)) 2 "most" = true := by kernel_rfl
  have g5 : cGl (defScope (top 23)) "_law_pick" = true := by kernel_rfl
  have l6 : cLoc ["script", "at", "most", "span", "signs", "made", "k", "here", "page", "person", "moment", "device"] (defScope (top 23)) 6 "k" = true := by kernel_rfl
  have v7 : cVar ["script", "at", "most", "span", "signs", "made", "k", "here", "page", "person", "moment", "device"] (defScope (top 23)) 7 "here" = true := by kernel_rfl
  have g8 : cGl (defScope (top 23)) "len" = true := by kernel_rfl
  have v9 : cVar ["script", "at", "most", "span", "signs", "made", "k", "here", "page", "person", "moment", "device"] (defScope (top 23)) 10 "moment" = true := by kernel_rfl
  have v10 : cVar ["script", "at", "most", "span", "signs", "made", "k", "here", "page", "person", "moment", "device"] (defScope (top 23)) 11 "device" = true := by kernel_rfl
  have v11 : cVar ["script", "at", "most", "span", "signs", "made", "k", "here", "page", "person", "moment", "device"] (defScope (top 23)) 8 "page" = true := by kernel_rfl
  have v12 : cVar ["script", "at", "most", "span", "signs", "made", "k", "here", "page", "person", "moment", "device"] (defScope (top 23)) 9 "person" = true := by kernel_rfl
  have v13 : cVar ["script", "at", "most", "span", "signs", "made", "k", "here", "page", "person", "moment", "device"] (defScope (top 23)) 4 "signs" = true := by kernel_rfl
  have l14 : cLoc ["script", "at", "most", "span", "signs", "made", "k", "here", "page", "person", "moment", "device"] (defScope (top 23)) 9 "person" = true := by kernel_rfl
  have l15 : cLoc ["script", "at", "most", "span", "signs", "made", "k", "here", "page", "person", "moment", "device"] (defScope (top 23)) 8 "page" = true := by kernel_rfl
  have v16 : cVar ["script", "at", "most", "span", "signs", "made", "k", "here", "page", "person", "moment", "device"] (defScope (top 23)) 3 "span" = true := by kernel_rfl
  have l17 : cLoc ["script", "at", "most", "span", "signs", "made", "k", "here", "page", "person", "moment", "device"] (defScope (top 23)) 10 "moment" = true := by kernel_rfl
  have l18 : cLoc ["script", "at", "most", "span", "signs", "made", "k", "here", "page", "person", "moment", "device"] (defScope (top 23)) 11 "device" = true := by kernel_rfl
  have v19 : cVar ["script", "at", "most", "span", "signs", "made", "k", "here", "page", "person", "moment", "device"] (defScope (top 23)) 6 "k" = true := by kernel_rfl
  have l20 : cLoc ["script", "at", "most", "span", "signs", "made", "k", "here", "page", "person", "moment", "device"] (defScope (top 23)) 7 "here" = true := by kernel_rfl
  have l21 : cLoc ["script", "at", "most", "span", "signs", "made", "k", "here", "page", "person", "moment", "device"] (defScope (top 23)) 5 "made" = true := by kernel_rfl
  have l22 : cLoc ["script", "at", "most", "span", "signs", "made", "k", "here", "page", "person", "moment", "device"] (defScope (top 23)) 4 "signs" = true := by kernel_rfl
  have l23 : cLoc ["script", "at", "most", "span", "signs", "made", "k", "here", "page", "person", "moment", "device"] (defScope (top 23)) 3 "span" = true := by kernel_rfl
  refine fn_ok (k := 2) (N := ["script", "at", "most", "span", "signs", "made", "k", "here", "page", "person", "moment", "device"]) (ps := ["script", "at", "most"]) F ⟨rfl, rfl, rfl, by decide +kernel, by decide +kernel, by decide +kernel, by decide +kernel⟩ hx (by decide) (fun _ _ _ _ _ _ us hl => match us, hl with | [_, _, _], _ => rfl) ?_
  rintro X W rfl rfl rfl rfl rfl c
  exact (dss_cons (c.set l23 (by decide) rfl (de_leaf (c.idx (d2_own (de_frz (de_lst (da_cons de_int (da_cons de_int (da_cons de_int (da_cons de_int da_nil rfl) rfl) rfl) rfl))) (c.cal h__law_pick (by decide) g5 (dr_tmp (de_take (c.vr v2)) (dr_tmp (de_take (c.vr v3)) (dr_tmp de_int dr_nil rfl) rfl) rfl) rfl rfl).dp) rfl)))
    (dss_cons (c.set l22 (by decide) rfl (de_leaf (c.idx (d2_own (de_frz (de_lst (da_cons (de_lst (da_cons de_str (da_cons de_str (da_cons de_str (da_cons de_str (da_cons de_str da_nil rfl) rfl) rfl) rfl) rfl)) (da_cons (de_lst (da_cons de_str (da_cons de_str (da_cons de_str da_nil rfl) rfl) rfl)) (da_cons (de_lst (da_cons de_str da_nil rfl)) (da_cons (de_lst (da_cons de_str (da_cons de_str (da_cons de_str da_nil rfl) rfl) rfl)) da_nil rfl) rfl) rfl) rfl))) (c.cal h__law_pick (by decide) g5 (dr_tmp (de_take (c.vr v2)) (dr_tmp (de_bin (d2_pure (dp_loc (c.vr v3)) de_int.dp)) (dr_tmp de_int dr_nil rfl) rfl) rfl) rfl rfl).dp) rfl)))
    (dss_cons (c.set l21 (by decide) rfl (de_lst da_nil))
    (dss_cons (c.for (di_rng1 (c.gl g1) b_range (c.cal h__law_pick (by decide) g5 (dr_tmp (de_take (c.vr v2)) (dr_tmp (de_bin (d2_pure (dp_loc (c.vr v3)) de_int.dp)) (dr_tmp (de_bin (d2_pure (dp_loc (c.vr v4)) de_int.dp)) dr_nil rfl) rfl) rfl) rfl rfl) rfl) (c.g1 l6) (by decide) rfl (dss_cons (c.set l20 (by decide) rfl (de_bin (d2_pure (de_bin (d2_pure (dp_loc (c.vr v3)) de_int.dp)).dp (de_bin (d2_pure de_int.dp (dp_loc (c.vr v19)))).dp)))
    (dss_cons (c.par l17 l18 (by decide) (by kernel_rfl) (by kernel_rfl) (by decide) (by decide) (by kernel_rfl) (da_cons (c.cal h__law_pick (by decide) g5 (dr_tmp (de_take (c.vr v2)) (dr_tmp (de_take (c.vr v7)) (dr_tmp (de_take (c.vr v16)) dr_nil rfl) rfl) rfl) rfl rfl) (da_cons (de_leaf (c.idx (d2_own (de_frz (de_lst (da_cons de_str (da_cons de_str (da_cons de_str da_nil rfl) rfl) rfl))) (c.cal h__law_pick (by decide) g5 (dr_tmp (de_take (c.vr v2)) (dr_tmp (de_bin (d2_pure (dp_loc (c.vr v7)) de_int.dp)) (dr_tmp de_int dr_nil rfl) rfl) rfl) rfl rfl).dp) rfl)) da_nil rfl) rfl))
    (dss_cons (c.set l15 (by decide) rfl (de_leaf (c.idx (d2_own (de_frz (de_lst (da_cons de_str (da_cons de_str (da_cons de_str (da_cons de_str da_nil rfl) rfl) rfl) rfl))) (c.cal h__law_pick (by decide) g5 (dr_tmp (de_take (c.vr v2)) (dr_tmp (de_bin (d2_pure (dp_loc (c.vr v7)) de_int.dp)) (dr_tmp de_int dr_nil rfl) rfl) rfl) rfl rfl).dp) rfl)))
    (dss_cons (c.set l14 (by decide) rfl (de_leaf (c.idx (d2_slot (c.vr v13) (c.cal h__law_pick (by decide) g5 (dr_tmp (de_take (c.vr v2)) (dr_tmp (de_bin (d2_pure (dp_loc (c.vr v7)) de_int.dp)) (dr_tmp (c.len b_len g8 (dp_loc (c.vr v13)) rfl) dr_nil rfl) rfl) rfl) rfl rfl).dp) rfl)))
    (dss_cons (c.ex (de_app (ks := []) (pe_path0 (c.vr v0)) (de_tup (da_cons (de_take (c.vr v9)) (da_cons (de_take (c.vr v10)) (da_cons (de_take (c.vr v11)) (da_cons (de_take (c.vr v12)) da_nil rfl) rfl) rfl) rfl)) (.inl rfl) rfl (base_no rfl) rfl) rfl)
    (dss_cons (ds_if (c.tcmp (d2_pure (c.cal h__law_pick (by decide) g5 (dr_tmp (de_take (c.vr v2)) (dr_tmp (de_bin (d2_pure (dp_loc (c.vr v7)) de_int.dp)) (dr_tmp de_int dr_nil rfl) rfl) rfl) rfl rfl).dp de_int.dp) rfl) (dss_cons (c.ex (de_app (ks := []) (pe_path0 (c.vr v0)) (de_leaf (c.idx (d2_slot (c.vr v0) (c.cal h__law_pick (by decide) g5 (dr_tmp (de_take (c.vr v2)) (dr_tmp (de_bin (d2_pure (dp_loc (c.vr v7)) de_int.dp)) (dr_tmp (c.len b_len g8 (dp_loc (c.vr v0)) rfl) dr_nil rfl) rfl) rfl) rfl rfl).dp) rfl)) (.inl rfl) rfl (base_no rfl) rfl) rfl)
    dss_nil) dss_nil)
    dss_nil)))))))
    (dss_cons (ds_ret (de_move (c.vr v0)))
    dss_nil)))))
def ev__law_turned : Es := (evSeq (evPar 3 4 (evCons (evB1 listT (evLoc 2)) (evCons (evLst evNil) evNil)))
  (evSeq (evWhile (evTst (evCmp .NotEq (ev2 (evLoc 3) (evLst evNil)))) (evSeq (evDrop (evApp 4 [] (evPop 3 (evCall F__law_pick (arTmp (evTake 0) (arTmp (evBin .Add (ev2 (evLoc 1) (evB1 lenT (evLoc 3)))) (arTmp (evB1 lenT (evLoc 3)) arNil)))))))
  (fun env => .next env)) 100000)
  (evSeq (evRet (evMove 4))
  (fun env => .next env))))
def F__law_turned : List T → FR := evFn 5 3 ev__law_turned
theorem ok__law_turned {P : Program} {w : World} {K : PySem.W.Frag} {mg : Str → Option Value} {base : Heap} {f : Addr} {fd : FuncData} (F : FnP K "_law_turned" (top 24) f fd) (hx : mg "_law_turned" = some (.ref f)) (b_len : mg "len" = none) (h__law_pick : FnH P w K mg base 2 "_law_pick" ["script", "k", "many"] F__law_pick) (b_list : mg "list" = none) : FnH P w K mg base 3 "_law_turned" ["script", "at", "rows"] F__law_turned := by
  have v0 : cVar ["script", "at", "rows", "left", "made"] (defScope (top 24)) 4 "made" = true := by kernel_rfl
  have v1 : cVar ["script", "at", "rows", "left", "made"] (defScope (top 24)) 3 "left" = true := by kernel_rfl
  have v2 : cVar ["script", "at", "rows", "left", "made"] (defScope (top 24)) 0 "script" = true := by kernel_rfl
  have g3 : cGl (defScope (top 24)) "len" = true := by kernel_rfl
  have v4 : cVar ["script", "at", "rows", "left", "made"] (defScope (top 24)) 1 "at" = true := by kernel_rfl
  have g5 : cGl (defScope (top 24)) "_law_pick" = true := by kernel_rfl
  have v6 : cVar ["script", "at", "rows", "left", "made"] (defScope (top 24)) 2 "rows" = true := by kernel_rfl
  have g7 : cGl (defScope (top 24)) "list" = true := by kernel_rfl
  have l8 : cLoc ["script", "at", "rows", "left", "made"] (defScope (top 24)) 3 "left" = true := by kernel_rfl
  have l9 : cLoc ["script", "at", "rows", "left", "made"] (defScope (top 24)) 4 "made" = true := by kernel_rfl
  refine fn_ok (k := 2) (N := ["script", "at", "rows", "left", "made"]) (ps := ["script", "at", "rows"]) F ⟨rfl, rfl, rfl, by decide +kernel, by decide +kernel, by decide +kernel, by decide +kernel⟩ hx (by decide) (fun _ _ _ _ _ _ us hl => match us, hl with | [_, _, _], _ => rfl) ?_
  rintro X W rfl rfl rfl rfl rfl c
  exact (dss_cons (c.par l8 l9 (by decide) (by kernel_rfl) (by kernel_rfl) (by decide) (by decide) (by kernel_rfl) (da_cons (c.lst b_list g7 (dp_loc (c.vr v6)) rfl) (da_cons (de_lst da_nil) da_nil rfl) rfl))
    (dss_cons (c.while 100000 (c.tcmp (d2_pure (dp_loc (c.vr v1)) (de_lst da_nil).dp) rfl) (dss_cons (c.ex (de_app (ks := []) (pe_path0 (c.vr v0)) (de_pop (c.vr v1) (c.cal h__law_pick (by decide) g5 (dr_tmp (de_take (c.vr v2)) (dr_tmp (de_bin (d2_pure (dp_loc (c.vr v4)) (c.len b_len g3 (dp_loc (c.vr v1)) rfl).dp)) (dr_tmp (c.len b_len g3 (dp_loc (c.vr v1)) rfl) dr_nil rfl) rfl) rfl) rfl rfl) rfl (base_no rfl) rfl) (.inl rfl) rfl (base_no rfl) rfl) rfl)
    dss_nil))
    (dss_cons (ds_ret (de_move (c.vr v0)))
    dss_nil)))
def ev_law : Es := (evSeq (evSet 1 (evCall F__law_rows (arTmp (evTake 0) (arTmp (evC (.int 10)) (arTmp (evC (.int 10)) arNil)))))
  (evSeq (evSet 2 (evCall F__law_turned (arTmp (evTake 0) (arTmp (evC (.int 200)) (arTmp (evTake 1) arNil)))))
  (evSeq (evIf (bopT false (evTst (evCmp .NotEq (ev2 (evCall F_in_order (arTmp (evTake 1) arNil)) (evCall F_in_order (arTmp (evTake 2) arNil))))) (bopT false (evTst (evCmp .NotEq (ev2 (evCall F_in_order (arTmp (evTake 1) arNil)) (evB1 ssT (evLoc 1))))) (evTst (evCmp .NotEq (ev2 (evCall F_owners (arTmp (evTake 1) arNil)) (evCall F_owners (arTmp (evTake 2) arNil))))))) (evSeq (evRet (evC (.bool false)))
  (fun env => .next env)) (fun env => .next env))
  (evSeq (evSet 3 evDct)
  (evSeq (evForS (evFix (evCall F_in_order (arTmp (evTake 1) arNil))) 1 (.one 4) (evSeq (evSet 5 (evCall F_whose (arTmp (evTake 1) (arTmp (evTake 4) arNil))))
  (evSeq (evIf (bopT false (evTst (evCmp .NotEq (ev2 (evCall F_whose (arTmp (evB1 tupleT (evLoc 2)) (arTmp (evTake 4) arNil))) (evLoc 5)))) (evTst (evCmp .NotIn (ev2S 5 (evCall F_owners (arTmp (evTake 1) arNil)))))) (evSeq (evRet (evC (.bool false)))
  (fun env => .next env)) (fun env => .next env))
  (evSeq (evIf (bopT false (bopT true (evTst (evCmp .NotEq (ev2 (evIdx (ev2 (evLoc 4) (evC (.int 3)))) (evC (.str ""))))) (evTst (evCmp .NotEq (ev2 (evLoc 5) (evIdx (ev2 (evLoc 4) (evC (.int 3)))))))) (bopT true (evTst (evCmp .Eq (ev2 (evSli (evLoc 5) none (some (evC (.int 1)))) (evC (.str "."))))) (evTst (evCmp .NotEq (ev2 (evLoc 5) (evBin .Add (ev2 (evC (.str ".")) (evIdx (ev2 (evLoc 4) (evC (.int 1))))))))))) (evSeq (evRet (evC (.bool false)))
  (fun env => .next env)) (fun env => .next env))
  (evSeq (evDrop (evSda 3 (evLoc 5) (evLeaf (evIdx (ev2 (evLoc 4) (evC (.int 1)))))))
  (evSeq (evIf (evTst (evCmp .Gt (ev2 (evCmp .In (ev2S 4 (evCall F_late (arTmp (evTake 1) arNil)))) (evBop true (evCmp .Eq (ev2 (evIdx (ev2 (evLoc 4) (evC (.int 3)))) (evC (.str "")))) (evCmp .NotEq (ev2 (evSli (evLoc 5) none (some (evC (.int 1)))) (evC (.str ".")))))))) (evSeq (evRet (evC (.bool false)))
  (fun env => .next env)) (fun env => .next env))
  (fun env => .next env)))))))
  (evSeq (evIf (evTst (evCmp .NotEq (ev2 (evB1 srdT (evLoc 3)) (evCall F_owners (arTmp (evTake 1) arNil))))) (evSeq (evRet (evC (.bool false)))
  (fun env => .next env)) (fun env => .next env))
  (evSeq (evForS (evFix (evBin .Add (ev2 (evCall F_owners (arTmp (evTake 1) arNil)) (evLst (evCons (evSli (evC (.str "nobody")) none (some (evC (.int 4)))) evNil))))) 1 (.one 5) (evSeq (evIf (evTst (evCmp .NotEq (ev2 (evCall F_devices_of (arTmp (evTake 2) (arTmp (evTake 5) arNil))) (evB1 ssT (evGet 3 (evLoc 5) (evLst evNil)))))) (evSeq (evRet (evC (.bool false)))
  (fun env => .next env)) (fun env => .next env))
  (fun env => .next env)))
  (evSeq (evSet 6 (evComp (evFix (evTup (evCons (evC (.str "a")) (evCons (evC (.str "b")) (evCons (evC (.str "cd")) evNil))))) (.one 8) [8] (fun env => .ok true env) (evB1 lenT (evComp (evKeys 3) (.one 5) [5] (evTst (evCmp .In (ev2 (evLoc 8) (evIdx (ev2 (evLoc 3) (evLoc 5)))))) (evTake 5)))))
  (evSeq (evSet 7 (evComp (evZipX (evCons (evTup (evCons (evC (.str "a")) (evCons (evC (.str "b")) (evCons (evC (.str "cd")) evNil)))) (evCons (evTake 6) evNil))) (.many [8, 9]) [8, 9] (evTst (evCmp .Gt (ev2 (evLoc 9) (evC (.int 1))))) (evTake 8)))
  (evSeq (evRet (evBop true (evCmp .Eq (ev2 (evCall F_shared (arTmp (evTake 1) arNil)) (evLoc 7))) (evBop true (evCmp .Eq (ev2 (evCall F_late (arTmp (evTake 1) arNil)) (evCall F_late (arTmp (evTake 2) arNil)))) (evCmp .Eq (ev2 (evCall F_late (arTmp (evTake 1) arNil)) (evCall F_in_order (arTmp (evCall F_late (arTmp (evTake 1) arNil)) arNil)))))))
  (fun env => .next env)))))))))))
def F_law : List T → FR := evFn 10 1 ev_law
theorem okf_law {P : Program} {w : World} {K : PySem.W.Frag} {mg : Str → Option Value} {base : Heap} {f : Addr} {fd : FuncData} (F : FnP K "law" (top 25) f fd) (hx : mg "law" = some (.ref f)) (h_shared : FnH P w K mg base 4 "shared" ["steps"] F_shared) (h_late : FnH P w K mg base 5 "late" ["steps"] F_late) (h_in_order : FnH P w K mg base 4 "in_order" ["steps"] F_in_order) (b_zip : mg "zip" = none) (b_len : mg "len" = none) (h_owners : FnH P w K mg base 4 "owners" ["steps"] F_owners) (b_sorted : mg "sorted" = none) (b_set : mg "set" = none) (h_devices_of : FnH P w K mg base 4 "devices_of" ["steps", "owner"] F_devices_of) (b_tuple : mg "tuple" = none) (h_whose : FnH P w K mg base 4 "whose" ["steps", "step"] F_whose) (h__law_turned : FnH P w K mg base 3 "_law_turned" ["script", "at", "rows"] F__law_turned) (h__law_rows : FnH P w K mg base 3 "_law_rows" ["script", "at", "most"] F__law_rows) : FnHf P w K mg base 6 "law" ["script"] F_law f fd := by
  have v0 : cVar ["script", "rows", "other", "book", "step", "owner", "many", "due", "device", "count"] (defScope (top 25)) 7 "due" = true := by kernel_rfl
  have v1 : cVar ["script", "rows", "other", "book", "step", "owner", "many", "due", "device", "count"] (defScope (top 25)) 1 "rows" = true := by kernel_rfl
  have g2 : cGl (defScope (top 25)) "shared" = true := by kernel_rfl
  have v3 : cVar ["script", "rows", "other", "book", "step", "owner", "many", "due", "device", "count"] (defScope (top 25)) 2 "other" = true := by kernel_rfl
  have g4 : cGl (defScope (top 25)) "late" = true := by kernel_rfl
  have g5 : cGl (defScope (top 25)) "in_order" = true := by kernel_rfl
  have g6 : cGl (defScope (top 25)) "zip" = true := by kernel_rfl
  have v7 : cVar ["script", "rows", "other", "book", "step", "owner", "many", "due", "device", "count"] (defScope (top 25)) 6 "many" = true := by kernel_rfl
  have l8 : cLoc ["script", "rows", "other", "book", "step", "owner", "many", "due", "device", "count"] (defScope (top 25)) 7 "due" = true := by kernel_rfl
  have l9 : cLoc ["script", "rows", "other", "book", "step", "owner", "many", "due", "device", "count"] (defScope (top 25)) 6 "many" = true := by kernel_rfl
  have g10 : cGl (defScope (top 25)) "owners" = true := by kernel_rfl
  have l11 : cLoc ["script", "rows", "other", "book", "step", "owner", "many", "due", "device", "count"] (defScope (top 25)) 5 "owner" = true := by kernel_rfl
  have v12 : cVar ["script", "rows", "other", "book", "step", "owner", "many", "due", "device", "count"] (defScope (top 25)) 5 "owner" = true := by kernel_rfl
  have v13 : cVar ["script", "rows", "other", "book", "step", "owner", "many", "due", "device", "count"] (defScope (top 25)) 3 "book" = true := by kernel_rfl
  have g14 : cGl (defScope (top 25)) "sorted" = true := by kernel_rfl
  have g15 : cGl (defScope (top 25)) "set" = true := by kernel_rfl
  have g16 : cGl (defScope (top 25)) "devices_of" = true := by kernel_rfl
  have l17 : cLoc ["script", "rows", "other", "book", "step", "owner", "many", "due", "device", "count"] (defScope (top 25)) 4 "step" = true := by kernel_rfl
  have v18 : cVar ["script", "rows", "other", "book", "step", "owner", "many", "due", "device", "count"] (defScope (top 25)) 4 "step" = true := by kernel_rfl
  have g19 : cGl (defScope (top 25)) "tuple" = true := by kernel_rfl
  have g20 : cGl (defScope (top 25)) "whose" = true := by kernel_rfl
  have l21 : cLoc ["script", "rows", "other", "book", "step", "owner", "many", "due", "device", "count"] (defScope (top 25)) 3 "book" = true := by kernel_rfl
  have v22 : cVar ["script", "rows", "other", "book", "step", "owner", "many", "due", "device", "count"] (defScope (top 25)) 0 "script" = true := by kernel_rfl
  have g23 : cGl (defScope (top 25)) "_law_turned" = true := by kernel_rfl
  have l24 : cLoc ["script", "rows", "other", "book", "step", "owner", "many", "due", "device", "count"] (defScope (top 25)) 2 "other" = true := by kernel_rfl
  have g25 : cGl (defScope (top 25)) "_law_rows" = true := by kernel_rfl
  have l26 : cLoc ["script", "rows", "other", "book", "step", "owner", "many", "due", "device", "count"] (defScope (top 25)) 1 "rows" = true := by kernel_rfl
  refine fn_okf (k := 5) (N := ["script", "rows", "other", "book", "step", "owner", "many", "due", "device", "count"]) (ps := ["script"]) F ⟨rfl, rfl, rfl, by decide +kernel, by decide +kernel, by decide +kernel, by decide +kernel⟩ hx (by decide) (fun _ _ _ _ _ _ us hl => match us, hl with | [_], _ => rfl) ?_
  rintro X W rfl rfl rfl rfl rfl c
  exact (dss_cons (c.set l26 (by decide) rfl (c.cal h__law_rows (by decide) g25 (dr_tmp (de_take (c.vr v22)) (dr_tmp de_int (dr_tmp de_int dr_nil rfl) rfl) rfl) rfl rfl))
    (dss_cons (c.set l24 (by decide) rfl (c.cal h__law_turned (by decide) g23 (dr_tmp (de_take (c.vr v22)) (dr_tmp de_int (dr_tmp (de_take (c.vr v1)) dr_nil rfl) rfl) rfl) rfl rfl))
    (dss_cons (ds_if (dw_or (c.tcmp (d2_own (c.cal h_in_order (by decide) g5 (dr_tmp (de_take (c.vr v1)) dr_nil rfl) rfl rfl) (c.cal h_in_order (by decide) g5 (dr_tmp (de_take (c.vr v3)) dr_nil rfl) rfl rfl).dp) rfl) (dw_or (c.tcmp (d2_pure (c.cal h_in_order (by decide) g5 (dr_tmp (de_take (c.vr v1)) dr_nil rfl) rfl rfl).dp (c.sset b_sorted g14 b_set g15 (dp_loc (c.vr v1)) rfl).dp) rfl) (dw_or1 (c.tcmp (d2_own (c.cal h_owners (by decide) g10 (dr_tmp (de_take (c.vr v1)) dr_nil rfl) rfl rfl) (c.cal h_owners (by decide) g10 (dr_tmp (de_take (c.vr v3)) dr_nil rfl) rfl rfl).dp) rfl)))).dt (dss_cons (ds_ret de_bool)
    dss_nil) dss_nil)
    (dss_cons (c.set l21 (by decide) rfl de_dct)
    (dss_cons (c.for (di_fix (c.cal h_in_order (by decide) g5 (dr_tmp (de_take (c.vr v1)) dr_nil rfl) rfl rfl)) (c.g1 l17) (by decide) rfl (dss_cons (c.set l11 (by decide) rfl (c.cal h_whose (by decide) g20 (dr_tmp (de_take (c.vr v1)) (dr_tmp (de_take (c.vr v18)) dr_nil rfl) rfl) rfl rfl))
    (dss_cons (ds_if (dw_or (c.tcmp (d2_pure (c.cal h_whose (by decide) g20 (dr_tmp (c.tup b_tuple g19 (dp_loc (c.vr v3)) rfl) (dr_tmp (de_take (c.vr v18)) dr_nil rfl) rfl) rfl rfl).dp (dp_loc (c.vr v12))) rfl) (dw_or1 (c.tcmp (d2_slot (c.vr v12) (c.cal h_owners (by decide) g10 (dr_tmp (de_take (c.vr v1)) dr_nil rfl) rfl rfl).dp) rfl))).dt (dss_cons (ds_ret de_bool)
    dss_nil) dss_nil)
    (dss_cons (ds_if (dw_or (dw_and (c.tcmp (d2_pure (c.idx (d2_pure (dp_loc (c.vr v18)) de_int.dp) rfl) de_str.dp) rfl) (dw_and1 (c.tcmp (d2_pure (dp_loc (c.vr v12)) (c.idx (d2_pure (dp_loc (c.vr v18)) de_int.dp) rfl)) rfl))).dt (dw_or1 (dw_and (c.tcmp (d2_pure (de_sli (dp_loc (c.vr v12)) do_none (do_some de_int)).dp de_str.dp) rfl) (dw_and1 (c.tcmp (d2_pure (dp_loc (c.vr v12)) (de_bin (d2_pure de_str.dp (c.idx (d2_pure (dp_loc (c.vr v18)) de_int.dp) rfl))).dp) rfl))).dt)).dt (dss_cons (ds_ret de_bool)
    dss_nil) dss_nil)
    (dss_cons (c.ex (de_sda (c.vr v13) (dp_loc (c.vr v12)) (de_leaf (c.idx (d2_pure (dp_loc (c.vr v18)) de_int.dp) rfl)) ⟨base_no rfl, rfl, rfl, rfl⟩ rfl (base_no rfl) rfl) rfl)
    (dss_cons (ds_if (c.tcmp (d2_pure (c.cmp (d2_slot (c.vr v18) (c.cal h_late (by decide) g4 (dr_tmp (de_take (c.vr v1)) dr_nil rfl) rfl rfl).dp) rfl).dp (de_and (c.cmp (d2_pure (c.idx (d2_pure (dp_loc (c.vr v18)) de_int.dp) rfl) de_str.dp) rfl) (de_one (c.cmp (d2_pure (de_sli (dp_loc (c.vr v12)) do_none (do_some de_int)).dp de_str.dp) rfl))).dp) rfl) (dss_cons (ds_ret de_bool)
    dss_nil) dss_nil)
    dss_nil))))))
    (dss_cons (ds_if (c.tcmp (d2_own (c.srd b_sorted g14 (dp_loc (c.vr v13)) rfl) (c.cal h_owners (by decide) g10 (dr_tmp (de_take (c.vr v1)) dr_nil rfl) rfl rfl).dp) rfl) (dss_cons (ds_ret de_bool)
    dss_nil) dss_nil)
    (dss_cons (c.for (di_fix (de_bin (d2_pure (c.cal h_owners (by decide) g10 (dr_tmp (de_take (c.vr v1)) dr_nil rfl) rfl rfl).dp (de_lst (da_cons (de_sli de_str.dp do_none (do_some de_int)) da_nil rfl)).dp))) (c.g1 l11) (by decide) rfl (dss_cons (ds_if (c.tcmp (d2_pure (c.cal h_devices_of (by decide) g16 (dr_tmp (de_take (c.vr v3)) (dr_tmp (de_take (c.vr v12)) dr_nil rfl) rfl) rfl rfl).dp (c.sset b_sorted g14 b_set g15 (c.get (c.vr v13) (dp_loc (c.vr v12)) (de_lst da_nil) ⟨base_no rfl, rfl, rfl, rfl⟩) rfl).dp) rfl) (dss_cons (ds_ret de_bool)
    dss_nil) dss_nil)
    dss_nil))
    (dss_cons (c.setLc l9 (by kernel_rfl) (by decide) (by kernel_rfl) (own := [("device", 8)]) (by kernel_rfl) (by decide) rfl (di_fix (de_tup (da_cons de_str (da_cons de_str (da_cons de_str da_nil rfl) rfl) rfl))) (fun q1 => c.bg1 (by kernel_rfl) q1) (fun q1 => dts_nil) (fun q1 => ((c.blk _ q1).len b_len (by kernel_rfl) ((c.blk _ q1).comp (own := [("owner", 5)]) (by kernel_rfl) (by decide) rfl (di_keys ((c.blk _ q1).vr (by kernel_rfl))) (fun q2 => (c.blk _ q1).bg1 (by kernel_rfl) q2) (fun q2 => (dts_one (((c.blk _ q1).blk _ q2).tcmp (d2_pure (dp_loc (((c.blk _ q1).blk _ q2).vr (by kernel_rfl))) (((c.blk _ q1).blk _ q2).idx (d2_pure (dp_loc (((c.blk _ q1).blk _ q2).vr (by kernel_rfl))) (dp_loc (((c.blk _ q1).blk _ q2).vr (by kernel_rfl)))) rfl)) rfl))) (fun q2 => (de_take (((c.blk _ q1).blk _ q2).vr (by kernel_rfl))))).dp rfl)))
    (dss_cons (c.setLc l8 (by kernel_rfl) (by decide) (by kernel_rfl) (own := [("device", 8), ("count", 9)]) (by kernel_rfl) (by decide) rfl (di_zipX (c.gl g6) b_zip (da_cons (de_tup (da_cons de_str (da_cons de_str (da_cons de_str da_nil rfl) rfl) rfl)) (da_cons (de_take (c.vr v7)) da_nil rfl) rfl) rfl rfl) (fun q1 => (dg_many c.calm (pgs_cons (c.bg (by kernel_rfl) q1) (pgs_cons (c.bg (by kernel_rfl) q1) pgs_nil rfl) rfl) rfl rfl rfl)) (fun q1 => (dts_one ((c.blk _ q1).tcmp (d2_pure (dp_loc ((c.blk _ q1).vr (by kernel_rfl))) de_int.dp) rfl))) (fun q1 => (de_take ((c.blk _ q1).vr (by kernel_rfl)))))
    (dss_cons (ds_ret (de_and (c.cmp (d2_pure (c.cal h_shared (by decide) g2 (dr_tmp (de_take (c.vr v1)) dr_nil rfl) rfl rfl).dp (dp_loc (c.vr v0))) rfl) (de_and (c.cmp (d2_own (c.cal h_late (by decide) g4 (dr_tmp (de_take (c.vr v1)) dr_nil rfl) rfl rfl) (c.cal h_late (by decide) g4 (dr_tmp (de_take (c.vr v3)) dr_nil rfl) rfl rfl).dp) rfl) (de_one (c.cmp (d2_own (c.cal h_late (by decide) g4 (dr_tmp (de_take (c.vr v1)) dr_nil rfl) rfl rfl) (c.cal h_in_order (by decide) g5 (dr_tmp (c.cal h_late (by decide) g4 (dr_tmp (de_take (c.vr v1)) dr_nil rfl) rfl rfl) dr_nil rfl) rfl rfl).dp) rfl)))))
    dss_nil))))))))))
end VW

/-! VM0: what evaluators tell, as rewriting. -/
namespace VR
open PySem PySem.Spec PyProof.Rows L2
section
variable {α β : Type}
@[simp] theorem bind_ok (a : α) (env : Envt) (f : α → Envt → R β) : (R.ok a env).bind f = f a env := rfl
@[simp] theorem bind_exc (c : Str) (env : Envt) (f : α → Envt → R β) : (R.exc c env : R α).bind f = .exc c env := rfl
@[simp] theorem bind_fail (f : α → Envt → R β) : (R.fail : R α).bind f = .fail := rfl
@[simp] theorem nox_ok (a : α) (env : Envt) (f : α → Envt → R β) : (R.ok a env).nox f = f a env := rfl
@[simp] theorem st_ok (a : α) (env : Envt) (f : α → Envt → SRs) : (R.ok a env).st f = f a env := rfl
@[simp] theorem st_exc (c : Str) (env : Envt) (f : α → Envt → SRs) : (R.exc c env : R α).st f = .exc c env := rfl
@[simp] theorem st_fail (f : α → Envt → SRs) : (R.fail : R α).st f = .fail := rfl
@[simp] theorem lift_some (a : α) (env : Envt) : R.lift (some a) env = .ok a env := rfl
@[simp] theorem lift_none (env : Envt) : (R.lift none env : R α) = .fail := rfl
end
def SRs.then (r : SRs) (b : Es) : SRs := match r with
  | .next env' => b env'
  | r => r
@[simp] theorem then_next (env : Envt) (b : Es) : (SRs.next env).then b = b env := rfl
@[simp] theorem then_ret (t : T) (env : Envt) (b : Es) : (SRs.ret t env).then b = .ret t env := rfl
@[simp] theorem then_exc (c : Str) (env : Envt) (b : Es) : (SRs.exc c env).then b = .exc c env := rfl
@[simp] theorem then_cnt (env : Envt) (b : Es) : (SRs.cnt env).then b = .cnt env := rfl
@[simp] theorem then_fail (b : Es) : SRs.fail.then b = .fail := rfl
section
variable (ea eb ec : Ev) (tc ta tb : Envt → R Bool) (es es2 : Es) (env : Envt) (i j : Nat) (d : PyData) (e2 : Envt → R (T × T)) (op : Operator) (co o1 o2 : CmpOp)
@[simp] theorem evSeq_ap : evSeq es es2 env = (es env).then es2 := rfl
@[simp] theorem evC_ap : evC d env = .ok (.dat d) env := rfl
@[simp] theorem ev2_ap : ev2 ea eb env = (ea env).bind fun t env1 => (eb env1).bind fun u env2 => .ok (t, u) env2 := rfl
@[simp] theorem evBin_ap : evBin op e2 env = (e2 env).bind fun tu env' => R.lift (binT op tu.1 tu.2) env' := rfl
@[simp] theorem evCmp_ap : evCmp co e2 env = (e2 env).bind fun tu env' => R.lift ((cmpT co tu.1 tu.2).map fun b => T.dat (.bool b)) env' := rfl
@[simp] theorem evTst_ap : evTst ea env = (ea env).bind fun t env' => R.lift t.bool? env' := rfl
@[simp] theorem bopT_ap (b : Bool) : bopT b ta tb env = (ta env).bind fun c env' => if c = b then tb env' else .ok c env' := rfl
@[simp] theorem notT_ap : notT ta env = (ta env).bind fun c env' => .ok (!c) env' := rfl
@[simp] theorem evNot_ap : evNot ea env = (ea env).bind fun t env' => R.lift (t.bool?.map fun c => T.dat (.bool !c)) env' := rfl
@[simp] theorem evIte_ap : evIte tc ea eb env = (tc env).bind fun c env' => if c = true then ea env' else eb env' := rfl
@[simp] theorem evIdx_ap : evIdx e2 env = (e2 env).bind fun tu env' => R.lift (idxT tu.1 tu.2) env' := rfl
@[simp] theorem evB1_ap (F : T → Option T) : evB1 F ea env = (ea env).bind fun t env' => R.lift (F t) env' := rfl
@[simp] theorem evIsi_ap (ns : List String) : evIsi ns ea env = (ea env).bind fun t env' => R.lift ((tyT t).map fun n => T.dat (.bool (ns.any fun b => isiB n b))) env' := rfl
@[simp] theorem evFrz_ap : evFrz ea env = (ea env).bind fun t env' => R.lift (t.frz.map T.dat) env' := rfl
@[simp] theorem evNil_ap : evNil env = .ok [] env := rfl
@[simp] theorem evCons_ap (xs : Envt → R (List T)) : evCons ea xs env = (ea env).bind fun t env1 => (xs env1).bind fun ts env2 => .ok (t :: ts) env2 := rfl
@[simp] theorem evLst_ap (xs : Envt → R (List T)) : evLst xs env = (xs env).bind fun ts env' => if ts.length ≤ sizeLine then .ok (.node .lst ts) env' else .fail := rfl
@[simp] theorem evTup_ap (xs : Envt → R (List T)) : evTup xs env = (xs env).bind fun ts env' => match frzAll ts with
  | some ds => if ts.length ≤ sizeLine then .ok (.dat (.tuple ds)) env' else .fail
  | none => .fail := rfl
@[simp] theorem evPart_none : evPart none env = .ok none env := rfl
@[simp] theorem evPart_some : evPart (some ea) env = (ea env).bind fun t env' => R.lift (t.int?.map some) env' := rfl
@[simp] theorem evSli_ap (lo hi : Option Ev) : evSli ea lo hi env = (ea env).bind fun t env1 => (evPart lo env1).bind fun l env2 => (evPart hi env2).bind fun h env3 => R.lift (sliT t l h) env3 := rfl
@[simp] theorem evIf_ap : evIf tc es es2 env = (tc env).st fun c env' => if c = true then es env' else es2 env' := rfl
@[simp] theorem evRet_ap : evRet ea env = (ea env).st fun t env' => .ret t env' := rfl
@[simp] theorem evDrop_ap : evDrop ea env = (ea env).st fun _ env' => .next env' := rfl
@[simp] theorem evSet_ap : evSet i ea env = (ea env).st fun t env' => if i < env'.length then .next (env'.set i (some t)) else .fail := rfl
@[simp] theorem evRaise_ap (c : Str) : evRaise c env = .exc c env := rfl
@[simp] theorem arNil_ap : arNil env = .ok [] env := rfl
@[simp] theorem arTmp_ap (xs : Envt → R (List Ar)) : arTmp ea xs env = (ea env).bind fun t env1 => (xs env1).bind fun ars env2 => .ok (.tmp t :: ars) env2 := rfl
@[simp] theorem lends_nil : lends [] = [] := rfl
@[simp] theorem lends_tmp (t : T) (l : List Ar) : lends (.tmp t :: l) = lends l := rfl
@[simp] theorem lends_lend (l : List Ar) : lends (.lend i :: l) = i :: lends l := rfl
@[simp] theorem lendT_nil : lendT env [] = some [] := rfl
@[simp] theorem lendT_tmp (t : T) (l : List Ar) : lendT env (.tmp t :: l) = (lendT env l).map (t :: ·) := rfl
@[simp] theorem give_nil (ts : List T) : give [] ts env = env := by cases ts <;> rfl
@[simp] theorem give_tmp (t u : T) (l : List Ar) (ts : List T) : give (.tmp t :: l) (u :: ts) env = give l ts env := rfl
@[simp] theorem give_lend (u : T) (l : List Ar) (ts : List T) : give (.lend i :: l) (u :: ts) env = give l ts (env.set i (some u)) := rfl
@[simp] theorem hide_nil : hide [] env = env := rfl
@[simp] theorem hide_cons (l : List Nat) : hide (i :: l) env = hide l (env.set i none) := rfl
@[simp] theorem back_nil (env0 : Envt) : back [] env0 env = env := rfl
@[simp] theorem back_cons (env0 : Envt) (l : List Nat) : back (i :: l) env0 env = back l env0 (env.set i ((env0[i]?).getD none)) := rfl
end
@[simp] theorem bool?_bool (b : Bool) : (T.dat (.bool b)).bool? = some b := rfl
@[simp] theorem int?_int (i : Int) : (T.dat (.int i)).int? = some i := rfl
@[simp] theorem frz_dat (d : PyData) : (T.dat d).frz = some d := rfl
@[simp] theorem frz_tl (ds : List PyData) : (tl ds).frz = some (.list ds) := by
  show (frzAll (ds.map T.dat)).map PyData.list = _
  rw [frzAll_dat]
  rfl
@[simp] theorem seq_tl (ds : List PyData) : (tl ds).seq = some (false, ds) := by
  show (allDat (ds.map T.dat)).map _ = _
  rw [allDat_map]
  rfl
@[simp] theorem seq_list (ds : List PyData) : (T.dat (.list ds)).seq = some (false, ds) := rfl
@[simp] theorem seq_tuple (ds : List PyData) : (T.dat (.tuple ds)).seq = some (true, ds) := rfl
@[simp] theorem frzAll_nil : frzAll [] = some [] := by simp [frzAll]
@[simp] theorem frzAll_dcons (d : PyData) (ts : List T) : frzAll (.dat d :: ts) = (frzAll ts).map (d :: ·) := by
  rw [frzAll]
  simp only [frz_dat]
  cases frzAll ts <;> rfl
/-! numbers, texts -/
@[simp] theorem add_int (a b : Int) : binT .Add (.dat (.int a)) (.dat (.int b)) = some (.dat (.int (a + b))) := rfl
@[simp] theorem sub_int (a b : Int) : binT .Sub (.dat (.int a)) (.dat (.int b)) = some (.dat (.int (a - b))) := rfl
@[simp] theorem mul_int (a b : Int) : binT .Mult (.dat (.int a)) (.dat (.int b)) = if (-(2 ^ 64) < a ∧ a < 2 ^ 64) ∨ (-(2 ^ 64) < b ∧ b < 2 ^ 64) then some (.dat (.int (a * b))) else none := rfl
@[simp] theorem div_int (a b : Int) : binT .FloorDiv (.dat (.int a)) (.dat (.int b)) = if b ≠ 0 ∧ b.natAbs < 1073741824 then some (.dat (.int (a.fdiv b))) else none := rfl
@[simp] theorem mod_int (a b : Int) : binT .Mod (.dat (.int a)) (.dat (.int b)) = if b ≠ 0 then some (.dat (.int (a.fmod b))) else none := rfl
theorem okD_toD {α : Type} [DecidableEq α] [PySem.W.Datum α] (h : PySem.W.Datum.depth α ≤ 40) (x : α) : okD (PySem.W.Datum.toD x) = true := by
  unfold okD
  rw [PySem.W.Datum.plain]
  have := PySem.W.Datum.depth_le x
  simp
  omega
theorem eq_toD {α : Type} [DecidableEq α] [PySem.W.Datum α] (h : PySem.W.Datum.depth α ≤ 40) (t u : T) (x y : α) (ht : t.frz = some (PySem.W.Datum.toD x)) (hu : u.frz = some (PySem.W.Datum.toD y)) : eqT t u = some (decide (x = y)) := by
  unfold eqT
  rw [ht, hu]
  simp only [Option.bind_some, okD_toD h, Bool.and_self, if_true, PySem.W.Datum.eqv]
@[simp] theorem eq_int (a b : Int) : eqT (.dat (.int a)) (.dat (.int b)) = some (decide (a = b)) := eq_toD (α := Int) (by decide) _ _ a b rfl rfl
@[simp] theorem eq_str (a b : Str) : eqT (.dat (.str a)) (.dat (.str b)) = some (decide (a = b)) := eq_toD (α := Str) (by decide) _ _ a b rfl rfl
theorem ord_toD {α : Type} [DecidableEq α] [PySem.W.DatumOrd α] (h : PySem.W.Datum.depth α ≤ 40) (f : PyData → PyData → Bool) (t u : T) (x y : α) (ht : t.frz = some (PySem.W.Datum.toD x)) (hu : u.frz = some (PySem.W.Datum.toD y)) : ordT f t u = some (f (PySem.W.Datum.toD x) (PySem.W.Datum.toD y)) := by
  unfold ordT
  have nn : notNone (PySem.W.Datum.toD x) = true := by
    have q := PySem.W.DatumOrd.notNone x
    cases z : PySem.W.Datum.toD x <;> first | rfl | exact absurd z q
  rw [ht, hu]
  simp only [Option.bind_some, okD_toD h, PySem.W.DatumOrd.alike, nn, Bool.and_self, if_true]
theorem lt_int_eq (a b : Int) : PySem.W.dataLt (.int a) (.int b) = decide (a < b) := PySem.W.DatumOrd.lt_eq (α := Int) a b
@[simp] theorem cmp_lt_int (a b : Int) : cmpT .Lt (.dat (.int a)) (.dat (.int b)) = some (decide (a < b)) := by
  show ordT _ _ _ = _
  rw [ord_toD (α := Int) (by decide) _ _ _ a b rfl rfl]
  exact congrArg some (lt_int_eq a b)
@[simp] theorem cmp_le_int (a b : Int) : cmpT .LtE (.dat (.int a)) (.dat (.int b)) = some (decide (a ≤ b)) := by
  show ordT _ _ _ = _
  rw [ord_toD (α := Int) (by decide) _ _ _ a b rfl rfl]
  refine congrArg some ((congrArg not (lt_int_eq b a)).trans ?_)
  by_cases h : b < a
  · rw [decide_eq_true h, decide_eq_false (by omega)]; rfl
  · rw [decide_eq_false h, decide_eq_true (by omega)]; rfl
@[simp] theorem cmp_gt_int (a b : Int) : cmpT .Gt (.dat (.int a)) (.dat (.int b)) = some (decide (b < a)) := by
  show ordT _ _ _ = _
  rw [ord_toD (α := Int) (by decide) _ _ _ a b rfl rfl]
  exact congrArg some (lt_int_eq b a)
@[simp] theorem cmp_ge_int (a b : Int) : cmpT .GtE (.dat (.int a)) (.dat (.int b)) = some (decide (b ≤ a)) := by
  show ordT _ _ _ = _
  rw [ord_toD (α := Int) (by decide) _ _ _ a b rfl rfl]
  refine congrArg some ((congrArg not (lt_int_eq a b)).trans ?_)
  by_cases h : a < b
  · rw [decide_eq_true h, decide_eq_false (by omega)]; rfl
  · rw [decide_eq_false h, decide_eq_true (by omega)]; rfl
@[simp] theorem cmp_eq (t u : T) : cmpT .Eq t u = eqT t u := rfl
@[simp] theorem cmp_ne (t u : T) : cmpT .NotEq t u = (eqT t u).map (!·) := rfl
/-! forms that rewrite -/
def bopK (b : Bool) (t : T) (eb : Ev) (env : Envt) : R T := match t.bool? with
  | some c => if c = b then eb env else .ok (.dat (.bool c)) env
  | none => .fail
@[simp] theorem evBop_ap (b : Bool) (ea eb : Ev) (env : Envt) : evBop b ea eb env = (ea env).bind fun t env' => bopK b t eb env' := rfl
@[simp] theorem bopK_bool (b c : Bool) (eb : Ev) (env : Envt) : bopK b (.dat (.bool c)) eb env = if c = b then eb env else .ok (.dat (.bool c)) env := rfl
def leafK (t : T) (env : Envt) : R T := match t with
  | .node _ _ => .fail
  | t => .ok t env
@[simp] theorem evLeaf_ap (ea : Ev) (env : Envt) : evLeaf ea env = (ea env).bind fun t env' => leafK t env' := rfl
@[simp] theorem leafK_dat (d : PyData) (env : Envt) : leafK (.dat d) env = .ok (.dat d) env := rfl
def chnK (x : Option Bool) (y : Option PyData) (f : PyData → R T) (g : R T) : R T := match x, y with
  | some true, some d => f d
  | some false, _ => g
  | _, _ => .fail
@[simp] theorem evChn_ap (o1 o2 : CmpOp) (e2 : Envt → R (T × T)) (ec : Ev) (env : Envt) : evChn o1 o2 e2 ec env = (e2 env).bind fun tu env1 => chnK (cmpT o1 tu.1 tu.2) tu.2.isDat (fun d => (ec env1).bind fun w env2 => R.lift ((cmpT o2 (.dat d) w).map fun b => T.dat (.bool b)) env2) (.ok (.dat (.bool false)) env1) := rfl
@[simp] theorem chnK_some (b : Bool) (d : PyData) (f : PyData → R T) (g : R T) : chnK (some b) (some d) f g = if b = true then f d else g := by cases b <;> rfl
@[simp] theorem isDat_dat (d : PyData) : (T.dat d).isDat = some d := rfl
def SRs.fin (np : Nat) : SRs → FR
  | .next env => (match allSome (env.take np) with
    | some ts' => .ok (.dat .none) ts'
    | none => .fail)
  | .ret t env => (match allSome (env.take np) with
    | some ts' => .ok t ts'
    | none => .fail)
  | .exc c env => (match allSome (env.take np) with
    | some ts' => .exc c ts'
    | none => .fail)
  | _ => .fail
theorem evFn_ap (n np : Nat) (es : Es) (ts : List T) (h : ts.length = np ∧ np ≤ n) : evFn n np es ts = (es (fnEnv n ts)).fin np := by
  unfold evFn
  rw [if_pos h]
  unfold SRs.fin
  cases es (fnEnv n ts) <;> rfl
@[simp] theorem allSome_nil : allSome [] = some [] := rfl
@[simp] theorem allSome_cons (t : T) (l : List (Option T)) : allSome (some t :: l) = (allSome l).map (t :: ·) := rfl
def finK (o : Option (List T)) (f : List T → FR) : FR := match o with
  | some ts => f ts
  | none => .fail
@[simp] theorem finK_some (ts : List T) (f : List T → FR) : finK (some ts) f = f ts := rfl
@[simp] theorem fin_next (np : Nat) (env : Envt) : (SRs.next env).fin np = finK (allSome (env.take np)) (FR.ok (.dat .none)) := rfl
@[simp] theorem fin_ret (np : Nat) (t : T) (env : Envt) : (SRs.ret t env).fin np = finK (allSome (env.take np)) (FR.ok t) := rfl
@[simp] theorem fin_exc (np : Nat) (c : Str) (env : Envt) : (SRs.exc c env).fin np = finK (allSome (env.take np)) (FR.exc c) := rfl
def FR.giv (r : FR) (ars : List Ar) (env : Envt) : R T := match r with
  | .ok t ts => .ok t (give ars ts env)
  | .exc c ts => .exc c (give ars ts env)
  | .fail => .fail
@[simp] theorem giv_ok (t : T) (ts : List T) (ars : List Ar) (env : Envt) : (FR.ok t ts).giv ars env = .ok t (give ars ts env) := rfl
@[simp] theorem giv_exc (c : Str) (ts : List T) (ars : List Ar) (env : Envt) : (FR.exc c ts).giv ars env = .exc c (give ars ts env) := rfl
def callK (F : List T → FR) (o : Option (List T)) (ars : List Ar) (env : Envt) : R T := match o with
  | some ts => (F ts).giv ars env
  | none => .fail
@[simp] theorem callK_some (F : List T → FR) (ts : List T) (ars : List Ar) (env : Envt) : callK F (some ts) ars env = (F ts).giv ars env := rfl
@[simp] theorem evCall_ap (F : List T → FR) (eva : Envt → R (List Ar)) (env : Envt) : evCall F eva env = (eva env).bind fun ars env1 => if (lends ars).Nodup then callK F (lendT env1 ars) ars (hide (lends ars) env1) else .fail := by
  unfold evCall callK FR.giv
  congr 1
@[simp] theorem evLoc_some (i : Nat) (env : Envt) (t : T) (h : env[i]? = some (some t)) : evLoc i env = .ok t env := by
  unfold evLoc
  rw [h]
@[simp] theorem evTake_dat (i : Nat) (env : Envt) (d : PyData) (h : env[i]? = some (some (.dat d))) : evTake i env = .ok (.dat d) env := by
  unfold evTake
  rw [h]
theorem evTake_tl (i : Nat) (env : Envt) (ds : List PyData) (h : env[i]? = some (some (tl ds))) : evTake i env = .ok (.dat (.list ds)) (env.set i (some (.dat (.list ds)))) := by
  unfold evTake
  rw [h]
  show (match (tl ds).frz with | some d => R.ok (T.dat d) (env.set i (some (.dat d))) | none => R.fail) = _
  rw [frz_tl]
@[simp] theorem evMove_some (i : Nat) (env : Envt) (t : T) (h : env[i]? = some (some t)) : evMove i env = .ok t (env.set i none) := by
  unfold evMove
  rw [h]
/-! an index -/
theorem atI_nat {α : Type} (xs : List α) (n : Nat) : atI xs (n : Int) = xs[n]? := by
  unfold atI ixN
  rw [if_pos (by omega)]
  simp only [Int.toNat_natCast]
  by_cases h : n < xs.length
  · simp [h]
  · simp [h]
theorem atI_last {α : Type} (xs : List α) (h : xs ≠ []) : atI xs (-1) = xs.getLast? := by
  unfold atI ixN
  rw [if_neg (by decide)]
  have hl : 0 < xs.length := List.length_pos_iff.mpr h
  rw [if_pos (by omega)]
  simp only [Option.bind_some]
  rw [List.getLast?_eq_getElem?]
  congr 1
  omega
end VR

/-! VM1: comprehensions and loops over frozen items. -/
namespace VR
open PySem PySem.Spec PyProof.Rows L2
theorem hide_one (env : Envt) (i : Nat) : hide [i] env = env.set i none := rfl
theorem set_back (env : Envt) (i : Nat) (h : i < env.length) : env.set i ((env[i]?).getD none) = env := by
  rw [List.getElem?_eq_getElem h]
  simp
theorem compL_t {α : Type} {enc : α → PyData} {i : Nat} {tc : Envt → R Bool} {ev : Ev} {env : Envt} {b : α → Bool} {g : α → PyData} (hi : i < env.length) (ds0 : List PyData) : ∀ (xs : List α) (acc : List PyData), acc.length + xs.length ≤ sizeLine →
    (∀ x ∈ xs, tc (env.set i (some (.dat (enc x)))) = .ok (b x) (env.set i (some (.dat (enc x)))) ∧ (b x = true → ev (env.set i (some (.dat (enc x)))) = .ok (.dat (g x)) (env.set i (some (.dat (enc x)))))) →
    evCompL (.fix ds0) (.one i) [i] tc ev (xs.map enc) (acc.map T.dat) (env.set i none) = .ok ((acc ++ (xs.filter b).map g).map T.dat) (env.set i none)
  | [], acc, _, _ => by simp [evCompL, Src.stillB]
  | x :: xs, acc, hl, h => by
    obtain ⟨h1, h2⟩ := h x List.mem_cons_self
    rw [List.length_cons] at hl
    have ss : (env.set i none).set i (some (T.dat (enc x))) = env.set i (some (T.dat (enc x))) := List.set_set _
    have sn : (env.set i (some (T.dat (enc x)))).set i none = env.set i none := List.set_set _
    rw [List.map_cons, evCompL]
    simp only [Src.stillB, if_true, setTg, List.length_set, hi, ss, h1, nox_ok]
    by_cases c : b x = true
    · rw [if_pos c, h2 c]
      simp only [nox_ok]
      rw [if_pos (by rw [List.length_map]; omega), hide_one, sn]
      have := compL_t hi ds0 xs (acc ++ [g x]) (by rw [List.length_append]; simp; omega) fun e he => h e (List.mem_cons_of_mem _ he)
      rw [List.map_append] at this
      simp only [List.map_cons, List.map_nil] at this
      rw [this, List.filter_cons_of_pos c, List.map_cons, List.append_assoc]
      rfl
    · rw [if_neg c, hide_one, sn, compL_t hi ds0 xs acc (by omega) fun e he => h e (List.mem_cons_of_mem _ he), List.filter_cons_of_neg c]
/-- [g x for x in xs if b x] -/
theorem comp_t {α : Type} (enc : α → PyData) {si : Envt → R Src} {i : Nat} {tc : Envt → R Bool} {ev : Ev} {env0 env : Envt} (xs : List α) (b : α → Bool) (g : α → PyData) (hs : si env0 = .ok (.fix (xs.map enc)) env) (hi : i < env.length) (hl : xs.length ≤ sizeLine)
    (h : ∀ x ∈ xs, tc (env.set i (some (.dat (enc x)))) = .ok (b x) (env.set i (some (.dat (enc x)))) ∧ (b x = true → ev (env.set i (some (.dat (enc x)))) = .ok (.dat (g x)) (env.set i (some (.dat (enc x)))))) :
    evComp si (.one i) [i] tc ev env0 = .ok (tl ((xs.filter b).map g)) env := by
  unfold evComp
  rw [hs]
  simp only [bind_ok, Src.apart, if_true, Src.items, hide_one]
  have q := compL_t (enc := enc) (b := b) (g := g) hi (xs.map enc) xs [] (by simp; exact hl) h
  rw [List.map_nil] at q
  rw [q]
  simp only [nox_ok, List.nil_append, back_cons, back_nil]
  rw [List.set_set, set_back env i hi]
  rfl
theorem comp_dat {si : Envt → R Src} {i : Nat} {tc : Envt → R Bool} {ev : Ev} {env : Envt} {ds : List PyData} (b : PyData → Bool) (g : PyData → PyData) (hs : si env = .ok (.fix ds) env) (hi : i < env.length) (hl : ds.length ≤ sizeLine)
    (h : ∀ d ∈ ds, tc (env.set i (some (.dat d))) = .ok (b d) (env.set i (some (.dat d))) ∧ (b d = true → ev (env.set i (some (.dat d))) = .ok (.dat (g d)) (env.set i (some (.dat d))))) :
    evComp si (.one i) [i] tc ev env = .ok (tl ((ds.filter b).map g)) env := comp_t id ds b g (by rw [List.map_id]; exact hs) hi hl h
/-- loops whose body leads from state to state; x: the loop's own name -/
def lastOr (x : Option T) (ds : List PyData) : Option T := match ds.getLast? with
  | some d => some (.dat d)
  | none => x
theorem lastOr_cons (x : Option T) (d : PyData) (ds : List PyData) : lastOr (some (.dat d)) ds = lastOr x (d :: ds) := by
  unfold lastOr
  cases ds with
  | nil => rfl
  | cons e es =>
    rw [List.getLast?_cons_cons, List.getLast?_eq_some_getLast (List.cons_ne_nil e es)]
theorem for_fold {σ : Type} {t : Tg} {body : Es} (ds0 : List PyData) (f : σ → PyData → σ) (enc : σ → Option T → Envt) (P : σ → Prop) : ∀ (ds : List PyData) (s : σ) (x : Option T), P s →
    (∀ s x, ∀ d ∈ ds, P s → setTg t d (enc s x) = some (enc s (some (.dat d)))) →
    (∀ s, ∀ d ∈ ds, P s → P (f s d) ∧ (body (enc s (some (.dat d))) = .next (enc (f s d) (some (.dat d))) ∨ body (enc s (some (.dat d))) = .cnt (enc (f s d) (some (.dat d))))) →
    evFor (.fix ds0) t body ds (enc s x) = .next (enc (ds.foldl f s) (lastOr x ds)) ∧ P (ds.foldl f s)
  | [], s, x, hp, _, _ => by
    refine ⟨?_, hp⟩
    rw [evFor]
    simp only [Src.stillB, if_true, List.foldl_nil]
    rfl
  | d :: ds, s, x, hp, h1, h2 => by
    obtain ⟨p1, p2⟩ := h2 s d List.mem_cons_self hp
    have ih := for_fold ds0 f enc P ds (f s d) (some (.dat d)) p1 (fun s x e he => h1 s x e (List.mem_cons_of_mem _ he)) fun s e he => h2 s e (List.mem_cons_of_mem _ he)
    rw [lastOr_cons x] at ih
    refine ⟨?_, ih.2⟩
    rw [evFor]
    simp only [Src.stillB, if_true, h1 s x d List.mem_cons_self hp]
    rcases p2 with q | q
    · rw [q]
      exact ih.1
    · rw [q]
      exact ih.1
/-! lists changed in place -/
theorem evPop_tl {i : Nat} {ev : Ev} {env env1 : Envt} {ds0 ds : List PyData} {n : Int} {k : Nat} {d : PyData} (h0 : env[i]? = some (some (tl ds0))) (he : ev env = .ok (.dat (.int n)) env1) (h1 : env1[i]? = some (some (tl ds))) (hx : ixN ds.length n = some k) (hk : ds[k]? = some d) (hz : ds.length ≤ 1000000) : evPop i ev env = .ok (.dat d) (env1.set i (some (tl (ds.eraseIdx k)))) := by
  unfold evPop
  have e0 : env[i]? = some (some (.node .lst (ds0.map T.dat))) := h0
  have e1 : env1[i]? = some (some (.node .lst (ds.map T.dat))) := h1
  rw [e0]
  simp only [he, bind_ok, e1, int?_int, List.length_map, hx, List.getElem?_map, hk, Option.map_some]
  rw [if_pos hz]
  have em : ∀ (l : List PyData) (k : Nat), (l.map T.dat).eraseIdx k = (l.eraseIdx k).map T.dat := by
    intro l
    induction l with
    | nil => intro k; rfl
    | cons x l ih =>
      intro k
      cases k with
      | zero => rfl
      | succ k => simp [ih]
  unfold tl
  rw [em]
theorem evApp_tl {i : Nat} {ev : Ev} {env env1 : Envt} {ds0 ds : List PyData} {d : PyData} (h0 : env[i]? = some (some (tl ds0))) (he : ev env = .ok (.dat d) env1) (h1 : env1[i]? = some (some (tl ds))) (hz : ds.length < sizeLine) : evApp i [] ev env = .ok (.dat .none) (env1.set i (some (tl (ds ++ [d])))) := by
  unfold evApp
  have e0 : env[i]? = some (some (.node .lst (ds0.map T.dat))) := h0
  have e1 : env1[i]? = some (some (.node .lst (ds.map T.dat))) := h1
  rw [e0]
  simp only [subP, he, bind_ok, e1, List.length_map]
  rw [if_pos hz]
  unfold tl
  simp [repP]
end VR

namespace VW
open PySem PySem.Spec PyProof.Rows L2 VR
-- @ is_whole
theorem is_whole_int (i lo hi : Int) : F_is_whole [.dat (.int i), .dat (.int lo), .dat (.int hi)] = .ok (.dat (.bool (decide (lo ≤ i) && decide (i ≤ hi)))) [.dat (.int i), .dat (.int lo), .dat (.int hi)] := by
  unfold F_is_whole ev_is_whole
  refine (evFn_ap _ _ _ _ ⟨rfl, Nat.le_of_ble_eq_true rfl⟩).trans ?_
  simp [fnEnv, tyT, isiB]
  by_cases h : lo ≤ i
  · simp [h]
  · simp [h]
-- @ first_of
-- @ goes_on
-- @ is_name
def Nm (x : Str) : Prop := F_is_name [.dat (.str x)] = .ok (.dat (.bool true)) [.dat (.str x)]
theorem nm_a : Nm "a" := by unfold Nm; kernel_rfl
theorem nm_home : Nm "home" := by unfold Nm; kernel_rfl
theorem nm_empty : F_is_name [.dat (.str "")] = .ok (.dat (.bool false)) [.dat (.str "")] := by kernel_rfl
-- @ is_step
structure OkS (t : Int) (d p s : Str) : Prop where
  t : 0 ≤ t ∧ t ≤ 9999
  d : Nm d
  p : Nm p
  s : Nm s ∨ s = ""
abbrev sD (t : Int) (d p s : Str) : PyData := .tuple [.int t, .str d, .str p, .str s]
theorem is_step_ok {t : Int} {d p s : Str} (h : OkS t d p s) : F_is_step [.dat (sD t d p s)] = .ok (.dat (.bool true)) [.dat (sD t d p s)] := by
  unfold F_is_step ev_is_step
  refine (evFn_ap _ _ _ _ ⟨rfl, Nat.le_of_ble_eq_true rfl⟩).trans ?_
  have h1 := h.d
  have h2 := h.p
  unfold Nm at h1 h2
  simp [fnEnv, idxT, atI, ixN, tyT, isiB, lenT, is_whole_int, h.t.1, h.t.2, h1, h2]
  rcases h.s with h3 | h3
  · unfold Nm at h3
    simp [h3, idxT, atI, ixN]
  · subst h3
    simp [nm_empty, idxT, atI, ixN, tyT, isiB]
end VW

namespace VW
open PySem PySem.Spec PyProof.Rows L2 VR
theorem fix_list (i : Nat) (env : Envt) (ds : List PyData) (h : env[i]? = some (some (.dat (.list ds)))) : evFix (evTake i) env = .ok (.fix ds) env := by
  unfold evFix
  rw [evTake_dat i env _ h]
  rfl
theorem fix_tuple (i : Nat) (env : Envt) (ds : List PyData) (h : env[i]? = some (some (.dat (.tuple ds)))) : evFix (evTake i) env = .ok (.fix ds) env := by
  unfold evFix
  rw [evTake_dat i env _ h]
  rfl
theorem allT_true {ds : List PyData} (h : ∀ d ∈ ds, d = .bool true) : allT (tl ds) = some (.dat (.bool true)) := by
  unfold allT
  rw [seq_tl]
  simp only
  have : ∀ l : List PyData, (∀ d ∈ l, d = .bool true) → allBools l = some (l.map fun _ => true) := by
    intro l
    induction l with
    | nil => exact fun _ => rfl
    | cons d l ih =>
      intro hl
      rw [hl d List.mem_cons_self]
      simp only [allBools, ih fun e he => hl e (List.mem_cons_of_mem _ he)]
      rfl
  rw [this ds h]
  simp
-- @ look_steps
theorem look_steps_ok {ds : List PyData} {b : Bool} (hl : ds.length ≤ sizeLine) (h : ∀ d ∈ ds, F_is_step [.dat d] = .ok (.dat (.bool true)) [.dat d]) : F_look_steps [.dat (if b then .tuple ds else .list ds)] = .ok (.dat .none) [.dat (if b then .tuple ds else .list ds)] := by
  have hc : ∀ x : PyData, (x = .list ds ∨ x = .tuple ds) → evComp (evFix (evTake 0)) (.one 1) [1] (fun env => .ok true env) (evCall F_is_step (arTmp (evTake 1) arNil)) [some (.dat x), none] = .ok (tl ((ds.filter fun _ => true).map fun _ => .bool true)) [some (.dat x), none] := by
    intro x hx
    refine comp_dat (fun _ => true) (fun _ => .bool true) ?_ (by simp) hl fun d hd => ⟨rfl, fun _ => ?_⟩
    · rcases hx with rfl | rfl
      · exact fix_list 0 _ ds rfl
      · exact fix_tuple 0 _ ds rfl
    · simp [h d hd]
  unfold F_look_steps ev_look_steps
  refine (evFn_ap _ _ _ _ ⟨rfl, Nat.le_of_ble_eq_true rfl⟩).trans ?_
  have ha : allT (tl ((ds.filter fun _ => true).map fun _ => PyData.bool true)) = some (.dat (.bool true)) := allT_true fun d hd => by
    obtain ⟨_, _, e⟩ := List.mem_map.mp hd
    exact e.symm
  cases b
  · simp [fnEnv, tyT, isiB, hc (.list ds) (.inl rfl), allT_true]
  · simp [fnEnv, tyT, isiB, hc (.tuple ds) (.inr rfl), allT_true]
-- @ are_rules
-- @ look_rules
end VW

namespace VW
open PySem PySem.Spec PyProof.Rows L2 VR
open PySem.W (Datum DatumOrd T3 T4 Tup)
/-- sorted, of a Lean type -/
def srt {α : Type} [DecidableEq α] [DatumOrd α] (xs : List α) : List α := xs.mergeSort fun x y => !DatumOrd.lt y x
theorem sortD_map {α : Type} [DecidableEq α] [DatumOrd α] (xs : List α) : sortD (xs.map Datum.toD) = (srt xs).map Datum.toD := by
  unfold sortD srt
  refine (PySem.W.sort_maps (r := fun x y => !DatumOrd.lt y x) (s := PySem.W.dataLe false id) (f := (Datum.toD : α → PyData)) fun a _ b _ => ?_).symm
  show (!DatumOrd.lt b a) = !PySem.W.dataLt (Datum.toD b) (Datum.toD a)
  rw [DatumOrd.lt_eq]
/-- its data can be sorted -/
class Srt (α : Type) [DecidableEq α] [DatumOrd α] : Prop where
  ok : (∀ x : α, isTup1 (Datum.toD x) = true) ∨ ∀ x : α, isOther (Datum.toD x) = true
  dp : Datum.depth α ≤ 40
instance : Srt Int := ⟨.inr fun _ => rfl, by decide⟩
instance : Srt Str := ⟨.inr fun _ => rfl, by decide⟩
abbrev Sgn := Int × Str
abbrev Stop := T3 Int Str Str
abbrev Stp := T4 Int Str Str Str
abbrev Vis := Str × Tup Stop
instance : Srt Sgn := ⟨.inl fun _ => rfl, by decide⟩
instance : Srt Stop := ⟨.inl fun _ => rfl, by decide⟩
instance : Srt Stp := ⟨.inl fun _ => rfl, by decide⟩
instance : Srt Vis := ⟨.inl fun _ => rfl, by decide⟩
theorem okSort_map {α : Type} [DecidableEq α] [DatumOrd α] [Srt α] (xs : List α) : okSort (xs.map Datum.toD) = true := by
  unfold okSort
  simp only [Bool.and_eq_true, List.all_eq_true, List.mem_map, Bool.or_eq_true]
  refine ⟨⟨?_, ?_⟩, ?_⟩
  · rintro _ ⟨x, _, rfl⟩ _ ⟨y, _, rfl⟩
    exact DatumOrd.alike x y
  · rcases Srt.ok (α := α) with h | h
    · left
      rintro _ ⟨x, _, rfl⟩
      exact h x
    · right
      rintro _ ⟨x, _, rfl⟩
      exact h x
  · rintro _ ⟨x, _, rfl⟩
    exact okD_toD Srt.dp x
@[simp] theorem sortedT_map {α : Type} [DecidableEq α] [DatumOrd α] [Srt α] (xs : List α) : sortedT (tl (xs.map Datum.toD)) = some (tl ((srt xs).map Datum.toD)) := by
  unfold sortedT
  rw [seq_tl]
  simp only [okSort_map, if_true, sortD_map]
-- @ signs_at
def sE (s : Stp) : PyData := .tuple [.int s.a, .str s.b, .str s.c, .str s.d]
def gE (s : Sgn) : PyData := .tuple [.int s.1, .str s.2]
theorem sE_toD : (sE : Stp → PyData) = Datum.toD := rfl
theorem gE_toD : (gE : Sgn → PyData) = Datum.toD := rfl
def signsM (ss : List Stp) (dev : Str) : List Sgn := srt ((ss.filter fun s => decide (s.b = dev) && !decide (s.d = ("" : Str))).map fun s => (s.a, s.d))
theorem signs_at_eq (ss : List Stp) (dev : Str) (hl : ss.length ≤ sizeLine) : F_signs_at [.dat (.list (ss.map sE)), .dat (.str dev)] = .ok (tl ((signsM ss dev).map gE)) [.dat (.list (ss.map sE)), .dat (.str dev)] := by
  unfold F_signs_at ev_signs_at
  refine (evFn_ap _ _ _ _ ⟨rfl, Nat.le_of_ble_eq_true rfl⟩).trans ?_
  have hc := comp_t sE (si := evFix (evTake 0)) (i := 2) (tc := bopT true (evTst (evCmp .Eq (ev2 (evIdx (ev2 (evLoc 2) (evC (.int 1)))) (evLoc 1)))) (evTst (evCmp .NotEq (ev2 (evIdx (ev2 (evLoc 2) (evC (.int 3)))) (evC (.str ""))))))
    (ev := evTup (evCons (evLeaf (evIdx (ev2 (evLoc 2) (evC (.int 0))))) (evCons (evLeaf (evIdx (ev2 (evLoc 2) (evC (.int 3))))) evNil))) (env := [some (.dat (.list (ss.map sE))), some (.dat (.str dev)), none]) ss
    (fun s => decide (s.b = dev) && !decide (s.d = ("" : Str))) (fun s => gE (s.a, s.d)) (fix_list 0 _ _ rfl) (by simp) hl fun s hs => by
      refine ⟨?_, fun _ => ?_⟩
      · by_cases h1 : s.b = dev
        · simp [sE, idxT, atI, ixN, h1]
        · simp [sE, idxT, atI, ixN, h1]
      · simp [sE, gE, idxT, atI, ixN]
        decide
  have hs : sortedT (tl ((ss.filter fun s => decide (s.b = dev) && !decide (s.d = ("" : Str))).map fun s => gE (s.a, s.d))) = some (tl ((signsM ss dev).map gE)) := by
    have q := sortedT_map ((ss.filter fun s => decide (s.b = dev) && !decide (s.d = ("" : Str))).map fun s => ((s.a, s.d) : Sgn))
    rw [List.map_map] at q
    exact q
  simp [fnEnv, hc, hs]
-- @ owner_in
def ownerM (ss : List Stp) (s : Stp) : Str :=
  if s.d ≠ "" then s.d else
  match ((signsM ss s.b).filter fun g => decide (g.1 ≤ s.a)).getLast? with
  | some g => g.2
  | none => match (signsM ss s.b).head? with
    | some g => g.2
    | none => "." ++ s.b
end VW

namespace VW
open PySem PySem.Spec PyProof.Rows L2 VR
open PySem.W (Datum DatumOrd T3 T4 Tup)
theorem fix_tl (i : Nat) (env : Envt) (ds : List PyData) (h : env[i]? = some (some (tl ds))) : evFix (evTake i) env = .ok (.fix ds) (env.set i (some (.dat (.list ds)))) := by
  unfold evFix
  rw [evTake_tl i env _ h]
  rfl
@[simp] theorem frz_nil : (T.node .lst []).frz = some (.list []) := by simp [T.frz]
theorem eq_nil {t : T} {ds : List PyData} (ht : t.frz = some (.list ds)) (h : okD (.list ds) = true) : VR.eqT t (.node .lst []) = some (decide (ds = [])) := by
  unfold VR.eqT
  rw [ht, frz_nil]
  have z : okD (.list []) = true := by decide
  simp only [Option.bind_some, h, z, Bool.and_self, if_true]
  cases ds <;> simp [PyData.eqv, PyData.eqvAll]
theorem okD_list {α : Type} [DecidableEq α] [Datum α] (h : Datum.depth α ≤ 38) (xs : List α) : okD (.list (xs.map Datum.toD)) = true := okD_toD (α := List α) (by show Datum.depth α + 1 ≤ 40; omega) xs
theorem atI_lastG {α β : Type} (xs : List α) (f : α → β) (x : α) (h : xs.getLast? = some x) : atI (xs.map f) (-1) = some (f x) := by
  rw [VR.atI_last _ (fun z => by rw [List.map_eq_nil_iff] at z; subst z; cases h), List.getLast?_map, h]
  rfl
@[simp] theorem sE0 (s : Stp) : idxT (.dat (sE s)) (.dat (.int 0)) = some (.dat (.int s.a)) := rfl
@[simp] theorem sE1 (s : Stp) : idxT (.dat (sE s)) (.dat (.int 1)) = some (.dat (.str s.b)) := rfl
@[simp] theorem sE2 (s : Stp) : idxT (.dat (sE s)) (.dat (.int 2)) = some (.dat (.str s.c)) := rfl
@[simp] theorem sE3 (s : Stp) : idxT (.dat (sE s)) (.dat (.int 3)) = some (.dat (.str s.d)) := rfl
@[simp] theorem gE0 (s : Sgn) : idxT (.dat (gE s)) (.dat (.int 0)) = some (.dat (.int s.1)) := rfl
@[simp] theorem gE1 (s : Sgn) : idxT (.dat (gE s)) (.dat (.int 1)) = some (.dat (.str s.2)) := rfl
theorem idx_tl (ds : List PyData) (i : Int) : idxT (tl ds) (.dat (.int i)) = (atI ds i).map T.dat := by
  show (T.dat (.int i)).int?.bind (fun i => atI (ds.map T.dat) i) = _
  simp only [int?_int, Option.bind_some]
  unfold atI
  rw [List.length_map]
  cases ixN ds.length i with
  | none => rfl
  | some j =>
    simp
theorem add_str (a b : Str) : binT .Add (.dat (.str a)) (.dat (.str b)) = if a.length + b.length ≤ sizeLine then some (.dat (.str (a ++ b))) else none := rfl
-- @ owner_in
theorem owner_in_eq (ss : List Stp) (s : Stp) (hl : ss.length ≤ sizeLine) (hb : s.b.length < 1000) : F_owner_in [.dat (.list (ss.map sE)), .dat (sE s)] = .ok (.dat (.str (ownerM ss s))) [.dat (.list (ss.map sE)), .dat (sE s)] := by
  unfold F_owner_in ev_owner_in
  refine (evFn_ap _ _ _ _ ⟨rfl, Nat.le_of_ble_eq_true rfl⟩).trans ?_
  by_cases h : s.d = ("" : Str)
  · have hc := comp_t gE (si := evFix (evTake 2)) (i := 4) (tc := evTst (evCmp .LtE (ev2 (evIdx (ev2 (evLoc 4) (evC (.int 0)))) (evIdx (ev2 (evLoc 1) (evC (.int 0)))))))
      (ev := evTake 4) (env0 := [some (.dat (.list (ss.map sE))), some (.dat (sE s)), some (tl ((signsM ss s.b).map gE)), none, none]) (signsM ss s.b)
      (fun g => decide (g.1 ≤ s.a)) gE (fix_tl 2 _ _ rfl) (by simp) (by
        unfold signsM srt
        rw [List.length_mergeSort, List.length_map]
        exact Nat.le_trans (List.length_filter_le _ _) hl) fun g hg => by simp
    have he := eq_nil (frz_tl (((signsM ss s.b).filter fun g => decide (g.1 ≤ s.a)).map gE)) (okD_list (α := Sgn) (by decide) _)
    have hd : VR.eqT (.dat (.list ((signsM ss s.b).map gE))) (.node .lst []) = some (decide ((signsM ss s.b).map gE = [])) := eq_nil rfl (okD_list (α := Sgn) (by decide) _)
    simp only [List.set_cons_succ, List.set_cons_zero] at hc
    have hz : (0 : Nat) ≤ sizeLine := Nat.zero_le _
    cases q : ((signsM ss s.b).filter fun g => decide (g.1 ≤ s.a)).getLast? with
    | some g =>
      have hne : ((signsM ss s.b).filter fun g => decide (g.1 ≤ s.a)) ≠ [] := fun z => by
        rw [z] at q
        cases q
      have hi := idx_tl (((signsM ss s.b).filter fun g => decide (g.1 ≤ s.a)).map gE) (-1)
      rw [atI_lastG _ gE g q] at hi
      have hne' : ¬ ((signsM ss s.b).filter fun g => decide (g.1 ≤ s.a)) = [] := hne
      simp [fnEnv, h, signs_at_eq ss s.b hl, hc, he, hi, hne', ownerM, q]
    | none =>
      have hn : ((signsM ss s.b).filter fun g => decide (g.1 ≤ s.a)) = [] := List.getLast?_eq_none_iff.mp q
      rw [hn] at hc he
      cases q2 : signsM ss s.b with
      | nil =>
        rw [q2] at hc hd
        simp only [List.map_nil] at hc hd he
        have hb' : ("." : Str).length + s.b.length ≤ sizeLine := by
          have : ("." : Str).length = 1 := by decide
          rw [this, sizeLine_eq]
          omega
        simp [fnEnv, h, signs_at_eq ss s.b hl, hc, he, hd, q2, ownerM, q, add_str, hb']
      | cons g gs =>
        rw [q2] at hc hd hn
        simp only [List.map_cons, List.map_nil] at hc hd he
        have hi : idxT (.dat (.list (gE g :: gs.map gE))) (.dat (.int 0)) = some (.dat (gE g)) := by simp [idxT, atI, ixN]
        simp [fnEnv, h, signs_at_eq ss s.b hl, hc, he, hd, q2, ownerM, hn, hi]
  · simp [fnEnv, h, ownerM]
end VW

namespace VW
open PySem PySem.Spec PyProof.Rows L2 VR
open PySem.W (Datum DatumOrd T3 T4 Tup)
def pE (p : Stop) : PyData := .tuple [.int p.a, .str p.b, .str p.c]
def vE (v : Vis) : PyData := .tuple [.str v.1, .tuple (v.2.items.map pE)]
theorem pE_toD : (pE : Stop → PyData) = Datum.toD := rfl
theorem vE_toD : (vE : Vis → PyData) = Datum.toD := rfl
@[simp] theorem pE0 (s : Stop) : idxT (.dat (pE s)) (.dat (.int 0)) = some (.dat (.int s.a)) := rfl
@[simp] theorem vE0 (v : Vis) : idxT (.dat (vE v)) (.dat (.int 0)) = some (.dat (.str v.1)) := rfl
@[simp] theorem vE1 (v : Vis) : idxT (.dat (vE v)) (.dat (.int 1)) = some (.dat (.tuple (v.2.items.map pE))) := rfl
theorem idx_tup (ds : List PyData) (i : Int) : idxT (.dat (.tuple ds)) (.dat (.int i)) = (atI ds i).map T.dat := rfl
theorem idx_lst (ds : List PyData) (i : Int) : idxT (.dat (.list ds)) (.dat (.int i)) = (atI ds i).map T.dat := rfl
def firstM (v : Vis) : Int := match v.2.items.head? with
  | some p => p.a
  | none => 0
def lastM (v : Vis) : Int := match v.2.items.getLast? with
  | some p => p.a
  | none => 0
theorem head_tup {v : Vis} (h : v.2.items ≠ []) : ∃ p, v.2.items.head? = some p ∧ idxT (.dat (.tuple (v.2.items.map pE))) (.dat (.int 0)) = some (.dat (pE p)) := by
  cases q : v.2.items with
  | nil => exact absurd q h
  | cons p ps => exact ⟨p, rfl, by simp [idxT, atI, ixN]⟩
theorem last_tup {v : Vis} (h : v.2.items ≠ []) : ∃ p, v.2.items.getLast? = some p ∧ idxT (.dat (.tuple (v.2.items.map pE))) (.dat (.int (-1))) = some (.dat (pE p)) := by
  have q := List.getLast?_eq_some_getLast h
  exact ⟨_, q, by rw [idx_tup, atI_lastG _ pE _ q]; rfl⟩
-- @ first_of
-- @ last_of
-- @ on_at
def seqD (b : Bool) (ds : List PyData) : PyData := if b then .tuple ds else .list ds
theorem fix_seq (i : Nat) (env : Envt) (b : Bool) (ds : List PyData) (h : env[i]? = some (some (.dat (seqD b ds)))) : evFix (evTake i) env = .ok (.fix ds) env := by
  cases b
  · exact fix_list i env ds h
  · exact fix_tuple i env ds h
def onAt (vs : List Vis) (m : Int) : List Vis := vs.filter fun v => decide (firstM v ≤ m) && decide (m ≤ lastM v)
-- @ _law_cell
def cellM (ns : List Int) (k : Nat) : Int := if k < ns.length then ns.getD k 0 else if ns = [] then 0 else ns.getD (k % ns.length) 0 * 31 + k
end VW

namespace VW
open PySem PySem.Spec PyProof.Rows L2 VR
open PySem.W (Datum DatumOrd T3 T4 Tup)
def nsD (ns : List Int) : PyData := .list (ns.map PyData.int)
theorem len_ns (ns : List Int) : lenT (.dat (nsD ns)) = some (.dat (.int ns.length)) := by simp [lenT, nsD]
theorem idx_ns (ns : List Int) (k : Nat) (h : k < ns.length) : idxT (.dat (nsD ns)) (.dat (.int k)) = some (.dat (.int (ns.getD k 0))) := by
  unfold nsD
  rw [idx_lst, VR.atI_nat, List.getElem?_map, List.getElem?_eq_getElem h]
  simp [h]
theorem okD_ns (ns : List Int) : okD (nsD ns) = true := okD_list (α := Int) (by decide) ns
-- @ _law_cell
theorem cell_eq (ns : List Int) (k : Nat) : F__law_cell [.dat (nsD ns), .dat (.int k)] = .ok (.dat (.int (cellM ns k))) [.dat (nsD ns), .dat (.int k)] := by
  unfold F__law_cell ev__law_cell
  refine (evFn_ap _ _ _ _ ⟨rfl, Nat.le_of_ble_eq_true rfl⟩).trans ?_
  by_cases h : k < ns.length
  · have h' : ((k : Int) < (ns.length : Int)) := by omega
    simp [fnEnv, len_ns, h, idx_ns ns k h, cellM]
  · have he : VR.eqT (.dat (nsD ns)) (.node .lst []) = some (decide (ns.map PyData.int = [])) := eq_nil rfl (okD_ns ns)
    by_cases h0 : ns = []
    · subst h0
      have hk : ¬ ((k : Int) < 0) := by omega
      have hl0 : lenT (.dat (nsD [])) = some (.dat (.int 0)) := len_ns []
      have he0 : VR.eqT (.dat (nsD [])) (.node .lst []) = some true := he
      simp [fnEnv, hl0, hk, he0, cellM]
    · have hp : 0 < ns.length := List.length_pos_iff.mpr h0
      have hm : (k : Int).fmod (ns.length : Int) = ((k % ns.length : Nat) : Int) := by
        rw [Int.fmod_eq_emod_of_nonneg _ (by omega)]
        rfl
      have hlt : k % ns.length < ns.length := Nat.mod_lt _ hp
      have hne : ¬ ((ns.length : Int) = 0) := by omega
      have hi : idxT (.dat (nsD ns)) (.dat (.int ((k : Int) % (ns.length : Int)))) = some (.dat (.int (ns.getD (k % ns.length) 0))) := by
        have q := idx_ns ns (k % ns.length) hlt
        rwa [Int.natCast_emod] at q
      simp [fnEnv, len_ns, h, he, h0, cellM, hm, hi, hne]
-- @ _law_pick
def drawnM (ns : List Int) (k : Nat) : Int := ((cellM ns k + 6151 * ((k : Int) + 1)) * 40692).fmod 2147483399
def pickM (ns : List Int) (k : Nat) (m : Int) : Int := ((drawnM ns k * drawnM ns k + (drawnM ns k).fdiv 31).fmod 2147483629).fmod m
theorem drawn_lt (ns : List Int) (k : Nat) : 0 ≤ drawnM ns k ∧ drawnM ns k < 2147483399 := ⟨Int.fmod_nonneg_of_pos _ (by decide), Int.fmod_lt_of_pos _ (by decide)⟩
theorem pick_lt (ns : List Int) (k : Nat) {m : Int} (h : 0 < m) : 0 ≤ pickM ns k m ∧ pickM ns k m < m := ⟨Int.fmod_nonneg_of_pos _ h, Int.fmod_lt_of_pos _ h⟩
theorem pick_eq (ns : List Int) (k : Nat) (m : Int) (h : 0 < m) : F__law_pick [.dat (nsD ns), .dat (.int k), .dat (.int m)] = .ok (.dat (.int (pickM ns k m))) [.dat (nsD ns), .dat (.int k), .dat (.int m)] := by
  unfold F__law_pick ev__law_pick
  refine (evFn_ap _ _ _ _ ⟨rfl, Nat.le_of_ble_eq_true rfl⟩).trans ?_
  have hd := drawn_lt ns k
  have hm : ¬ m = 0 := by omega
  have e : ((cellM ns k + 6151 * ((k : Int) + 1)) * 40692).fmod 2147483399 = drawnM ns k := rfl
  have c1 : (-18446744073709551616 < drawnM ns k ∧ drawnM ns k < 18446744073709551616) := by omega
  simp [fnEnv, cell_eq, e, c1, hm, pickM]
end VW

namespace VW
open PySem PySem.Spec PyProof.Rows L2 VR
open PySem.W (Datum DatumOrd T3 T4 Tup)
theorem idx_in (ds : List PyData) (n : Int) (h : 0 ≤ n ∧ n < ds.length) : ∃ d ∈ ds, idxT (.dat (.list ds)) (.dat (.int n)) = some (.dat d) := by
  obtain ⟨k, rfl⟩ := Int.eq_ofNat_of_zero_le h.1
  have hk : k < ds.length := by omega
  refine ⟨ds[k], List.getElem_mem hk, ?_⟩
  rw [idx_lst, VR.atI_nat, List.getElem?_eq_getElem hk]
  rfl
-- @ _law_rules
end VW

namespace VW
open PySem PySem.Spec PyProof.Rows L2 VR
open PySem.W (Datum DatumOrd T3 T4 Tup)
def okL (ds : List PyData) : Prop := ∀ d ∈ ds, d.plain = true ∧ d.depth ≤ 38
theorem okL_okD : ∀ {ds : List PyData}, okL ds → PyData.plainAll ds = true ∧ PyData.depthAll ds ≤ 38
  | [], _ => ⟨rfl, Nat.zero_le _⟩
  | d :: ds, h => by
    obtain ⟨h1, h2⟩ := h d List.mem_cons_self
    obtain ⟨h3, h4⟩ := okL_okD (ds := ds) fun e he => h e (List.mem_cons_of_mem _ he)
    rw [PyData.plainAll, PyData.depthAll, h1, h3]
    exact ⟨rfl, Nat.max_le.mpr ⟨h2, h4⟩⟩
theorem okL_list {ds : List PyData} (h : okL ds) : okD (.list ds) = true := by
  obtain ⟨h1, h2⟩ := okL_okD h
  unfold okD
  rw [PyData.plain, PyData.depth, h1]
  simp
  omega
theorem okL_toD {α : Type} [DecidableEq α] [Datum α] (h : Datum.depth α ≤ 38) (xs : List α) : okL (xs.map Datum.toD) := fun d hd => by
  obtain ⟨x, _, rfl⟩ := List.mem_map.mp hd
  exact ⟨Datum.plain x, Nat.le_trans (Datum.depth_le x) h⟩
theorem idx_pop (ds : List PyData) (n : Int) (h : 0 ≤ n ∧ n < ds.length) : ∃ k : Nat, n = k ∧ k < ds.length ∧ ixN ds.length n = some k := by
  obtain ⟨k, rfl⟩ := Int.eq_ofNat_of_zero_le h.1
  refine ⟨k, rfl, by omega, ?_⟩
  unfold ixN
  rw [if_pos (by omega)]
  simp only [Int.toNat_natCast]
  rw [if_pos (by omega)]
-- @ _law_turned
theorem turned_loop (ns : List Int) (a : Nat) (r : PyData) : ∀ (f : Nat) (left made : List PyData), left.length ≤ f → left.length + made.length ≤ 1000000 → okL left →
    ∃ es : List PyData, es.Perm left ∧ evWhile (evTst (evCmp .NotEq (ev2 (evLoc 3) (evLst evNil)))) (evSeq (evDrop (evApp 4 [] (evPop 3 (evCall F__law_pick (arTmp (evTake 0) (arTmp (evBin .Add (ev2 (evLoc 1) (evB1 lenT (evLoc 3)))) (arTmp (evB1 lenT (evLoc 3)) arNil)))))))
      (fun env => .next env)) (f + 1) [some (.dat (nsD ns)), some (.dat (.int a)), some (.dat r), some (tl left), some (tl made)] = .next [some (.dat (nsD ns)), some (.dat (.int a)), some (.dat r), some (tl []), some (tl (made ++ es))]
  | f, [], made, _, _, _ => by
    refine ⟨[], List.Perm.refl _, ?_⟩
    have he : VR.eqT (tl []) (.node .lst []) = some true := eq_nil (frz_tl []) (by decide)
    simp [evWhile, he]
  | 0, d :: left, made, h, _, _ => by simp at h
  | f + 1, d :: left, made, h, hz, ho => by
    have hp := pick_lt ns (a + (d :: left).length) (m := ((d :: left).length : Int)) (by simp)
    obtain ⟨k, e1, hk, e2⟩ := idx_pop (d :: left) _ hp
    obtain ⟨es, p1, e3⟩ := turned_loop ns a r f ((d :: left).eraseIdx k) (made ++ [(d :: left)[k]]) (by rw [List.length_eraseIdx]; split <;> simp at h ⊢ <;> omega) (by
      rw [List.length_eraseIdx, List.length_append]
      split <;> simp at hz ⊢ <;> omega) fun e he => ho e (List.mem_of_mem_eraseIdx he)
    refine ⟨(d :: left)[k] :: es, ?_, ?_⟩
    · exact (p1.cons _).trans (erase_perm (d :: left) k _ (List.getElem?_eq_getElem hk))
    · have hc := pick_eq ns (a + (d :: left).length) ((d :: left).length : Int) (by simp)
      have hn : VR.eqT (tl (d :: left)) (.node .lst []) = some false := eq_nil (frz_tl (d :: left)) (okL_list ho)
      have hl : lenT (tl (d :: left)) = some (.dat (.int (d :: left).length)) := by
        unfold tl
        simp only [lenT]
        show (tl (d :: left)).seq.map _ = _
        rw [seq_tl]
        rfl
      have hpop := evPop_tl (i := 3) (ev := evCall F__law_pick (arTmp (evTake 0) (arTmp (evBin .Add (ev2 (evLoc 1) (evB1 lenT (evLoc 3)))) (arTmp (evB1 lenT (evLoc 3)) arNil)))) (env := [some (.dat (nsD ns)), some (.dat (.int a)), some (.dat r), some (tl (d :: left)), some (tl made)]) rfl
        (n := pickM ns (a + (d :: left).length) ((d :: left).length : Int)) (env1 := [some (.dat (nsD ns)), some (.dat (.int a)), some (.dat r), some (tl (d :: left)), some (tl made)]) (by
          rw [Int.natCast_add] at hc
          simp [hl] at hc ⊢
          simp [hc]) rfl e2 (List.getElem?_eq_getElem hk) (by omega)
      have happ := evApp_tl (i := 4) (env := [some (.dat (nsD ns)), some (.dat (.int a)), some (.dat r), some (tl (d :: left)), some (tl made)]) rfl hpop rfl (by rw [sizeLine_eq]; simp at hz; omega)
      rw [evWhile]
      simp [hn, happ]
      simpa using e3
end VW

namespace VW
open PySem PySem.Spec PyProof.Rows L2 VR
open PySem.W (Datum DatumOrd T3 T4 Tup)
-- @ _law_turned
theorem turned_eq (ns : List Int) (a : Nat) (ds : List PyData) (hl : ds.length ≤ 1000) (ho : okL ds) : ∃ es : List PyData, es.Perm ds ∧ F__law_turned [.dat (nsD ns), .dat (.int a), .dat (.list ds)] = .ok (tl es) [.dat (nsD ns), .dat (.int a), .dat (.list ds)] := by
  obtain ⟨es, p, e⟩ := turned_loop ns a (.list ds) 99999 ds [] (by omega) (by simp; omega) ho
  refine ⟨es, p, ?_⟩
  unfold F__law_turned ev__law_turned
  refine (evFn_ap _ _ _ _ ⟨rfl, Nat.le_of_ble_eq_true rfl⟩).trans ?_
  have z : (T.node .lst [] : T) = tl [] := rfl
  simp only [Nat.reduceAdd, List.nil_append] at e
  simp [fnEnv, listT, evPar, z, e]
end VW

namespace VW
open PySem PySem.Spec PyProof.Rows L2 VR
open PySem.W (Datum DatumOrd T3 T4 Tup)
def goesM (p l : Int) (one other : Stop) : Bool := decide (other.a - one.a ≤ p) && (decide (l = 0) || decide (one.a.fdiv l = other.a.fdiv l))
-- @ cut
/-- one more stop -/
def cutStep (p l : Int) (rows : List (List Stop)) (x : Stop) : List (List Stop) := match rows.getLast? with
  | some row => (match row.getLast? with
    | some y => if goesM p l y x then rows.dropLast ++ [row ++ [x]] else rows ++ [[x]]
    | none => rows ++ [[x]])
  | none => rows ++ [[x]]
def rowsT (rows : List (List Stop)) : T := .node .lst (rows.map fun r => tl (r.map pE))
theorem frz_rows (rows : List (List Stop)) : (rowsT rows).frz = some (.list (rows.map fun r => .list (r.map pE))) := by
  have all : ∀ rs : List (List Stop), frzAll (rs.map fun r => tl (r.map pE)) = some (rs.map fun r => .list (r.map pE)) := by
    intro rs
    induction rs with
    | nil => exact frzAll_nil
    | cons r rs ih =>
      rw [List.map_cons, frzAll, frz_tl, ih]
      rfl
  unfold rowsT
  rw [T.frz]
  simp only [all]
  rfl
end VW

namespace VW
open PySem PySem.Spec PyProof.Rows L2 VR
open PySem.W (Datum DatumOrd T3 T4 Tup)
theorem ixN_last (n : Nat) : ixN (n + 1) (-1) = some n := by
  unfold ixN
  rw [if_neg (by decide), if_pos (by omega)]
  congr 1
  omega
theorem rowsT_snoc (rs : List (List Stop)) (row : List Stop) : rowsT (rs ++ [row]) = .node .lst ((rs.map fun r => tl (r.map pE)) ++ [tl (row.map pE)]) := by
  unfold rowsT
  rw [List.map_append]
  rfl
theorem idx_rows (rs : List (List Stop)) (row : List Stop) : idxT (rowsT (rs ++ [row])) (.dat (.int (-1))) = some (tl (row.map pE)) := by
  rw [rowsT_snoc]
  show atI _ (-1) = _
  unfold atI
  rw [List.length_append, List.length_map]
  show (ixN (rs.length + 1) (-1)).bind _ = _
  rw [ixN_last]
  simp
theorem idx_row (r : List Stop) (y : Stop) : idxT (tl ((r ++ [y]).map pE)) (.dat (.int (-1))) = some (.dat (pE y)) := by
  rw [idx_tl, atI_lastG (r ++ [y]) pE y (by simp)]
  rfl
theorem app_last {env : Envt} {rs : List (List Stop)} {row : List Stop} {x : Stop} (h3 : env[3]? = some (some (rowsT (rs ++ [row])))) (h4 : env[4]? = some (some (.dat (pE x)))) (hz : row.length < sizeLine) : evApp 3 [(-1)] (evTake 4) env = .ok (.dat .none) (env.set 3 (some (rowsT (rs ++ [row ++ [x]])))) := by
  have hs : subP [(-1)] (rowsT (rs ++ [row])) = some (.node .lst ((row.map pE).map T.dat)) := by
    rw [rowsT_snoc]
    simp only [subP, List.length_append, List.length_map, List.length_cons, List.length_nil, Nat.zero_add, ixN_last, Option.bind_some]
    simp [tl]
  have hr : repP [(-1)] (rowsT (rs ++ [row])) (.node .lst ((row.map pE).map T.dat ++ [.dat (pE x)])) = rowsT (rs ++ [row ++ [x]]) := by
    rw [rowsT_snoc, rowsT_snoc]
    simp only [repP, List.length_append, List.length_map, List.length_cons, List.length_nil, Nat.zero_add, ixN_last]
    simp [tl]
  unfold evApp
  rw [h3]
  simp only [hs, evTake_dat 4 env _ h4, bind_ok, h3]
  rw [if_pos (by simpa using hz), hr]
theorem app_row {env : Envt} {rows : List (List Stop)} {x : Stop} (h3 : env[3]? = some (some (rowsT rows))) (h4 : env[4]? = some (some (.dat (pE x)))) (hz : rows.length < sizeLine) : evApp 3 [] (evLst (evCons (evTake 4) evNil)) env = .ok (.dat .none) (env.set 3 (some (rowsT (rows ++ [[x]])))) := by
  unfold evApp
  rw [h3]
  have z1 : (1 : Nat) ≤ sizeLine := by decide
  have e : evLst (evCons (evTake 4) evNil) env = .ok (.node .lst [.dat (pE x)]) env := by simp [evTake_dat 4 env _ h4, z1]
  have hr : rowsT rows = .node .lst (rows.map fun r => tl (r.map pE)) := rfl
  rw [hr] at h3 ⊢
  simp only [subP, e, bind_ok, h3]
  rw [if_pos (by rw [List.length_map]; exact hz), rowsT_snoc]
  rfl
end VW

namespace VW
open PySem PySem.Spec PyProof.Rows L2 VR
open PySem.W (Datum DatumOrd T3 T4 Tup)
theorem for_t {α σ : Type} (en : α → PyData) {t : Tg} {body : Es} (ds0 : List PyData) (f : σ → α → σ) (enc : σ → Option T → Envt) (P : List α → σ → Prop) : ∀ (xs : List α) (s : σ) (x : Option T), P xs s →
    (∀ s x (y : α), setTg t (en y) (enc s x) = some (enc s (some (.dat (en y))))) →
    (∀ s y ys, P (y :: ys) s → P ys (f s y) ∧ (body (enc s (some (.dat (en y)))) = .next (enc (f s y) (some (.dat (en y)))) ∨ body (enc s (some (.dat (en y)))) = .cnt (enc (f s y) (some (.dat (en y)))))) →
    ∃ x', evFor (.fix ds0) t body (xs.map en) (enc s x) = .next (enc (xs.foldl f s) x') ∧ P [] (xs.foldl f s)
  | [], s, x, hp, _, _ => ⟨x, by rw [List.map_nil, evFor]; simp only [Src.stillB, if_true, List.foldl_nil], hp⟩
  | y :: ys, s, x, hp, h1, h2 => by
    obtain ⟨p1, p2⟩ := h2 s y ys hp
    obtain ⟨x', e1, e2⟩ := for_t en ds0 f enc P ys (f s y) (some (.dat (en y))) p1 h1 h2
    refine ⟨x', ?_, e2⟩
    rw [List.map_cons, evFor]
    simp only [Src.stillB, if_true, h1]
    rcases p2 with q | q
    · rw [q]
      exact e1
    · rw [q]
      exact e1
theorem snoc_of {α : Type} {l : List α} (h : l ≠ []) : ∃ r x, l = r ++ [x] := ⟨l.dropLast, l.getLast h, (List.dropLast_concat_getLast h).symm⟩
theorem idx_row2 (r : List Stop) (y : Stop) : idxT (tl (r.map pE ++ [pE y])) (.dat (.int (-1))) = some (.dat (pE y)) := by
  have q := idx_row r y
  rwa [List.map_append] at q
-- @ cut
def cutRows (p l : Int) (stops : List Stop) : List (List Stop) := stops.foldl (cutStep p l) []
end VW

namespace VW
open PySem PySem.Spec PyProof.Rows L2 VR
open PySem.W (Datum DatumOrd T3 T4 Tup)
-- @ cut
theorem cutStep_ok {p l : Int} {rows : List (List Stop)} {x : Stop} {n : Nat} (hne : ∀ r ∈ rows, r ≠ []) (hz : rows.length + (n + 1) ≤ 1000000 ∧ ∀ r ∈ rows, r.length + (n + 1) ≤ 1000000) :
    (∀ r ∈ cutStep p l rows x, r ≠ []) ∧ (cutStep p l rows x).length + n ≤ 1000000 ∧ ∀ r ∈ cutStep p l rows x, r.length + n ≤ 1000000 := by
  have base : (∀ r ∈ rows ++ [[x]], r ≠ []) ∧ (rows ++ [[x]]).length + n ≤ 1000000 ∧ ∀ r ∈ rows ++ [[x]], r.length + n ≤ 1000000 := by
    refine ⟨fun r hr => ?_, by simp; omega, fun r hr => ?_⟩
    · rcases List.mem_append.mp hr with z | z
      · exact hne r z
      · rw [List.mem_singleton.mp z]; simp
    · rcases List.mem_append.mp hr with z | z
      · have := hz.2 r z; omega
      · rw [List.mem_singleton.mp z]; simp; omega
  by_cases h : rows = []
  · subst h
    exact base
  · obtain ⟨rs, row, rfl⟩ := snoc_of h
    obtain ⟨r, y, rfl⟩ := snoc_of (hne row (by simp))
    by_cases c : goesM p l y x = true
    · have e : cutStep p l (rs ++ [r ++ [y]]) x = rs ++ [r ++ [y] ++ [x]] := by simp [cutStep, c]
      rw [e]
      refine ⟨fun q hq => ?_, ?_, fun q hq => ?_⟩
      · rcases List.mem_append.mp hq with z | z
        · exact hne q (List.mem_append_left _ z)
        · rw [List.mem_singleton.mp z]; simp
      · have := hz.1; simp at this ⊢; omega
      · rcases List.mem_append.mp hq with z | z
        · have := hz.2 q (List.mem_append_left _ z); omega
        · have := hz.2 (r ++ [y]) (by simp)
          rw [List.mem_singleton.mp z]
          simp at this ⊢
          omega
    · have e : cutStep p l (rs ++ [r ++ [y]]) x = (rs ++ [r ++ [y]]) ++ [[x]] := by simp [cutStep, c]
      rw [e]
      exact base
end VW

namespace VW
open PySem PySem.Spec PyProof.Rows L2 VR
open PySem.W (Datum DatumOrd T3 T4 Tup)
-- @ cut
def cutM (p l : Int) (o : Str) (stops : List Stop) : List Vis := (cutRows p l stops).map fun r => (o, ⟨r⟩)
end VW

namespace VW
open PySem PySem.Spec PyProof.Rows L2 VR
open PySem.W (Datum DatumOrd T3 T4 Tup)
/-- each once -/
def ded {α : Type} [DecidableEq α] : List α → List α
  | [] => []
  | x :: xs => if x ∈ xs then ded xs else x :: ded xs
theorem mem_ded {α : Type} [DecidableEq α] {x : α} : ∀ {xs : List α}, x ∈ ded xs ↔ x ∈ xs
  | [] => Iff.rfl
  | y :: xs => by
    unfold ded
    split
    · rename_i h
      rw [mem_ded, List.mem_cons]
      exact ⟨.inr, fun z => z.elim (fun q => by rw [q]; exact h) id⟩
    · rw [List.mem_cons, List.mem_cons, mem_ded]
theorem nodup_ded {α : Type} [DecidableEq α] : ∀ xs : List α, (ded xs).Nodup
  | [] => List.nodup_nil
  | y :: xs => by
    unfold ded
    split
    · exact nodup_ded xs
    · rename_i h
      exact List.nodup_cons.mpr ⟨fun z => h (mem_ded.mp z), nodup_ded xs⟩
theorem toD_inj {α : Type} [DecidableEq α] [Datum α] {x y : α} (h : Datum.toD x = Datum.toD y) : x = y := by
  have q := Datum.eqv x y
  rw [h, Datum.eqv y y] at q
  simpa using q.symm
theorem dedupD_map {α : Type} [DecidableEq α] [Datum α] : ∀ xs : List α, dedupD (xs.map Datum.toD) = (ded xs).map Datum.toD
  | [] => rfl
  | x :: xs => by
    have hm : (Datum.toD x ∈ xs.map Datum.toD) ↔ x ∈ xs := ⟨fun z => by
      obtain ⟨y, h1, h2⟩ := List.mem_map.mp z
      rw [← toD_inj h2]
      exact h1, fun z => List.mem_map.mpr ⟨x, z, rfl⟩⟩
    rw [List.map_cons, dedupD, ded]
    by_cases c : x ∈ xs
    · rw [if_pos (hm.mpr c), if_pos c, dedupD_map xs]
    · rw [if_neg (fun z => c (hm.mp z)), if_neg c, List.map_cons, dedupD_map xs]
end VW
namespace VW
open PySem PySem.Spec PyProof.Rows L2 VR
open PySem.W (Datum DatumOrd T3 T4 Tup)
theorem ssT_map {α : Type} [DecidableEq α] [DatumOrd α] [Srt α] (sc : Bool) (b : Bool) (t : T) (xs : List α) (ht : t.seq = some (b, xs.map Datum.toD)) (hk : ∀ x : α, setOk1 sc (Datum.toD x) = true) (hl : xs.length < setRoom sc) : ssT t = some (tl ((srt (ded xs)).map Datum.toD)) := by
  unfold ssT
  rw [ht]
  have h1 : setOk sc (xs.map Datum.toD) = true := by
    unfold setOk
    rw [Bool.and_eq_true, decide_eq_true_eq, List.length_map, List.all_eq_true]
    refine ⟨fun d hd => ?_, hl⟩
    obtain ⟨x, _, rfl⟩ := List.mem_map.mp hd
    exact hk x
  have h2 : (setOk true (xs.map Datum.toD) || setOk false (xs.map Datum.toD)) = true := by
    rw [Bool.or_eq_true]
    cases sc
    · exact .inr h1
    · exact .inl h1
  simp only [h2, dedupD_map, okSort_map, Bool.and_self, if_true, sortD_map]
end VW

namespace VW
open PySem PySem.Spec PyProof.Rows L2 VR
open PySem.W (Datum DatumOrd T3 T4 Tup)
theorem evExt_tl {i : Nat} {ev : Ev} {env env1 : Envt} {ds0 ds es : List PyData} (h0 : env[i]? = some (some (tl ds0))) (he : ev env = .ok (tl es) env1) (h1 : env1[i]? = some (some (tl ds))) (hz : (ds ++ es).length ≤ sizeLine) : evExt i ev env = .ok (.dat .none) (env1.set i (some (tl (ds ++ es)))) := by
  unfold evExt
  have e0 : env[i]? = some (some (.node .lst (ds0.map T.dat))) := h0
  have e1 : env1[i]? = some (some (.node .lst (ds.map T.dat))) := h1
  have e2 : extT (ds.map T.dat) (tl es) = some ((ds ++ es).map T.dat) := by
    show some (ds.map T.dat ++ es.map T.dat) = _
    rw [List.map_append]
  rw [e0]
  simp only [he, bind_ok, e1, e2, List.length_map]
  rw [if_pos hz]
  rfl
-- @ cut_all
abbrev Bk2 := List (Str × List Stop)
def bookT (bk : Bk2) : T := .node (.dct (bk.map fun q => .inl (.inr q.1)) false false) (bk.map fun q => tl (q.2.map pE))
def look (bk : Bk2) (o : Str) : List Stop := match bk.find? fun q => decide (q.1 = o) with
  | some q => q.2
  | none => []
theorem lsd_book (bk : Bk2) : lsdT (bookT bk) = some (tl ((bk.map (·.1)).map PyData.str)) := by
  unfold bookT lsdT
  have : ∀ l : Bk2, leftsD (l.map fun q => (Sum.inl (Sum.inr q.1) : DK)) = some ((l.map (·.1)).map PyData.str) := by
    intro l
    induction l with
    | nil => rfl
    | cons q l ih => simp only [List.map_cons, leftsD, ih]; rfl
  show (leftsD (bk.map fun q => (Sum.inl (Sum.inr q.1) : DK))).map tl = _
  rw [this]
  rfl
theorem idx_book (bk : Bk2) (o : Str) (h : o ∈ bk.map (·.1)) : idxT (bookT bk) (.dat (.str o)) = some (tl ((look bk o).map pE)) := by
  show ((some (PyData.str o)).bind fun d => (DK.of d).bind fun k => (ixK (bk.map fun q => (.inl (.inr q.1) : DK)) k).bind fun i => (bk.map fun q => tl (q.2.map pE))[i]?) = _
  simp only [Option.bind_some, DK.of]
  induction bk with
  | nil => cases h
  | cons q l ih =>
    unfold ixK look
    rw [List.map_cons, List.findIdx?_cons, List.find?_cons]
    by_cases c : q.1 = o
    · simp [c]
    · have c2 : ¬ ((Sum.inl (Sum.inr q.1) : DK) = Sum.inl (Sum.inr o)) := fun z => c (by injection z with z; injection z)
      have hm : o ∈ l.map (·.1) := by
        rcases List.mem_cons.mp h with z | z
        · exact absurd z.symm c
        · exact z
      have ih' := ih hm
      unfold ixK look at ih'
      simp only [c, c2, decide_false, Bool.false_eq_true, if_false] at ih' ⊢
      rw [Option.bind_map]
      simpa [Function.comp_def] using ih'
end VW

namespace VW
open PySem PySem.Spec PyProof.Rows L2 VR
open PySem.W (Datum DatumOrd T3 T4 Tup)
theorem cutStep_len (p l : Int) (rows : List (List Stop)) (x : Stop) : (cutStep p l rows x).length ≤ rows.length + 1 := by
  by_cases h : rows = []
  · subst h
    simp [cutStep]
  · obtain ⟨rs, row, rfl⟩ := snoc_of h
    simp only [cutStep, List.getLast?_append, List.getLast?_singleton, Option.some_or]
    split
    · split
      · simp
      · simp
    · simp
theorem cutRows_len (p l : Int) (stops : List Stop) : (cutRows p l stops).length ≤ stops.length := by
  have : ∀ (xs : List Stop) (rows : List (List Stop)), (xs.foldl (cutStep p l) rows).length ≤ rows.length + xs.length := by
    intro xs
    induction xs with
    | nil => intro rows; simp
    | cons x xs ih =>
      intro rows
      have h1 := ih (cutStep p l rows x)
      have h2 := cutStep_len p l rows x
      simp only [List.foldl_cons, List.length_cons]
      omega
  simpa [cutRows] using this stops []
theorem ded_len {α : Type} [DecidableEq α] : ∀ xs : List α, (ded xs).length ≤ xs.length
  | [] => Nat.le_refl _
  | x :: xs => by
    unfold ded
    have := ded_len xs
    split
    · simp; omega
    · simp; omega
theorem srt_len {α : Type} [DecidableEq α] [DatumOrd α] (xs : List α) : (srt xs).length = xs.length := List.length_mergeSort ..
theorem mem_srt {α : Type} [DecidableEq α] [DatumOrd α] {x : α} {xs : List α} : x ∈ srt xs ↔ x ∈ xs := List.mem_mergeSort
theorem stop_key (x : Stop) : setOk1 false (Datum.toD x) = true := by
  obtain ⟨a, b, c⟩ := x
  show setOk1 false (.tuple [.int a, .str b, .str c]) = true
  simp [setOk1, nkD, nkDs, NestedKey.depth, NestedKey.depthAll]
-- @ cut_all
def cutAllM (p l : Int) (bk : Bk2) : List Vis := (srt (bk.map (·.1))).foldl (fun made o => made ++ cutM p l o (srt (ded (look bk o)))) []
end VW

namespace VW
open PySem PySem.Spec PyProof.Rows L2 VR
open PySem.W (Datum DatumOrd T3 T4 Tup)
@[simp] theorem fixOf_tl (ds : List PyData) : fixOf (tl ds) = some ds := by
  show (match (tl ds).frz with | some (.list ds) => some ds | _ => none) = _
  rw [frz_tl]
-- @ cut_all
end VW

namespace VW
open PySem PySem.Spec PyProof.Rows L2 VR
open PySem.W (Datum DatumOrd T3 T4 Tup)
-- @ visits
def putB (o : Str) (x : Stop) : Bk2 → Bk2
  | [] => [(o, [x])]
  | q :: l => if q.1 = o then (q.1, q.2 ++ [x]) :: l else q :: putB o x l
def keysT (bk : Bk2) : List DK := bk.map fun q => .inl (.inr q.1)
def valsT (bk : Bk2) : List T := bk.map fun q => tl (q.2.map pE)
theorem put_none (o : Str) (x : Stop) : ∀ bk : Bk2, ixK (keysT bk) (.inl (.inr o)) = none → keysT (putB o x bk) = keysT bk ++ [.inl (.inr o)] ∧ valsT (putB o x bk) = valsT bk ++ [T.node .lst [.dat (pE x)]] ∧ look bk o = []
  | [], _ => ⟨rfl, rfl, rfl⟩
  | q :: l, h => by
    unfold ixK keysT at h
    rw [List.map_cons, List.findIdx?_cons] at h
    by_cases c : q.1 = o
    · simp [c] at h
    · have c2 : ¬ ((Sum.inl (Sum.inr q.1) : DK) = Sum.inl (Sum.inr o)) := fun z => c (by injection z with z; injection z)
      simp only [c2, decide_false, Bool.false_eq_true, if_false, Option.map_eq_none_iff] at h
      obtain ⟨h1, h2, h3⟩ := put_none o x l h
      unfold putB
      rw [if_neg c]
      refine ⟨by unfold keysT at h1 ⊢; rw [List.map_cons, h1, List.map_cons]; rfl, by unfold valsT at h2 ⊢; rw [List.map_cons, h2, List.map_cons]; rfl, ?_⟩
      unfold look at h3 ⊢
      rw [List.find?_cons]
      simp only [c, decide_false]
      exact h3
theorem put_some (o : Str) (x : Stop) : ∀ (bk : Bk2) (j : Nat), ixK (keysT bk) (.inl (.inr o)) = some j → keysT (putB o x bk) = keysT bk ∧ (valsT bk)[j]? = some (tl ((look bk o).map pE)) ∧ valsT (putB o x bk) = (valsT bk).set j (tl (((look bk o) ++ [x]).map pE))
  | [], j, h => by cases h
  | q :: l, j, h => by
    unfold ixK keysT at h
    rw [List.map_cons, List.findIdx?_cons] at h
    by_cases c : q.1 = o
    · simp [c] at h
      subst h
      unfold putB look
      rw [if_pos c, List.find?_cons]
      simp [c, keysT, valsT]
    · have c2 : ¬ ((Sum.inl (Sum.inr q.1) : DK) = Sum.inl (Sum.inr o)) := fun z => c (by injection z with z; injection z)
      simp only [c2, decide_false, Bool.false_eq_true, if_false, Option.map_eq_some_iff] at h
      obtain ⟨i, hi, rfl⟩ := h
      obtain ⟨h1, h2, h3⟩ := put_some o x l i hi
      have hlk : look (q :: l) o = look l o := by
        unfold look
        rw [List.find?_cons]
        simp only [c, decide_false]
      unfold putB
      rw [if_neg c, hlk]
      refine ⟨by unfold keysT at h1 ⊢; rw [List.map_cons, h1, List.map_cons], ?_, ?_⟩
      · unfold valsT at h2 ⊢
        rw [List.map_cons, List.getElem?_cons_succ]
        exact h2
      · unfold valsT at h3 ⊢
        rw [List.map_cons, h3, List.map_cons, List.set_cons_succ]
theorem look_put (o o2 : Str) (x : Stop) : ∀ bk : Bk2, look (putB o x bk) o2 = if o2 = o then look bk o ++ [x] else look bk o2
  | [] => by
    unfold putB look
    by_cases c : o = o2
    · subst c; simp
    · have c' : ¬ o2 = o := fun z => c z.symm
      simp [c, c']
  | q :: l => by
    have ih := look_put o o2 x l
    unfold putB
    by_cases c : q.1 = o
    · rw [if_pos c]
      unfold look
      simp only [List.find?_cons]
      by_cases d : o2 = o
      · subst d; simp [c]
      · have d' : ¬ q.1 = o2 := fun z => d (by rw [← z, c])
        simp [d, d']
    · rw [if_neg c]
      unfold look at ih ⊢
      simp only [List.find?_cons]
      by_cases d : q.1 = o2
      · have e : ¬ o2 = o := fun z => c (by rw [d, z])
        simp [d, e]
      · simp only [d, c, decide_false]
        exact ih
theorem sda_book {env : Envt} {ek ev : Ev} {bk : Bk2} {o : Str} {x : Stop} (h2 : env[2]? = some (some (bookT bk))) (hk : ek env = .ok (.dat (.str o)) env) (hv : ev (env.set 2 none) = .ok (.dat (pE x)) (env.set 2 none)) (hl : bk.length < 1000000) (hs : (look bk o).length < 1000000) : evSda 2 ek ev env = .ok (.dat .none) (env.set 2 (some (bookT (putB o x bk)))) := by
  have h2' : env[2]? = some (some (.node (.dct (keysT bk) false false) (valsT bk))) := h2
  have hlen : 2 < env.length := (List.getElem?_eq_some_iff.mp h2).1
  have hb : bookT (putB o x bk) = .node (.dct (keysT (putB o x bk)) false false) (valsT (putB o x bk)) := rfl
  have hvl : (valsT bk).length < 1000000 := by unfold valsT; rw [List.length_map]; exact hl
  unfold evSda
  rw [h2']
  simp only [hk, bind_ok, h2', frz_dat, Option.bind_some, DK.of, hvl, if_true]
  rw [hb]
  cases q : ixK (keysT bk) (.inl (.inr o)) with
  | none =>
    obtain ⟨e1, e2, _⟩ := put_none o x bk q
    simp only [hv, bind_ok, List.length_set, hlen, if_true, List.set_set]
    rw [e1, e2]
  | some j =>
    obtain ⟨e1, e2, e3⟩ := put_some o x bk j q
    have e2' : (valsT bk)[j]? = some (.node .lst (((look bk o).map pE).map T.dat)) := e2
    have hz : (((look bk o).map pE).map T.dat).length < sizeLine ∧ 2 < env.length := ⟨by rw [List.length_map, List.length_map, sizeLine_eq]; omega, hlen⟩
    simp only [e2', hv, bind_ok, List.length_set]
    rw [if_pos hz, List.set_set, e1, e3]
    simp [tl]
end VW

namespace VW
open PySem PySem.Spec PyProof.Rows L2 VR
open PySem.W (Datum DatumOrd T3 T4 Tup)
@[simp] theorem arLend_some (i : Nat) (es : Envt → R (List Ar)) (env : Envt) (t : T) (h : env[i]? = some (some t)) : arLend i es env = (es env).bind fun ars env2 => .ok (.lend i :: ars) env2 := by
  unfold arLend
  rw [h]
theorem lendT_lend (i : Nat) (l : List Ar) (env : Envt) (t : T) (h : env[i]? = some (some t)) : lendT env (.lend i :: l) = (lendT env l).map (t :: ·) := by
  rw [lendT]
  simp only [h, Option.bind_some]
def stopOf (s : Stp) : Stop := ⟨s.a, s.b, s.c⟩
theorem sli3 (s : Stp) : sliT (.dat (sE s)) none (some 3) = some (.dat (pE (stopOf s))) := rfl
-- @ visits
def bookM (ss xs : List Stp) (bk : Bk2) : Bk2 := xs.foldl (fun bk s => putB (ownerM ss s) (stopOf s) bk) bk
def visitsM (p l : Int) (ss : List Stp) : List Vis := cutAllM p l (bookM ss ss [])
def OkStp (s : Stp) : Prop := OkS s.a s.b s.c s.d ∧ s.b.length < 1000
theorem put_len (o : Str) (x : Stop) : ∀ bk : Bk2, (putB o x bk).length ≤ bk.length + 1
  | [] => by simp [putB]
  | q :: l => by
    have := put_len o x l
    unfold putB
    split
    · simp
    · simp; omega
end VW

namespace VW
open PySem PySem.Spec PyProof.Rows L2 VR
open PySem.W (Datum DatumOrd T3 T4 Tup)
theorem for_inv {α : Type} (en : α → PyData) {t : Tg} {body : Es} (ds0 : List PyData) (P : List α → Envt → Prop) (h : ∀ y ys env, P (y :: ys) env → ∃ env1 env2, setTg t (en y) env = some env1 ∧ body env1 = .next env2 ∧ P ys env2) : ∀ (xs : List α) (env : Envt), P xs env → ∃ env2, evFor (.fix ds0) t body (xs.map en) env = .next env2 ∧ P [] env2
  | [], env, hp => ⟨env, by rw [List.map_nil, evFor]; simp only [Src.stillB, if_true], hp⟩
  | y :: ys, env, hp => by
    obtain ⟨env1, env2, e1, e2, e3⟩ := h y ys env hp
    obtain ⟨env3, e4, e5⟩ := for_inv en ds0 P h ys env2 e3
    refine ⟨env3, ?_, e5⟩
    rw [List.map_cons, evFor]
    simp only [Src.stillB, if_true, e1, e2]
    exact e4
theorem pick_int (ns : List Int) (e m : Int) (he : 0 ≤ e) (hm : 0 < m) : ∃ n : Int, (0 ≤ n ∧ n < m) ∧ F__law_pick [.dat (nsD ns), .dat (.int e), .dat (.int m)] = .ok (.dat (.int n)) [.dat (nsD ns), .dat (.int e), .dat (.int m)] := by
  obtain ⟨k, rfl⟩ := Int.eq_ofNat_of_zero_le he
  exact ⟨_, pick_lt ns k hm, pick_eq ns k m hm⟩
theorem rngD_nat (n : Nat) : rngD 0 n = (List.range n).map fun (k : Nat) => PyData.int (k : Int) := by
  unfold rngD
  simp
theorem idx_inT (ds : List PyData) (n : Int) (h : 0 ≤ n ∧ n < ds.length) : ∃ d ∈ ds, idxT (tl ds) (.dat (.int n)) = some (.dat d) := by
  obtain ⟨d, h1, h2⟩ := idx_in ds n h
  rw [idx_lst] at h2
  exact ⟨d, h1, by rw [idx_tl]; exact h2⟩
theorem nm_b : Nm "b" := by unfold Nm; kernel_rfl
theorem nm_cd : Nm "cd" := by unfold Nm; kernel_rfl
theorem nm_p : Nm "p" := by unfold Nm; kernel_rfl
theorem nm_q : Nm "q" := by unfold Nm; kernel_rfl
theorem nm_z : Nm "z" := by unfold Nm; kernel_rfl
theorem nm_kim : Nm "kim" := by unfold Nm; kernel_rfl
theorem nm_al : Nm "al" := by unfold Nm; kernel_rfl
theorem nm_zoe : Nm "zoe" := by unfold Nm; kernel_rfl
-- @ _law_rows
def SgOk (sg : List PyData) : Prop := sg ≠ [] ∧ sg.length ≤ 1000 ∧ ∀ d ∈ sg, ∃ x : Str, d = .str x ∧ (Nm x ∨ x = "")
theorem lenT_tl (ds : List PyData) : lenT (tl ds) = some (.dat (.int ds.length)) := by
  unfold tl
  simp only [lenT]
  show (tl ds).seq.map _ = _
  rw [seq_tl]
  rfl
def rowsInv (ns : List Int) (a : Nat) (most : Int) (sp : Int) (sg : List PyData) (ys : List Nat) (env : Envt) : Prop := ∃ (ss : List Stp) (x6 x7 x8 x9 x10 x11 : Option T), env = [some (.dat (nsD ns)), some (.dat (.int a)), some (.dat (.int most)), some (.dat (.int sp)), some (.dat (.list sg)), some (tl (ss.map sE)), x6, x7, x8, x9, x10, x11] ∧ (∀ s ∈ ss, OkStp s) ∧ (ss.length : Int) + 2 * ys.length ≤ 2 * most
end VW

namespace VW
open PySem PySem.Spec PyProof.Rows L2 VR
open PySem.W (Datum DatumOrd T3 T4 Tup)

def ev2SK (i : Nat) (u : T) (env2 : Envt) : R (T × T) := match env2[i]? with
  | some (some t) => .ok (t, u) env2
  | _ => .fail
@[simp] theorem ev2S_ap (i : Nat) (eb : Ev) (env : Envt) (t : T) (h : env[i]? = some (some t)) : ev2S i eb env = (eb env).bind fun u env2 => ev2SK i u env2 := by
  unfold ev2S
  rw [h]
  rfl
@[simp] theorem ev2SK_some (i : Nat) (u : T) (env : Envt) (t : T) (h : env[i]? = some (some t)) : ev2SK i u env = .ok (t, u) env := by
  unfold ev2SK
  rw [h]
theorem len_list (ds : List PyData) : lenT (.dat (.list ds)) = some (.dat (.int ds.length)) := by simp [lenT]
theorem pick_of (ns : List Int) (e m : Int) (he : 0 ≤ e) (hm : 0 < m) : ∃ n : Int, (0 ≤ n ∧ n < m) ∧ F__law_pick [.dat (nsD ns), .dat (.int e), .dat (.int m)] = .ok (.dat (.int n)) [.dat (nsD ns), .dat (.int e), .dat (.int m)] := pick_int ns e m he hm
def rowsBody : Es := (evSeq (evSet 7 (evBin .Add (ev2 (evBin .Add (ev2 (evLoc 1) (evC (.int 10)))) (evBin .Mult (ev2 (evC (.int 6)) (evLoc 6))))))
  (evSeq (evPar 10 11 (evCons (evCall F__law_pick (arTmp (evTake 0) (arTmp (evTake 7) (arTmp (evTake 3) arNil)))) (evCons (evLeaf (evIdx (ev2 (evFrz (evLst (evCons (evC (.str "a")) (evCons (evC (.str "b")) (evCons (evC (.str "cd")) evNil))))) (evCall F__law_pick (arTmp (evTake 0) (arTmp (evBin .Add (ev2 (evLoc 7) (evC (.int 1)))) (arTmp (evC (.int 3)) arNil))))))) evNil)))
  (evSeq (evSet 8 (evLeaf (evIdx (ev2 (evFrz (evLst (evCons (evC (.str "p")) (evCons (evC (.str "q")) (evCons (evC (.str "home")) (evCons (evC (.str "z")) evNil)))))) (evCall F__law_pick (arTmp (evTake 0) (arTmp (evBin .Add (ev2 (evLoc 7) (evC (.int 2)))) (arTmp (evC (.int 4)) arNil))))))))
  (evSeq (evSet 9 (evLeaf (evIdx (ev2S 4 (evCall F__law_pick (arTmp (evTake 0) (arTmp (evBin .Add (ev2 (evLoc 7) (evC (.int 3)))) (arTmp (evB1 lenT (evLoc 4)) arNil))))))))
  (evSeq (evDrop (evApp 5 [] (evTup (evCons (evTake 10) (evCons (evTake 11) (evCons (evTake 8) (evCons (evTake 9) evNil)))))))
  (evSeq (evIf (evTst (evCmp .Eq (ev2 (evCall F__law_pick (arTmp (evTake 0) (arTmp (evBin .Add (ev2 (evLoc 7) (evC (.int 4)))) (arTmp (evC (.int 9)) arNil)))) (evC (.int 0))))) (evSeq (evDrop (evApp 5 [] (evLeaf (evIdx (ev2S 5 (evCall F__law_pick (arTmp (evTake 0) (arTmp (evBin .Add (ev2 (evLoc 7) (evC (.int 5)))) (arTmp (evB1 lenT (evLoc 5)) arNil)))))))))
  (fun env => .next env)) (fun env => .next env))
  (fun env => .next env)))))))
theorem rows_body (ns : List Int) (a : Nat) (most sp : Int) (sg : List PyData) (hsp : 0 < sp ∧ sp ≤ 10000) (hsg : SgOk sg) (hm : most ≤ 1000) (y : Nat) (ys : List Nat) (env : Envt) (hp : rowsInv ns a most sp sg (y :: ys) env) : ∃ env1 env2, setTg (.one 6) (PyData.int (y : Int)) env = some env1 ∧ rowsBody env1 = .next env2 ∧ rowsInv ns a most sp sg ys env2 := by
  obtain ⟨ss, x6, x7, x8, x9, x10, x11, rfl, ok, hlen⟩ := hp
  simp only [List.length_cons] at hlen
  obtain ⟨h, hh⟩ : ∃ h : Int, h = (a : Int) + 10 + 6 * (y : Int) := ⟨_, rfl⟩
  have h0 : 0 ≤ h := by omega
  obtain ⟨n0, b0, q0⟩ := pick_of ns h sp h0 hsp.1
  obtain ⟨n1, b1, q1⟩ := pick_of ns (h + 1) 3 (by omega) (by decide)
  obtain ⟨n2, b2, q2⟩ := pick_of ns (h + 2) 4 (by omega) (by decide)
  have hsl : 0 < sg.length := List.length_pos_iff.mpr hsg.1
  obtain ⟨n3, b3, q3⟩ := pick_of ns (h + 3) (sg.length : Int) (by omega) (by omega)
  obtain ⟨n4, b4, q4⟩ := pick_of ns (h + 4) 9 (by omega) (by decide)
  obtain ⟨n5, b5, q5⟩ := pick_of ns (h + 5) ((ss.length : Int) + 1) (by omega) (by omega)
  obtain ⟨d1, m1, e1⟩ := idx_in [.str "a", .str "b", .str "cd"] n1 b1
  obtain ⟨d2, m2, e2⟩ := idx_in [.str "p", .str "q", .str "home", .str "z"] n2 b2
  obtain ⟨d3, m3, e3⟩ := idx_in sg n3 b3
  have c1 : ∃ x : Str, d1 = .str x ∧ Nm x ∧ x.length < 1000 := by
    simp at m1
    rcases m1 with rfl | rfl | rfl
    · exact ⟨_, rfl, nm_a, by decide⟩
    · exact ⟨_, rfl, nm_b, by decide⟩
    · exact ⟨_, rfl, nm_cd, by decide⟩
  have c2 : ∃ x : Str, d2 = .str x ∧ Nm x := by
    simp at m2
    rcases m2 with rfl | rfl | rfl | rfl
    · exact ⟨_, rfl, nm_p⟩
    · exact ⟨_, rfl, nm_q⟩
    · exact ⟨_, rfl, nm_home⟩
    · exact ⟨_, rfl, nm_z⟩
  obtain ⟨x3, rfl, c3⟩ := hsg.2.2 d3 m3
  obtain ⟨x1, rfl, c1, c1'⟩ := c1
  obtain ⟨x2, rfl, c2⟩ := c2
  have z3 : (3 : Nat) ≤ sizeLine := by decide
  have z4 : (4 : Nat) ≤ sizeLine := by decide
  have new : OkStp ⟨n0, x1, x2, x3⟩ := ⟨⟨⟨b0.1, by show n0 ≤ 9999; omega⟩, c1, c2, c3⟩, c1'⟩
  have ok2 : ∀ s ∈ ss ++ [(⟨n0, x1, x2, x3⟩ : Stp)], OkStp s := fun s hs => (List.mem_append.mp hs).elim (ok s) fun z => by rw [List.mem_singleton.mp z]; exact new
  refine ⟨[some (.dat (nsD ns)), some (.dat (.int a)), some (.dat (.int most)), some (.dat (.int sp)), some (.dat (.list sg)), some (tl (ss.map sE)), some (.dat (.int y)), x7, x8, x9, x10, x11], ?_⟩
  have happ := evApp_tl (i := 5) (ev := (evTup (evCons (evTake 10) (evCons (evTake 11) (evCons (evTake 8) (evCons (evTake 9) evNil)))))) (env := [some (.dat (nsD ns)), some (.dat (.int a)), some (.dat (.int most)), some (.dat (.int sp)), some (.dat (.list sg)), some (tl (ss.map sE)), some (.dat (.int y)), some (.dat (.int h)), some (.dat (.str x2)), some (.dat (.str x3)), some (.dat (.int n0)), some (.dat (.str x1))])
    (env1 := [some (.dat (nsD ns)), some (.dat (.int a)), some (.dat (.int most)), some (.dat (.int sp)), some (.dat (.list sg)), some (tl (ss.map sE)), some (.dat (.int y)), some (.dat (.int h)), some (.dat (.str x2)), some (.dat (.str x3)), some (.dat (.int n0)), some (.dat (.str x1))]) (ds0 := ss.map sE) (ds := ss.map sE) (d := sE ⟨n0, x1, x2, x3⟩) rfl (by simp [z4, sE]) rfl (by rw [sizeLine_eq, List.length_map]; omega)
  rw [show ss.map sE ++ [sE ⟨n0, x1, x2, x3⟩] = (ss ++ [(⟨n0, x1, x2, x3⟩ : Stp)]).map sE by simp] at happ
  obtain ⟨d5, m5, e5⟩ := idx_inT ((ss ++ [(⟨n0, x1, x2, x3⟩ : Stp)]).map sE) n5 (by simp; omega)
  obtain ⟨s5, r5, rfl⟩ := List.mem_map.mp m5
  have hlen5 : lenT (tl ((ss ++ [(⟨n0, x1, x2, x3⟩ : Stp)]).map sE)) = some (.dat (.int ((ss.length : Int) + 1))) := by
    rw [lenT_tl]
    simp
  have happ2 := evApp_tl (i := 5) (ev := (evLeaf (evIdx (ev2S 5 (evCall F__law_pick (arTmp (evTake 0) (arTmp (evBin .Add (ev2 (evLoc 7) (evC (.int 5)))) (arTmp (evB1 lenT (evLoc 5)) arNil)))))))) (env := [some (.dat (nsD ns)), some (.dat (.int a)), some (.dat (.int most)), some (.dat (.int sp)), some (.dat (.list sg)), some (tl ((ss ++ [(⟨n0, x1, x2, x3⟩ : Stp)]).map sE)), some (.dat (.int y)), some (.dat (.int h)), some (.dat (.str x2)), some (.dat (.str x3)), some (.dat (.int n0)), some (.dat (.str x1))])
    (env1 := [some (.dat (nsD ns)), some (.dat (.int a)), some (.dat (.int most)), some (.dat (.int sp)), some (.dat (.list sg)), some (tl ((ss ++ [(⟨n0, x1, x2, x3⟩ : Stp)]).map sE)), some (.dat (.int y)), some (.dat (.int h)), some (.dat (.str x2)), some (.dat (.str x3)), some (.dat (.int n0)), some (.dat (.str x1))]) (ds0 := (ss ++ [(⟨n0, x1, x2, x3⟩ : Stp)]).map sE) (ds := (ss ++ [(⟨n0, x1, x2, x3⟩ : Stp)]).map sE) (d := sE s5) rfl (by simp [hlen5, q5, e5, -List.map_append]) rfl (by rw [sizeLine_eq, List.length_map]; simp; omega)
  rw [show (ss ++ [(⟨n0, x1, x2, x3⟩ : Stp)]).map sE ++ [sE s5] = (ss ++ [(⟨n0, x1, x2, x3⟩ : Stp)] ++ [s5]).map sE by simp] at happ2
  have hmul : binT .Mult (.dat (.int 6)) (.dat (.int (y : Int))) = some (.dat (.int (6 * (y : Int)))) := by simp
  by_cases c : n4 = 0
  · refine ⟨[some (.dat (nsD ns)), some (.dat (.int a)), some (.dat (.int most)), some (.dat (.int sp)), some (.dat (.list sg)), some (tl ((ss ++ [(⟨n0, x1, x2, x3⟩ : Stp)] ++ [s5]).map sE)), some (.dat (.int y)), some (.dat (.int h)), some (.dat (.str x2)), some (.dat (.str x3)), some (.dat (.int n0)), some (.dat (.str x1))], by simp [setTg], ?_, ss ++ [(⟨n0, x1, x2, x3⟩ : Stp)] ++ [s5], _, _, _, _, _, _, rfl, fun s hs => (List.mem_append.mp hs).elim (ok2 s) fun z => by rw [List.mem_singleton.mp z]; exact ok2 s5 r5, by simp; omega⟩
    unfold rowsBody
    subst c
    simp [evPar, hmul, ← hh, q0, q1, q2, q3, q4, e1, e2, e3, T.frz, z3, z4, len_list, happ, happ2, -VR.mul_int, -List.map_append]
  · refine ⟨[some (.dat (nsD ns)), some (.dat (.int a)), some (.dat (.int most)), some (.dat (.int sp)), some (.dat (.list sg)), some (tl ((ss ++ [(⟨n0, x1, x2, x3⟩ : Stp)]).map sE)), some (.dat (.int y)), some (.dat (.int h)), some (.dat (.str x2)), some (.dat (.str x3)), some (.dat (.int n0)), some (.dat (.str x1))], by simp [setTg], ?_, ss ++ [(⟨n0, x1, x2, x3⟩ : Stp)], _, _, _, _, _, _, rfl, ok2, by simp; omega⟩
    unfold rowsBody
    simp [evPar, hmul, ← hh, q0, q1, q2, q3, q4, e1, e2, e3, T.frz, z3, z4, len_list, happ, c, -VR.mul_int, -List.map_append]
end VW

namespace VW
open PySem PySem.Spec PyProof.Rows L2 VR
open PySem.W (Datum DatumOrd T3 T4 Tup)
section
variable {α : Type} [DecidableEq α] [DatumOrd α]
theorem lt_irr (x : α) : DatumOrd.lt x x = false := by
  rw [← DatumOrd.lt_eq]
  exact PySem.W.dataLt_self _
theorem lt_tr {x y z : α} (h1 : DatumOrd.lt x y = true) (h2 : DatumOrd.lt y z = true) : DatumOrd.lt x z = true := by
  rw [← DatumOrd.lt_eq] at h1 h2 ⊢
  exact lex_trans _ _ _ h1 h2
theorem lt_neg {x z : α} (y : α) (h : DatumOrd.lt x z = true) : DatumOrd.lt x y = true ∨ DatumOrd.lt y z = true := by
  rw [← DatumOrd.lt_eq] at h
  rw [← DatumOrd.lt_eq, ← DatumOrd.lt_eq]
  exact lex_negTrans _ _ _ h
theorem lt_tot {x y : α} (h1 : DatumOrd.lt x y = false) (h2 : DatumOrd.lt y x = false) : x = y := by
  rw [← DatumOrd.lt_eq] at h1 h2
  have e := lex_total _ _ h1 h2
  have q := (PySem.W.toks_eqv _ _ (DatumOrd.alike x y)).2
  by_cases c : x = y
  · exact c
  · have w := q (by rw [Datum.eqv]; exact decide_eq_false c) [] [Sum.inl 0]
    rw [e, List.append_nil, ← List.append_nil (PySem.W.keyToks (Datum.toD y)), List.append_assoc, PySem.W.lex_pre, PySem.W.lex_pre] at w
    exact absurd w (by decide)
theorem lt_asym {x y : α} (h : DatumOrd.lt x y = true) : DatumOrd.lt y x = false := by
  cases q : DatumOrd.lt y x with
  | false => rfl
  | true => exact absurd ((lt_irr x).symm.trans (lt_tr h q)) (by decide)
theorem srt_pw (xs : List α) : (srt xs).Pairwise fun x y => DatumOrd.lt y x = false := by
  have h := List.pairwise_mergeSort (le := fun x y : α => !DatumOrd.lt y x) (fun a b c h1 h2 => by
    simp only [Bool.not_eq_true'] at h1 h2 ⊢
    cases q : DatumOrd.lt c a with
    | false => rfl
    | true =>
      rcases lt_neg b q with z | z
      · rw [h2] at z; cases z
      · rw [h1] at z; cases z) (fun a b => by
    cases q : DatumOrd.lt b a with
    | false => rfl
    | true => rw [lt_asym q]; rfl) xs
  refine List.Pairwise.imp (fun {a b} z => ?_) h
  simpa using z
theorem srt_perm (xs : List α) : (srt xs).Perm xs := List.mergeSort_perm ..
theorem srt_of_pw {xs : List α} (h : xs.Pairwise fun x y => DatumOrd.lt y x = false) : srt xs = xs := List.mergeSort_of_pairwise (List.Pairwise.imp (fun {a b} z => by simpa using z) h)
theorem pw_eq {xs ys : List α} (hx : xs.Pairwise fun x y => DatumOrd.lt y x = false) (hy : ys.Pairwise fun x y => DatumOrd.lt y x = false) (h : xs.Perm ys) : xs = ys := List.Perm.eq_of_pairwise (fun a b _ _ h1 h2 => lt_tot h2 h1) hx hy h
theorem srt_eq {xs ys : List α} (h : xs.Perm ys) : srt xs = srt ys := pw_eq (srt_pw xs) (srt_pw ys) (((srt_perm xs).trans h).trans (srt_perm ys).symm)
/-- sorted, each once: rising -/
def Rise (xs : List α) : Prop := xs.Pairwise fun x y => DatumOrd.lt x y = true
theorem Rise.pw {xs : List α} (h : Rise xs) : xs.Pairwise fun x y => DatumOrd.lt y x = false := List.Pairwise.imp (fun {a b} z => lt_asym z) h
theorem srt_rise {xs : List α} (h : xs.Nodup) : Rise (srt xs) := by
  have h1 := srt_pw xs
  have h2 : (srt xs).Nodup := (srt_perm xs).nodup_iff.mpr h
  unfold Rise
  refine List.Pairwise.imp₂ (fun {a b} z1 z2 => ?_) h1 h2
  cases q : DatumOrd.lt a b with
  | true => rfl
  | false => exact absurd (lt_tot q z1) z2
theorem Rise.nodup {xs : List α} (h : Rise xs) : xs.Nodup := List.Pairwise.imp (fun {a b} z => fun e => by rw [e, lt_irr] at z; cases z) h
theorem rise_eq {xs ys : List α} (hx : Rise xs) (hy : Rise ys) (h : ∀ x, x ∈ xs ↔ x ∈ ys) : xs = ys := pw_eq hx.pw hy.pw ((List.perm_ext_iff_of_nodup hx.nodup hy.nodup).mpr h)
end
theorem perm_of_map {α β : Type} {f : α → β} {es ys : List β} (h : es.Perm ys) : ∀ xs : List α, ys = xs.map f → ∃ zs : List α, zs.Perm xs ∧ es = zs.map f := by
  induction h with
  | nil =>
    intro xs hx
    cases xs with
    | nil => exact ⟨[], List.Perm.refl _, rfl⟩
    | cons x xs => cases hx
  | cons x p ih =>
    intro xs hx
    cases xs with
    | nil => cases hx
    | cons y xs =>
      injection hx with h1 h2
      obtain ⟨zs, q1, q2⟩ := ih xs h2
      exact ⟨y :: zs, q1.cons y, by rw [List.map_cons, h1, q2]⟩
  | swap x y l =>
    intro xs hx
    cases xs with
    | nil => cases hx
    | cons a xs =>
      cases xs with
      | nil => injection hx with h1 h2; cases h2
      | cons b xs =>
        injection hx with h1 h2
        injection h2 with h2 h3
        exact ⟨b :: a :: xs, List.Perm.swap a b xs, by simp only [List.map_cons, h1, h2, h3]⟩
  | trans p1 p2 ih1 ih2 =>
    intro xs hx
    obtain ⟨zs, q1, q2⟩ := ih2 xs hx
    obtain ⟨ws, q3, q4⟩ := ih1 zs q2
    exact ⟨ws, q3.trans q1, q4⟩
end VW

namespace VW
open PySem PySem.Spec PyProof.Rows L2 VR
open PySem.W (Datum DatumOrd T3 T4 Tup)
/-! plain: what cut tells -/
theorem cutStep_flat (p l : Int) (rows : List (List Stop)) (x : Stop) : (cutStep p l rows x).flatten = rows.flatten ++ [x] := by
  unfold cutStep
  by_cases h : rows = []
  · subst h; rfl
  · obtain ⟨rs, row, rfl⟩ := snoc_of h
    simp only [List.getLast?_append, List.getLast?_singleton, Option.some_or]
    split
    · split
      · simp
      · simp
    · simp
theorem cutRows_flat (p l : Int) (xs : List Stop) : (cutRows p l xs).flatten = xs := by
  have : ∀ (xs : List Stop) (rows : List (List Stop)), (xs.foldl (cutStep p l) rows).flatten = rows.flatten ++ xs := by
    intro xs
    induction xs with
    | nil => intro rows; simp
    | cons x xs ih =>
      intro rows
      rw [List.foldl_cons, ih, cutStep_flat]
      simp
  simpa [cutRows] using this xs []
theorem cutStep_ne (p l : Int) (rows : List (List Stop)) (x : Stop) (h : ∀ r ∈ rows, r ≠ []) : ∀ r ∈ cutStep p l rows x, r ≠ [] := by
  have base : ∀ r ∈ rows ++ [[x]], r ≠ [] := fun r hr => by
    rcases List.mem_append.mp hr with z | z
    · exact h r z
    · rw [List.mem_singleton.mp z]; simp
  unfold cutStep
  by_cases h0 : rows = []
  · subst h0; exact base
  · obtain ⟨rs, row, rfl⟩ := snoc_of h0
    simp only [List.getLast?_append, List.getLast?_singleton, Option.some_or]
    split
    · split
      · intro r hr
        simp at hr
        rcases hr with z | rfl
        · exact h r (by simp [z])
        · simp
      · exact base
    · exact base
theorem cutRows_ne (p l : Int) (xs : List Stop) : ∀ r ∈ cutRows p l xs, r ≠ [] := by
  have : ∀ (xs : List Stop) (rows : List (List Stop)), (∀ r ∈ rows, r ≠ []) → ∀ r ∈ xs.foldl (cutStep p l) rows, r ≠ [] := by
    intro xs
    induction xs with
    | nil => intro rows h; exact h
    | cons x xs ih =>
      intro rows h
      exact ih _ (cutStep_ne p l rows x h)
  exact this xs [] (fun r hr => by cases hr)
theorem foldl_app {α β : Type} (f : α → List β) : ∀ (xs : List α) (acc : List β), xs.foldl (fun acc x => acc ++ f x) acc = acc ++ xs.flatMap f
  | [], acc => by simp
  | x :: xs, acc => by
    rw [List.foldl_cons, foldl_app f xs, List.flatMap_cons, List.append_assoc]
theorem cutAllM_eq (p l : Int) (bk : Bk2) : cutAllM p l bk = (srt (bk.map (·.1))).flatMap fun o => cutM p l o (srt (ded (look bk o))) := by
  unfold cutAllM
  rw [foldl_app (fun o => cutM p l o (srt (ded (look bk o))))]
  rfl
theorem put_keys (o : Str) (x : Stop) : ∀ (bk : Bk2) (k : Str), k ∈ (putB o x bk).map (·.1) ↔ k = o ∨ k ∈ bk.map (·.1)
  | [], k => by simp [putB]
  | q :: l, k => by
    have ih := put_keys o x l k
    unfold putB
    by_cases c : q.1 = o
    · rw [if_pos c]
      simp only [List.map_cons, List.mem_cons]
      constructor
      · exact .inr
      · rintro (z | z)
        · exact .inl (by rw [z, c])
        · exact z
    · rw [if_neg c]
      simp only [List.map_cons, List.mem_cons]
      rw [ih]
      constructor
      · rintro (z | z | z)
        · exact .inr (.inl z)
        · exact .inl z
        · exact .inr (.inr z)
      · rintro (z | z | z)
        · exact .inr (.inl z)
        · exact .inl z
        · exact .inr (.inr z)
theorem put_nodup (o : Str) (x : Stop) : ∀ bk : Bk2, (bk.map (·.1)).Nodup → ((putB o x bk).map (·.1)).Nodup
  | [], _ => by simp [putB]
  | q :: l, h => by
    rw [List.map_cons, List.nodup_cons] at h
    unfold putB
    by_cases c : q.1 = o
    · rw [if_pos c, List.map_cons, List.nodup_cons]
      exact h
    · rw [if_neg c, List.map_cons, List.nodup_cons]
      refine ⟨fun z => ?_, put_nodup o x l h.2⟩
      rcases (put_keys o x l q.1).mp z with e | e
      · exact c e
      · exact h.1 e
theorem bookM_nodup (ss xs : List Stp) (bk : Bk2) (h : (bk.map (·.1)).Nodup) : ((bookM ss xs bk).map (·.1)).Nodup := by
  unfold bookM
  induction xs generalizing bk with
  | nil => exact h
  | cons x xs ih => exact ih _ (put_nodup _ _ _ h)
theorem bookM_look (ss xs : List Stp) (bk : Bk2) (o : Str) : look (bookM ss xs bk) o = look bk o ++ (xs.filter fun s => decide (ownerM ss s = o)).map stopOf := by
  unfold bookM
  induction xs generalizing bk with
  | nil => simp
  | cons x xs ih =>
    rw [List.foldl_cons, ih, look_put]
    by_cases c : ownerM ss x = o
    · rw [if_pos c.symm, List.filter_cons_of_pos (by simp [c]), ← c]
      simp
    · rw [if_neg (fun z => c z.symm), List.filter_cons_of_neg (by simp [c])]
theorem bookM_keys (ss xs : List Stp) (bk : Bk2) (o : Str) : o ∈ (bookM ss xs bk).map (·.1) ↔ o ∈ bk.map (·.1) ∨ ∃ s ∈ xs, ownerM ss s = o := by
  unfold bookM
  induction xs generalizing bk with
  | nil => simp
  | cons x xs ih =>
    rw [List.foldl_cons, ih, put_keys]
    simp only [List.mem_cons, exists_eq_or_imp]
    constructor
    · rintro ((z | z) | z)
      · exact .inr (.inl z.symm)
      · exact .inl z
      · exact .inr (.inr z)
    · rintro (z | z | z)
      · exact .inl (.inr z)
      · exact .inl (.inl z.symm)
      · exact .inr z
/-- the stops of an owner -/
def stopsOf (ss : List Stp) (o : Str) : List Stop := srt (ded ((ss.filter fun s => decide (ownerM ss s = o)).map stopOf))
def ownersM (ss : List Stp) : List Str := srt (ded (ss.map (ownerM ss)))
theorem visitsM_eq (p l : Int) (ss : List Stp) : visitsM p l ss = (ownersM ss).flatMap fun o => cutM p l o (stopsOf ss o) := by
  unfold visitsM
  rw [cutAllM_eq]
  have h1 : srt ((bookM ss ss []).map (·.1)) = ownersM ss := by
    refine rise_eq (srt_rise (bookM_nodup ss ss [] List.nodup_nil)) (srt_rise (nodup_ded _)) fun o => ?_
    unfold ownersM
    rw [mem_srt, mem_srt, mem_ded, bookM_keys]
    simp
  rw [h1]
  congr 1
  funext o
  rw [bookM_look]
  rfl
end VW

namespace VW
open PySem PySem.Spec PyProof.Rows L2 VR
open PySem.W (Datum DatumOrd T3 T4 Tup)
/-! plain: visits rise, and each begins ahead of its end -/
theorem vis_lt_owner {v w : Vis} (h : DatumOrd.lt v.1 w.1 = true) : DatumOrd.lt v w = true := by
  show (if v.1 = w.1 then DatumOrd.lt v.2 w.2 else DatumOrd.lt v.1 w.1) = true
  rw [if_neg (fun e => by rw [e, lt_irr] at h; cases h)]
  exact h
theorem vis_lt_stop {o : Str} {x y : Stop} {xs ys : List Stop} (h : DatumOrd.lt x y = true) : DatumOrd.lt ((o, ⟨x :: xs⟩) : Vis) (o, ⟨y :: ys⟩) = true := by
  show (if o = o then PySem.W.listLt (x :: xs) (y :: ys) else DatumOrd.lt o o) = true
  rw [if_pos rfl, PySem.W.listLt, if_neg (fun e => by rw [e, lt_irr] at h; cases h)]
  exact h
theorem rows_rise {o : Str} : ∀ {rows : List (List Stop)}, (∀ r ∈ rows, r ≠ []) → Rise rows.flatten → Rise (rows.map fun r => ((o, ⟨r⟩) : Vis))
  | [], _, _ => List.Pairwise.nil
  | r :: rows, hne, h => by
    rw [List.flatten_cons] at h
    obtain ⟨h1, h2, h3⟩ := List.pairwise_append.mp h
    rw [List.map_cons]
    refine List.Pairwise.cons (fun w hw => ?_) (rows_rise (fun q hq => hne q (List.mem_cons_of_mem _ hq)) h2)
    obtain ⟨q, hq, rfl⟩ := List.mem_map.mp hw
    cases hr : r with
    | nil => exact absurd hr (hne r List.mem_cons_self)
    | cons x xs =>
      cases hq' : q with
      | nil => exact absurd hq' (hne q (List.mem_cons_of_mem _ hq))
      | cons y ys =>
        refine vis_lt_stop (h3 x (by rw [hr]; exact List.mem_cons_self) y ?_)
        exact List.mem_flatten.mpr ⟨q, hq, by rw [hq']; exact List.mem_cons_self⟩
theorem flat_rise {α : Type} (f : α → List Vis) (key : α → Str) : ∀ {os : List α}, os.Pairwise (fun a b => DatumOrd.lt (key a) (key b) = true) → (∀ o ∈ os, Rise (f o)) → (∀ o ∈ os, ∀ v ∈ f o, v.1 = key o) → Rise (os.flatMap f)
  | [], _, _, _ => List.Pairwise.nil
  | o :: os, h1, h2, h3 => by
    obtain ⟨g1, g2⟩ := List.pairwise_cons.mp h1
    rw [List.flatMap_cons]
    refine List.pairwise_append.mpr ⟨h2 o List.mem_cons_self, flat_rise f key g2 (fun q hq => h2 q (List.mem_cons_of_mem _ hq)) (fun q hq => h3 q (List.mem_cons_of_mem _ hq)), fun v hv w hw => ?_⟩
    obtain ⟨q, hq, hw⟩ := List.mem_flatMap.mp hw
    refine vis_lt_owner ?_
    rw [h3 o List.mem_cons_self v hv, h3 q (List.mem_cons_of_mem _ hq) w hw]
    exact g1 q hq
theorem stopsOf_rise (ss : List Stp) (o : Str) : Rise (stopsOf ss o) := srt_rise (nodup_ded _)
theorem cutM_rise (p l : Int) (o : Str) {xs : List Stop} (h : Rise xs) : Rise (cutM p l o xs) := rows_rise (cutRows_ne p l xs) (by rw [cutRows_flat]; exact h)
theorem visitsM_rise (p l : Int) (ss : List Stp) : Rise (visitsM p l ss) := by
  rw [visitsM_eq]
  refine flat_rise _ id (srt_rise (nodup_ded _)) (fun o _ => cutM_rise p l o (stopsOf_rise ss o)) fun o _ v hv => ?_
  unfold cutM at hv
  obtain ⟨r, _, rfl⟩ := List.mem_map.mp hv
  rfl
theorem stop_lt_le {x y : Stop} (h : DatumOrd.lt x y = true) : x.a ≤ y.a := by
  by_cases c : x.a = y.a
  · omega
  · have : DatumOrd.lt x.a y.a = true := by
      have q : DatumOrd.lt x y = if x.a = y.a then (if x.b = y.b then DatumOrd.lt x.c y.c else DatumOrd.lt x.b y.b) else DatumOrd.lt x.a y.a := rfl
      rw [q, if_neg c] at h
      exact h
    have : x.a < y.a := of_decide_eq_true this
    omega
theorem visitsM_mem {p l : Int} {ss : List Stp} {v : Vis} (h : v ∈ visitsM p l ss) : v.2.items ≠ [] ∧ Rise v.2.items := by
  rw [visitsM_eq] at h
  obtain ⟨o, _, hv⟩ := List.mem_flatMap.mp h
  unfold cutM at hv
  obtain ⟨r, hr, rfl⟩ := List.mem_map.mp hv
  refine ⟨cutRows_ne p l _ r hr, ?_⟩
  have q := stopsOf_rise ss o
  rw [← cutRows_flat p l (stopsOf ss o)] at q
  exact (List.pairwise_flatten.mp q).1 r hr
theorem first_le_last {v : Vis} (h : v.2.items ≠ []) (hr : Rise v.2.items) : firstM v ≤ lastM v := by
  cases q : v.2.items with
  | nil => exact absurd q h
  | cons x xs =>
    unfold firstM lastM
    rw [q] at hr ⊢
    rw [List.getLast?_eq_some_getLast (List.cons_ne_nil x xs)]
    show x.a ≤ ((x :: xs).getLast _).a
    cases xs with
    | nil => exact Int.le_refl _
    | cons y ys =>
      have m := List.getLast_mem (List.cons_ne_nil y ys)
      rw [List.getLast_cons (List.cons_ne_nil y ys)]
      exact stop_lt_le ((List.pairwise_cons.mp hr).1 _ m)
end VW

namespace VW
open PySem PySem.Spec PyProof.Rows L2 VR
open PySem.W (Datum DatumOrd T3 T4 Tup)
/-! plain: the first of the most -/
abbrev Bst := Option (Int × Int)
def bStep (c : Int → Nat) (r : Bst) (m : Int) : Bst := match r with
  | none => if c m = 0 then none else some (c m, m)
  | some q => if q.1 < c m then some (c m, m) else some q
def Best (c : Int → Nat) (S : List Int) : Bst → Prop
  | none => ∀ m ∈ S, c m = 0
  | some q => q.2 ∈ S ∧ q.1 = c q.2 ∧ 0 < c q.2 ∧ ∀ m ∈ S, c m ≤ c q.2 ∧ (m < q.2 → c m < c q.2)
theorem Best.uniq {c : Int → Nat} {S : List Int} : ∀ {r r' : Bst}, Best c S r → Best c S r' → r = r'
  | none, none, _, _ => rfl
  | none, some q, h, h' => by
    have := h q.2 h'.1
    have := h'.2.2.1
    omega
  | some q, none, h, h' => by
    have := h' q.2 h.1
    have := h.2.2.1
    omega
  | some (n, m), some (n', m'), h, h' => by
    obtain ⟨h1, h2, h3, h4⟩ := h
    obtain ⟨g1, g2, g3, g4⟩ := h'
    simp only at h1 h2 h3 h4 g1 g2 g3 g4
    have a1 := h4 m' g1
    have a2 := g4 m h1
    have e : m = m' := by
      rcases Int.lt_trichotomy m m' with z | z | z
      · have := a2.2 z; omega
      · exact z
      · have := a1.2 z; omega
    subst e
    rw [h2, g2]
theorem Best.step {c : Int → Nat} {S : List Int} {r : Bst} {m : Int} (h : Best c S r) (hm : ∀ d ∈ S, d < m) : Best c (S ++ [m]) (bStep c r m) := by
  cases r with
  | none =>
    unfold bStep
    simp only
    split
    · rename_i z
      intro x hx
      rcases List.mem_append.mp hx with q | q
      · exact h x q
      · rw [List.mem_singleton.mp q]; exact z
    · rename_i z
      refine ⟨by simp, rfl, by simp only; omega, fun x hx => ?_⟩
      rcases List.mem_append.mp hx with q | q
      · have := h x q
        simp only
        omega
      · rw [List.mem_singleton.mp q]
        simp only
        omega
  | some q =>
    obtain ⟨h1, h2, h3, h4⟩ := h
    unfold bStep
    simp only
    split
    · rename_i z
      refine ⟨by simp, rfl, by simp only; omega, fun x hx => ?_⟩
      rcases List.mem_append.mp hx with w | w
      · have := (h4 x w).1
        simp only
        omega
      · rw [List.mem_singleton.mp w]
        simp only
        omega
    · rename_i z
      refine ⟨by simp [h1], h2, h3, fun x hx => ?_⟩
      rcases List.mem_append.mp hx with w | w
      · exact h4 x w
      · rw [List.mem_singleton.mp w]
        have := hm q.2 h1
        omega
theorem Best.fold {c : Int → Nat} : ∀ (ys S : List Int) (r : Bst), Best c S r → (∀ d ∈ S, ∀ y ∈ ys, d < y) → ys.Pairwise (· < ·) → Best c (S ++ ys) (ys.foldl (bStep c) r)
  | [], S, r, h, _, _ => by simpa using h
  | y :: ys, S, r, h, h1, h2 => by
    obtain ⟨g1, g2⟩ := List.pairwise_cons.mp h2
    have := Best.fold ys (S ++ [y]) (bStep c r y) (h.step fun d hd => h1 d hd y List.mem_cons_self) (fun d hd z hz => by
      rcases List.mem_append.mp hd with w | w
      · exact h1 d w z (List.mem_cons_of_mem _ hz)
      · rw [List.mem_singleton.mp w]; exact g1 z hz) g2
    simpa using this
theorem rise_int {xs : List Int} (h : Rise xs) : xs.Pairwise (· < ·) := List.Pairwise.imp (fun {a b} z => of_decide_eq_true z) h
theorem best_of {c : Int → Nat} {xs : List Int} (h : Rise xs) : Best c xs (xs.foldl (bStep c) none) := by
  have := Best.fold (c := c) xs [] none (fun m hm => by cases hm) (fun d hd => by cases hd) (rise_int h)
  simpa using this
theorem Best.more {c : Int → Nat} {F M : List Int} {r : Bst} (h : Best c F r) (h1 : ∀ f ∈ F, f ∈ M) (h2 : ∀ m ∈ M, 0 < c m → ∃ f ∈ F, f ≤ m ∧ c m ≤ c f) : Best c M r := by
  cases r with
  | none =>
    intro m hm
    by_cases z : c m = 0
    · exact z
    · obtain ⟨f, g1, g2, g3⟩ := h2 m hm (by omega)
      have := h f g1
      omega
  | some q =>
    obtain ⟨a1, a2, a3, a4⟩ := h
    refine ⟨h1 _ a1, a2, a3, fun m hm => ?_⟩
    by_cases z : c m = 0
    · omega
    · obtain ⟨f, g1, g2, g3⟩ := h2 m hm (by omega)
      have := a4 f g1
      refine ⟨by omega, fun w => ?_⟩
      have := this.2 (by omega)
      omega
theorem max_of {α : Type} (f : α → Int) : ∀ {xs : List α}, xs ≠ [] → ∃ x ∈ xs, ∀ y ∈ xs, f y ≤ f x
  | [], h => absurd rfl h
  | [x], _ => ⟨x, List.mem_cons_self, fun y hy => by rw [List.mem_singleton.mp hy]; exact Int.le_refl _⟩
  | x :: x2 :: xs, _ => by
    obtain ⟨z, h1, h2⟩ := max_of f (List.cons_ne_nil x2 xs)
    by_cases c : f x ≤ f z
    · refine ⟨z, List.mem_cons_of_mem _ h1, fun y hy => ?_⟩
      rcases List.mem_cons.mp hy with rfl | w
      · exact c
      · exact h2 y w
    · refine ⟨x, List.mem_cons_self, fun y hy => ?_⟩
      rcases List.mem_cons.mp hy with rfl | w
      · exact Int.le_refl _
      · have := h2 y w
        omega
theorem filter_mono {α : Type} {p q : α → Bool} : ∀ {xs : List α}, (∀ x ∈ xs, p x = true → q x = true) → (xs.filter p).length ≤ (xs.filter q).length
  | [], _ => Nat.le_refl _
  | x :: xs, h => by
    have ih := filter_mono (xs := xs) fun y hy => h y (List.mem_cons_of_mem _ hy)
    by_cases c : p x = true
    · rw [List.filter_cons_of_pos c, List.filter_cons_of_pos (h x List.mem_cons_self c)]
      simp only [List.length_cons]
      omega
    · rw [List.filter_cons_of_neg c]
      by_cases d : q x = true
      · rw [List.filter_cons_of_pos d]
        simp only [List.length_cons]
        omega
      · rw [List.filter_cons_of_neg d]
        exact ih
def cnt (vs : List Vis) (m : Int) : Nat := (onAt vs m).length
def firsts (vs : List Vis) : List Int := srt (ded (vs.map firstM))
theorem cnt_first (vs : List Vis) {m : Int} (h : 0 < cnt vs m) : ∃ f ∈ firsts vs, f ≤ m ∧ cnt vs m ≤ cnt vs f := by
  obtain ⟨v, h1, h2⟩ := max_of firstM (xs := onAt vs m) (List.length_pos_iff.mp h)
  have hv := List.mem_filter.mp h1
  simp only [Bool.and_eq_true, decide_eq_true_eq] at hv
  refine ⟨firstM v, ?_, hv.2.1, ?_⟩
  · unfold firsts
    rw [mem_srt, mem_ded]
    exact List.mem_map.mpr ⟨v, hv.1, rfl⟩
  · refine filter_mono fun w hw c => ?_
    have c' := h2 w (List.mem_filter.mpr ⟨hw, c⟩)
    simp only [Bool.and_eq_true, decide_eq_true_eq] at c ⊢
    exact ⟨c', by omega⟩
/-- the first moment at which most go on: whichever moments are looked at -/
theorem best_all (vs : List Vis) (M : List Int) (h : ∀ v ∈ vs, firstM v ∈ M) : (srt (ded M)).foldl (bStep (cnt vs)) none = (firsts vs).foldl (bStep (cnt vs)) none := by
  refine Best.uniq (best_of (srt_rise (nodup_ded _))) ((best_of (srt_rise (nodup_ded _))).more (fun f hf => ?_) fun m _ hm => cnt_first vs hm)
  unfold firsts at hf
  rw [mem_srt, mem_ded] at hf ⊢
  obtain ⟨v, h1, rfl⟩ := List.mem_map.mp hf
  exact h v h1
theorem onAt_perm {vs ws : List Vis} (h : vs.Perm ws) (m : Int) : (onAt vs m).Perm (onAt ws m) := h.filter _
theorem cnt_perm {vs ws : List Vis} (h : vs.Perm ws) (m : Int) : cnt vs m = cnt ws m := (onAt_perm h m).length_eq
theorem firsts_perm {vs ws : List Vis} (h : vs.Perm ws) : firsts vs = firsts ws := rise_eq (srt_rise (nodup_ded _)) (srt_rise (nodup_ded _)) fun x => by
  unfold firsts
  rw [mem_srt, mem_srt, mem_ded, mem_ded]
  exact (h.map firstM).mem_iff
theorem onAt_srt {vs ws : List Vis} (h : vs.Perm ws) (hr : Rise ws) (m : Int) : srt (onAt vs m) = onAt ws m := by
  rw [srt_eq (onAt_perm h m)]
  exact srt_of_pw (List.Pairwise.filter _ hr.pw)
def mostM (vs : List Vis) : Bst := (firsts vs).foldl (bStep (cnt vs)) none
theorem mostM_perm {vs ws : List Vis} (h : vs.Perm ws) : mostM vs = mostM ws := by
  unfold mostM
  rw [firsts_perm h, show cnt vs = cnt ws from funext (cnt_perm h)]
end VW

namespace VW
open PySem PySem.Spec PyProof.Rows L2 VR
open PySem.W (Datum DatumOrd T3 T4 Tup)
-- @ _law_rows
theorem sg1 : SgOk [.str "", .str "", .str "", .str "kim", .str "al"] := ⟨by simp, by decide, fun d hd => by
  simp at hd
  rcases hd with rfl | rfl | rfl
  · exact ⟨_, rfl, .inr rfl⟩
  · exact ⟨_, rfl, .inl nm_kim⟩
  · exact ⟨_, rfl, .inl nm_al⟩⟩
theorem sg2 : SgOk [.str "", .str "kim", .str "zoe"] := ⟨by simp, by decide, fun d hd => by
  simp at hd
  rcases hd with rfl | rfl | rfl
  · exact ⟨_, rfl, .inr rfl⟩
  · exact ⟨_, rfl, .inl nm_kim⟩
  · exact ⟨_, rfl, .inl nm_zoe⟩⟩
theorem sg3 : SgOk [.str ""] := ⟨by simp, by decide, fun d hd => by
  simp at hd
  subst hd
  exact ⟨_, rfl, .inr rfl⟩⟩
theorem sg4 : SgOk [.str "al", .str "kim", .str "zoe"] := ⟨by simp, by decide, fun d hd => by
  simp at hd
  rcases hd with rfl | rfl | rfl
  · exact ⟨_, rfl, .inl nm_al⟩
  · exact ⟨_, rfl, .inl nm_kim⟩
  · exact ⟨_, rfl, .inl nm_zoe⟩⟩
theorem in62_of {n : Int} (h : 0 ≤ n ∧ n < 4611686018427387904) : in62 n = true := by
  unfold in62
  rw [decide_eq_true_eq]
  omega
theorem rows_eq (ns : List Int) (a most : Nat) (hm : most ≤ 1000) : ∃ ss : List Stp, ss.length ≤ 2 * most ∧ (∀ s ∈ ss, OkStp s) ∧ F__law_rows [.dat (nsD ns), .dat (.int a), .dat (.int most)] = .ok (tl (ss.map sE)) [.dat (nsD ns), .dat (.int a), .dat (.int most)] := by
  obtain ⟨n0, b0, q0⟩ := pick_of ns a 4 (by omega) (by decide)
  obtain ⟨n1, b1, q1⟩ := pick_of ns ((a : Int) + 1) 4 (by omega) (by decide)
  obtain ⟨n2, b2, q2⟩ := pick_of ns ((a : Int) + 2) ((most : Int) + 1) (by omega) (by omega)
  obtain ⟨d0, m0, e0⟩ := idx_in [.int 6, .int 40, .int 300, .int 9999] n0 b0
  obtain ⟨d1, m1, e1⟩ := idx_in [.list [.str "", .str "", .str "", .str "kim", .str "al"], .list [.str "", .str "kim", .str "zoe"], .list [.str ""], .list [.str "al", .str "kim", .str "zoe"]] n1 b1
  have c0 : ∃ sp : Int, d0 = .int sp ∧ 0 < sp ∧ sp ≤ 10000 := by
    simp at m0
    rcases m0 with rfl | rfl | rfl | rfl <;> exact ⟨_, rfl, by decide, by decide⟩
  have c1 : ∃ sg : List PyData, d1 = .list sg ∧ SgOk sg := by
    simp only [List.mem_cons, List.not_mem_nil, or_false] at m1
    rcases m1 with rfl | rfl | rfl | rfl
    · exact ⟨_, rfl, sg1⟩
    · exact ⟨_, rfl, sg2⟩
    · exact ⟨_, rfl, sg3⟩
    · exact ⟨_, rfl, sg4⟩
  obtain ⟨sp, rfl, c0⟩ := c0
  obtain ⟨sg, rfl, c1⟩ := c1
  obtain ⟨env2, ef, ss, x6, x7, x8, x9, x10, x11, rfl, ok, hlen⟩ := for_inv (fun k : Nat => PyData.int (k : Int)) (t := .one 6) (body := rowsBody) (rngD 0 n2.toNat) (rowsInv ns a most sp sg) (fun y ys env hp => rows_body ns a most sp sg c0 c1 (by omega) y ys env hp) (List.range n2.toNat)
    [some (.dat (nsD ns)), some (.dat (.int a)), some (.dat (.int most)), some (.dat (.int sp)), some (.dat (.list sg)), some (.node .lst []), none, none, none, none, none, none] ⟨[], none, none, none, none, none, none, rfl, fun s hs => (by cases hs), by simp; omega⟩
  rw [← rngD_nat] at ef
  unfold rowsBody at ef
  refine ⟨ss, by simp at hlen; omega, ok, ?_⟩
  unfold F__law_rows ev__law_rows
  refine (evFn_ap _ _ _ _ ⟨rfl, Nat.le_of_ble_eq_true rfl⟩).trans ?_
  have z0 : (0 : Nat) ≤ sizeLine := by decide
  have z1 : (1 : Nat) ≤ sizeLine := by decide
  have z3 : (3 : Nat) ≤ sizeLine := by decide
  have z4 : (4 : Nat) ≤ sizeLine := by decide
  have z5 : (5 : Nat) ≤ sizeLine := by decide
  have hi : in62 n2 = true := in62_of ⟨b2.1, by omega⟩
  simp [fnEnv, q0, q1, q2, e0, e1, T.frz, frzAll, z1, z3, z4, z5, evForS, evRng1, hi, ef]
end VW

namespace VW
open PySem PySem.Spec PyProof.Rows L2 VR
open PySem.W (Datum DatumOrd T3 T4 Tup)
theorem evFix_ap (ev : Ev) (env : Envt) : evFix ev env = (ev env).bind fun t env' => R.lift ((fixOf t).map Src.fix) env' := rfl
@[simp] theorem cmp_is (t u : T) : cmpT .Is t u = isT t u := rfl
@[simp] theorem isT_none (t : T) : isT t (.dat .none) = some (isNon t) := rfl
@[simp] theorem isNon_none : isNon (.dat .none) = true := rfl
@[simp] theorem isNon_tup (ds : List PyData) : isNon (.dat (.tuple ds)) = false := rfl
def bD : Bst → PyData
  | none => .none
  | some q => .tuple [.int q.1, .int q.2]
-- @ most_at_once
def mostInv (d : PyData) (vs : List Vis) (fin : Bst) (ys : List Int) (env : Envt) : Prop := ∃ (r : Bst) (x2 x3 : Option T), env = [some (.dat d), some (.dat (bD r)), x2, x3, none] ∧ ys.foldl (bStep (cnt vs)) r = fin ∧ ∀ y ∈ ys, 0 < cnt vs y
end VW

namespace VW
open PySem PySem.Spec PyProof.Rows L2 VR
open PySem.W (Datum DatumOrd T3 T4 Tup)
/-! a list or tuple handed in: frozen already, or new -/
def SeqA (t : T) (b : Bool) (ds : List PyData) : Prop := t = .dat (seqD b ds) ∨ (b = false ∧ t = tl ds)
theorem SeqA.take {t : T} {b : Bool} {ds : List PyData} (h : SeqA t b ds) (i : Nat) (env : Envt) (he : env[i]? = some (some t)) : evTake i env = .ok (.dat (seqD b ds)) (env.set i (some (.dat (seqD b ds)))) := by
  rcases h with rfl | ⟨rfl, rfl⟩
  · rw [evTake_dat i env _ he]
    congr 1
    rw [List.getElem?_eq_some_iff] at he
    obtain ⟨h1, h2⟩ := he
    rw [← h2]
    simp
  · exact evTake_tl i env _ he
theorem SeqA.fix {t : T} {b : Bool} {ds : List PyData} (h : SeqA t b ds) (i : Nat) (env : Envt) (he : env[i]? = some (some t)) : evFix (evTake i) env = .ok (.fix ds) (env.set i (some (.dat (seqD b ds)))) := by
  unfold evFix
  rw [h.take i env he]
  cases b <;> rfl
theorem SeqA.seq {t : T} {b : Bool} {ds : List PyData} (h : SeqA t b ds) : t.seq = some (b, ds) := by
  rcases h with rfl | ⟨rfl, rfl⟩
  · cases b <;> rfl
  · exact seq_tl ds
-- @ on_at
-- @ visits
/-! the book of joined -/
def putA (o : Str) (xs : List Stop) : Bk2 → Bk2
  | [] => [(o, xs)]
  | q :: l => if q.1 = o then (q.1, q.2 ++ xs) :: l else q :: putA o xs l
theorem putA_none (o : Str) (xs : List Stop) : ∀ bk : Bk2, ixK (keysT bk) (.inl (.inr o)) = none → keysT (putA o xs bk) = keysT bk ++ [.inl (.inr o)] ∧ valsT (putA o xs bk) = valsT bk ++ [tl (xs.map pE)]
  | [], _ => ⟨rfl, rfl⟩
  | q :: l, h => by
    unfold ixK keysT at h
    rw [List.map_cons, List.findIdx?_cons] at h
    by_cases c : q.1 = o
    · simp [c] at h
    · have c2 : ¬ ((Sum.inl (Sum.inr q.1) : DK) = Sum.inl (Sum.inr o)) := fun z => c (by injection z with z; injection z)
      simp only [c2, decide_false, Bool.false_eq_true, if_false, Option.map_eq_none_iff] at h
      obtain ⟨h1, h2⟩ := putA_none o xs l h
      unfold putA
      rw [if_neg c]
      exact ⟨by unfold keysT at h1 ⊢; rw [List.map_cons, h1, List.map_cons]; rfl, by unfold valsT at h2 ⊢; rw [List.map_cons, h2, List.map_cons]; rfl⟩
theorem putA_some (o : Str) (xs : List Stop) : ∀ (bk : Bk2) (j : Nat), ixK (keysT bk) (.inl (.inr o)) = some j → keysT (putA o xs bk) = keysT bk ∧ (valsT bk)[j]? = some (tl ((look bk o).map pE)) ∧ valsT (putA o xs bk) = (valsT bk).set j (tl (((look bk o) ++ xs).map pE))
  | [], j, h => by cases h
  | q :: l, j, h => by
    unfold ixK keysT at h
    rw [List.map_cons, List.findIdx?_cons] at h
    by_cases c : q.1 = o
    · simp [c] at h
      subst h
      unfold putA look
      rw [if_pos c, List.find?_cons]
      simp [c, keysT, valsT]
    · have c2 : ¬ ((Sum.inl (Sum.inr q.1) : DK) = Sum.inl (Sum.inr o)) := fun z => c (by injection z with z; injection z)
      simp only [c2, decide_false, Bool.false_eq_true, if_false, Option.map_eq_some_iff] at h
      obtain ⟨i, hi, rfl⟩ := h
      obtain ⟨h1, h2, h3⟩ := putA_some o xs l i hi
      have hlk : look (q :: l) o = look l o := by
        unfold look
        rw [List.find?_cons]
        simp only [c, decide_false]
      unfold putA
      rw [if_neg c, hlk]
      refine ⟨by unfold keysT at h1 ⊢; rw [List.map_cons, h1, List.map_cons], ?_, ?_⟩
      · unfold valsT at h2 ⊢
        rw [List.map_cons, List.getElem?_cons_succ]
        exact h2
      · unfold valsT at h3 ⊢
        rw [List.map_cons, h3, List.map_cons, List.set_cons_succ]
theorem look_putA (o o2 : Str) (xs : List Stop) : ∀ bk : Bk2, look (putA o xs bk) o2 = if o2 = o then look bk o ++ xs else look bk o2
  | [] => by
    unfold putA look
    by_cases c : o = o2
    · subst c; simp
    · have c' : ¬ o2 = o := fun z => c z.symm
      simp [c, c']
  | q :: l => by
    have ih := look_putA o o2 xs l
    unfold putA
    by_cases c : q.1 = o
    · rw [if_pos c]
      unfold look
      simp only [List.find?_cons]
      by_cases d : o2 = o
      · subst d; simp [c]
      · have d' : ¬ q.1 = o2 := fun z => d (by rw [← z, c])
        simp [d, d']
    · rw [if_neg c]
      unfold look at ih ⊢
      simp only [List.find?_cons]
      by_cases d : q.1 = o2
      · have e : ¬ o2 = o := fun z => c (by rw [d, z])
        simp [d, e]
      · simp only [d, c, decide_false]
        exact ih
theorem putA_len (o : Str) (xs : List Stop) : ∀ bk : Bk2, (putA o xs bk).length ≤ bk.length + 1
  | [] => by simp [putA]
  | q :: l => by
    have := putA_len o xs l
    unfold putA
    split
    · simp
    · simp; omega
theorem putA_keys (o : Str) (xs : List Stop) : ∀ (bk : Bk2) (k : Str), k ∈ (putA o xs bk).map (·.1) ↔ k = o ∨ k ∈ bk.map (·.1)
  | [], k => by simp [putA]
  | q :: l, k => by
    have ih := putA_keys o xs l k
    unfold putA
    by_cases c : q.1 = o
    · rw [if_pos c]
      simp only [List.map_cons, List.mem_cons]
      constructor
      · exact .inr
      · rintro (z | z)
        · exact .inl (by rw [z, c])
        · exact z
    · rw [if_neg c]
      simp only [List.map_cons, List.mem_cons]
      rw [ih]
      constructor
      · rintro (z | z | z)
        · exact .inr (.inl z)
        · exact .inl z
        · exact .inr (.inr z)
      · rintro (z | z | z)
        · exact .inr (.inl z)
        · exact .inl z
        · exact .inr (.inr z)
theorem putA_nodup (o : Str) (xs : List Stop) : ∀ bk : Bk2, (bk.map (·.1)).Nodup → ((putA o xs bk).map (·.1)).Nodup
  | [], _ => by simp [putA]
  | q :: l, h => by
    rw [List.map_cons, List.nodup_cons] at h
    unfold putA
    by_cases c : q.1 = o
    · rw [if_pos c, List.map_cons, List.nodup_cons]
      exact h
    · rw [if_neg c, List.map_cons, List.nodup_cons]
      refine ⟨fun z => ?_, putA_nodup o xs l h.2⟩
      rcases (putA_keys o xs l q.1).mp z with e | e
      · exact c e
      · exact h.1 e
theorem sde_book {i : Nat} {env : Envt} {ek ev : Ev} {bk : Bk2} {o : Str} {xs : List Stop} (h2 : env[i]? = some (some (bookT bk))) (hk : ek env = .ok (.dat (.str o)) env) (hv : ev (env.set i none) = .ok (.dat (.tuple (xs.map pE))) (env.set i none)) (hl : bk.length < 1000000) (hs : (look bk o).length + xs.length ≤ 1000000) : evSde i ek ev env = .ok (.dat .none) (env.set i (some (bookT (putA o xs bk)))) := by
  have h2' : env[i]? = some (some (.node (.dct (keysT bk) false false) (valsT bk))) := h2
  have hlen : i < env.length := (List.getElem?_eq_some_iff.mp h2).1
  have hb : bookT (putA o xs bk) = .node (.dct (keysT (putA o xs bk)) false false) (valsT (putA o xs bk)) := rfl
  have hvl : (valsT bk).length < 1000000 := by unfold valsT; rw [List.length_map]; exact hl
  have htup : tupOf (.dat (.tuple (xs.map pE))) = some (xs.map pE) := rfl
  unfold evSde
  rw [h2']
  simp only [hk, bind_ok, h2', frz_dat, Option.bind_some, DK.of, hvl, if_true]
  rw [hb]
  cases q : ixK (keysT bk) (.inl (.inr o)) with
  | none =>
    obtain ⟨e1, e2⟩ := putA_none o xs bk q
    have hz : ([] : List T).length + (xs.map pE).length ≤ sizeLine ∧ i < (env.set i none).length := ⟨by rw [sizeLine_eq]; simp; omega, by rw [List.length_set]; exact hlen⟩
    simp only [hv, bind_ok, sdeK, htup]
    rw [if_pos hz, List.set_set, e1, e2]
    simp [tl]
  | some j =>
    obtain ⟨e1, e2, e3⟩ := putA_some o xs bk j q
    have e2' : (valsT bk)[j]? = some (.node .lst (((look bk o).map pE).map T.dat)) := e2
    have hz : (((look bk o).map pE).map T.dat).length + (xs.map pE).length ≤ sizeLine ∧ i < (env.set i none).length := ⟨by rw [List.length_map, List.length_map, List.length_map, sizeLine_eq]; omega, by rw [List.length_set]; exact hlen⟩
    simp only [e2', hv, bind_ok, sdeK, htup]
    rw [if_pos hz, List.set_set, e1, e3]
    simp [tl]
end VW

namespace VW
open PySem PySem.Spec PyProof.Rows L2 VR
open PySem.W (Datum DatumOrd T3 T4 Tup)
theorem add_tl (a b : List PyData) (h : a.length + b.length ≤ sizeLine) : binT .Add (tl a) (tl b) = some (tl (a ++ b)) := by
  show (match (tl a).seq, (tl b).seq with
    | some (false, xs), some (false, ys) => if xs.length + ys.length ≤ sizeLine then some (tl (xs ++ ys)) else none
    | some (true, xs), some (true, ys) => if xs.length + ys.length ≤ sizeLine then some (.dat (.tuple (xs ++ ys))) else none
    | _, _ => none) = _
  rw [seq_tl, seq_tl]
  exact if_pos h
theorem listT_seq {t : T} {b : Bool} {ds : List PyData} (h : t.seq = some (b, ds)) : listT t = some (tl ds) := by
  unfold listT
  rw [h]
  rfl
-- @ joined
def tot (ys : List Vis) : Nat := (ys.map fun v => v.2.items.length).sum
def joinB (vs : List Vis) (bk : Bk2) : Bk2 := vs.foldl (fun bk v => putA v.1 v.2.items bk) bk
def joinM (p l : Int) (vs : List Vis) : List Vis := cutAllM p l (joinB vs [])
def joinInv (r : PyData) (t1 t2 : T) (fin : Bk2) (ys : List Vis) (env : Envt) : Prop := ∃ (bk : Bk2) (x4 x5 : Option T), env = [some (.dat r), some t1, some t2, some (bookT bk), x4, x5] ∧ joinB ys bk = fin ∧ bk.length + ys.length ≤ 1000 ∧ ∀ o, (look bk o).length + tot ys < 64
theorem join_body (r : PyData) (t1 t2 : T) (fin : Bk2) (v : Vis) (ys : List Vis) (env : Envt) (hp : joinInv r t1 t2 fin (v :: ys) env) : ∃ env1 env2, setTg (.many [4, 5]) (vE v) env = some env1 ∧ (evSeq (evDrop (evSde 3 (evLoc 4) (evTake 5))) (fun env => .next env)) env1 = .next env2 ∧ joinInv r t1 t2 fin ys env2 := by
  obtain ⟨bk, x4, x5, rfl, h1, h2, h3⟩ := hp
  simp only [List.length_cons] at h2
  have ht : ∀ o, (look bk o).length + v.2.items.length + tot ys < 64 := fun o => by
    have := h3 o
    unfold tot at this ⊢
    rw [List.map_cons, List.sum_cons] at this
    omega
  have hs := sde_book (i := 3) (ek := evLoc 4) (ev := evTake 5) (env := [some (.dat r), some t1, some t2, some (bookT bk), some (.dat (.str v.1)), some (.dat (.tuple (v.2.items.map pE)))]) (bk := bk) (o := v.1) (xs := v.2.items) rfl (by simp) (by simp) (by omega) (by have := ht v.1; omega)
  refine ⟨[some (.dat r), some t1, some t2, some (bookT bk), some (.dat (.str v.1)), some (.dat (.tuple (v.2.items.map pE)))], [some (.dat r), some t1, some t2, some (bookT (putA v.1 v.2.items bk)), some (.dat (.str v.1)), some (.dat (.tuple (v.2.items.map pE)))], by simp [setTg, setMany, vE], by simp [hs], putA v.1 v.2.items bk, _, _, rfl, h1, ?_, fun o => ?_⟩
  · have := putA_len v.1 v.2.items bk
    omega
  · rw [look_putA]
    have := ht o
    have := ht v.1
    split
    · rename_i c
      rw [List.length_append]
      omega
    · omega
/-! plain: joined tells the visits of all -/
theorem joinB_nodup : ∀ (vs : List Vis) (bk : Bk2), (bk.map (·.1)).Nodup → ((joinB vs bk).map (·.1)).Nodup
  | [], _, h => h
  | v :: vs, bk, h => joinB_nodup vs _ (putA_nodup _ _ _ h)
theorem joinB_keys : ∀ (vs : List Vis) (bk : Bk2) (o : Str), o ∈ (joinB vs bk).map (·.1) ↔ o ∈ bk.map (·.1) ∨ ∃ v ∈ vs, v.1 = o
  | [], bk, o => by simp [joinB]
  | v :: vs, bk, o => by
    have := joinB_keys vs (putA v.1 v.2.items bk) o
    show o ∈ (joinB vs (putA v.1 v.2.items bk)).map (·.1) ↔ _
    rw [this, putA_keys]
    simp only [List.mem_cons, exists_eq_or_imp]
    constructor
    · rintro ((z | z) | z)
      · exact .inr (.inl z.symm)
      · exact .inl z
      · exact .inr (.inr z)
    · rintro (z | z | z)
      · exact .inl (.inr z)
      · exact .inl (.inl z.symm)
      · exact .inr z
theorem joinB_look : ∀ (vs : List Vis) (bk : Bk2) (o : Str) (x : Stop), x ∈ look (joinB vs bk) o ↔ x ∈ look bk o ∨ ∃ v ∈ vs, v.1 = o ∧ x ∈ v.2.items
  | [], bk, o, x => by simp [joinB]
  | v :: vs, bk, o, x => by
    have := joinB_look vs (putA v.1 v.2.items bk) o x
    show x ∈ look (joinB vs (putA v.1 v.2.items bk)) o ↔ _
    rw [this, look_putA]
    simp only [List.mem_cons, exists_eq_or_imp]
    by_cases c : o = v.1
    · subst c
      rw [if_pos rfl, List.mem_append]
      constructor
      · rintro ((z | z) | z)
        · exact .inl z
        · exact .inr (.inl ⟨rfl, z⟩)
        · exact .inr (.inr z)
      · rintro (z | ⟨_, z⟩ | z)
        · exact .inl (.inl z)
        · exact .inl (.inr z)
        · exact .inr z
    · rw [if_neg c]
      constructor
      · rintro (z | z)
        · exact .inl z
        · exact .inr (.inr z)
      · rintro (z | ⟨z, _⟩ | z)
        · exact .inl z
        · exact absurd z.symm c
        · exact .inr z
theorem srt_ded_ext {α : Type} [DecidableEq α] [DatumOrd α] {xs ys : List α} (h : ∀ x, x ∈ xs ↔ x ∈ ys) : srt (ded xs) = srt (ded ys) := rise_eq (srt_rise (nodup_ded _)) (srt_rise (nodup_ded _)) fun x => by rw [mem_srt, mem_srt, mem_ded, mem_ded, h]
theorem join_visits (p l : Int) (vs : List Vis) (ss : List Stp) (hk : ∀ o, (∃ v ∈ vs, v.1 = o) ↔ ∃ s ∈ ss, ownerM ss s = o) (hx : ∀ o x, (∃ v ∈ vs, v.1 = o ∧ x ∈ v.2.items) ↔ ∃ s ∈ ss, ownerM ss s = o ∧ stopOf s = x) : joinM p l vs = visitsM p l ss := by
  unfold joinM
  rw [cutAllM_eq, visitsM_eq]
  have h1 : srt ((joinB vs []).map (·.1)) = ownersM ss := by
    refine rise_eq (srt_rise (joinB_nodup vs [] List.nodup_nil)) (srt_rise (nodup_ded _)) fun o => ?_
    rw [mem_srt, joinB_keys]
    unfold ownersM
    rw [mem_srt, mem_ded, List.mem_map]
    simpa using hk o
  rw [h1]
  congr 1
  funext o
  refine congrArg (cutM p l o) ?_
  unfold stopsOf
  refine srt_ded_ext fun x => ?_
  rw [joinB_look]
  have := hx o x
  simp only [List.mem_map, List.mem_filter, decide_eq_true_eq]
  constructor
  · rintro (z | z)
    · simp [look] at z
    · obtain ⟨s, a1, a2, a3⟩ := this.mp z
      exact ⟨s, ⟨a1, a2⟩, a3⟩
  · rintro ⟨s, ⟨a1, a2⟩, a3⟩
    exact .inr (this.mpr ⟨s, a1, a2, a3⟩)
theorem visitsM_stops (p l : Int) (ss : List Stp) (o : Str) (x : Stop) : (∃ v ∈ visitsM p l ss, v.1 = o ∧ x ∈ v.2.items) ↔ ∃ s ∈ ss, ownerM ss s = o ∧ stopOf s = x := by
  have hst : x ∈ stopsOf ss o ↔ ∃ s ∈ ss, ownerM ss s = o ∧ stopOf s = x := by
    unfold stopsOf
    rw [mem_srt, mem_ded]
    simp only [List.mem_map, List.mem_filter, decide_eq_true_eq]
    constructor
    · rintro ⟨s, ⟨a1, a2⟩, a3⟩
      exact ⟨s, a1, a2, a3⟩
    · rintro ⟨s, a1, a2, a3⟩
      exact ⟨s, ⟨a1, a2⟩, a3⟩
  rw [← hst, visitsM_eq]
  constructor
  · rintro ⟨v, hv, ho, hxv⟩
    obtain ⟨o', _, hv⟩ := List.mem_flatMap.mp hv
    unfold cutM at hv
    obtain ⟨r, hr, rfl⟩ := List.mem_map.mp hv
    cases ho
    rw [← cutRows_flat p l (stopsOf ss o')]
    exact List.mem_flatten.mpr ⟨r, hr, hxv⟩
  · intro h
    obtain ⟨s, a1, a2, a3⟩ := hst.mp h
    rw [← cutRows_flat p l (stopsOf ss o)] at h
    obtain ⟨r, hr, hxr⟩ := List.mem_flatten.mp h
    refine ⟨(o, ⟨r⟩), List.mem_flatMap.mpr ⟨o, ?_, ?_⟩, rfl, hxr⟩
    · unfold ownersM
      rw [mem_srt, mem_ded]
      exact List.mem_map.mpr ⟨s, a1, a2⟩
    · exact List.mem_map.mpr ⟨r, hr, rfl⟩
theorem visitsM_owners (p l : Int) (ss : List Stp) (o : Str) : (∃ v ∈ visitsM p l ss, v.1 = o) ↔ ∃ s ∈ ss, ownerM ss s = o := by
  constructor
  · rintro ⟨v, hv, ho⟩
    obtain ⟨h1, _⟩ := visitsM_mem hv
    obtain ⟨x, hx⟩ := List.exists_mem_of_ne_nil _ h1
    obtain ⟨s, a1, a2, _⟩ := (visitsM_stops p l ss o x).mp ⟨v, hv, ho, hx⟩
    exact ⟨s, a1, a2⟩
  · rintro ⟨s, a1, a2⟩
    obtain ⟨v, hv, ho, _⟩ := (visitsM_stops p l ss o (stopOf s)).mpr ⟨s, a1, a2, rfl⟩
    exact ⟨v, hv, ho⟩
end VW

namespace VW
open PySem PySem.Spec PyProof.Rows L2 VR
open PySem.W (Datum DatumOrd T3 T4 Tup)
/-! plain: how many stops -/
theorem tot_app (xs ys : List Vis) : tot (xs ++ ys) = tot xs + tot ys := by
  unfold tot
  rw [List.map_append, List.sum_append]
theorem tot_cut (p l : Int) (o : Str) (xs : List Stop) : tot (cutM p l o xs) = xs.length := by
  have h : ∀ rows : List (List Stop), tot (rows.map fun r => ((o, ⟨r⟩) : Vis)) = rows.flatten.length := by
    intro rows
    induction rows with
    | nil => rfl
    | cons r rows ih =>
      unfold tot at ih ⊢
      rw [List.map_cons, List.map_cons, List.sum_cons, ih, List.flatten_cons, List.length_append]
  unfold cutM
  rw [h, cutRows_flat]
theorem part_len {α : Type} (f : α → Str) : ∀ (os : List Str) (xs : List α), os.Nodup → (os.map fun o => (xs.filter fun x => decide (f x = o)).length).sum ≤ xs.length
  | [], xs, _ => Nat.zero_le _
  | o :: os, xs, h => by
    obtain ⟨h1, h2⟩ := List.nodup_cons.mp h
    have ih := part_len f os (xs.filter fun x => !decide (f x = o)) h2
    have e : (os.map fun o' => ((xs.filter fun x => !decide (f x = o)).filter fun x => decide (f x = o')).length) = os.map fun o' => (xs.filter fun x => decide (f x = o')).length := by
      refine List.map_congr_left fun o' ho' => ?_
      rw [List.filter_filter]
      congr 1
      refine List.filter_congr fun x _ => ?_
      by_cases c : f x = o'
      · have : ¬ f x = o := fun z => h1 (by rw [← z, c]; exact ho')
        simp [c]
        intro z
        exact this (by rw [c, z])
      · simp [c]
    rw [e] at ih
    rw [List.map_cons, List.sum_cons]
    have : ∀ ys : List α, (ys.filter fun x => decide (f x = o)).length + (ys.filter fun x => !decide (f x = o)).length = ys.length := by
      intro ys
      induction ys with
      | nil => rfl
      | cons y ys ih2 =>
        by_cases c : f y = o
        · rw [List.filter_cons_of_pos (by simp [c]), List.filter_cons_of_neg (by simp [c]), List.length_cons, List.length_cons]
          omega
        · rw [List.filter_cons_of_neg (by simp [c]), List.filter_cons_of_pos (by simp [c]), List.length_cons, List.length_cons]
          omega
    have := this xs
    omega
theorem tot_visits (p l : Int) (ss : List Stp) : tot (visitsM p l ss) ≤ ss.length := by
  rw [visitsM_eq]
  have h : ∀ os : List Str, tot (os.flatMap fun o => cutM p l o (stopsOf ss o)) ≤ (os.map fun o => (ss.filter fun x => decide (ownerM ss x = o)).length).sum := by
    intro os
    induction os with
    | nil => exact Nat.le_refl _
    | cons o os ih =>
      rw [List.flatMap_cons, tot_app, tot_cut, List.map_cons, List.sum_cons]
      have : (stopsOf ss o).length ≤ (ss.filter fun x => decide (ownerM ss x = o)).length := by
        unfold stopsOf
        rw [srt_len]
        have := ded_len ((ss.filter fun s => decide (ownerM ss s = o)).map stopOf)
        rwa [List.length_map] at this
      omega
  refine Nat.le_trans (h _) (part_len (ownerM ss) _ ss ?_)
  exact (srt_rise (nodup_ded _)).nodup
theorem len_tot : ∀ {vs : List Vis}, (∀ v ∈ vs, v.2.items ≠ []) → vs.length ≤ tot vs
  | [], _ => Nat.zero_le _
  | v :: vs, h => by
    have := len_tot (vs := vs) fun w hw => h w (List.mem_cons_of_mem _ hw)
    have := List.length_pos_iff.mpr (h v List.mem_cons_self)
    unfold tot at *
    rw [List.map_cons, List.sum_cons, List.length_cons]
    omega
/-! comprehensions whose target has several names -/
theorem compLG {α : Type} {enc : α → PyData} {t : Tg} {vs : List Nat} {tc : Envt → R Bool} {ev : Ev} {envh : Envt} {b : α → Bool} {g : α → PyData} (ds0 : List PyData) : ∀ (xs : List α) (acc : List PyData), acc.length + xs.length ≤ sizeLine →
    (∀ x ∈ xs, ∃ env1, setTg t (enc x) envh = some env1 ∧ tc env1 = .ok (b x) env1 ∧ hide vs env1 = envh ∧ (b x = true → ev env1 = .ok (.dat (g x)) env1)) →
    evCompL (.fix ds0) t vs tc ev (xs.map enc) (acc.map T.dat) envh = .ok ((acc ++ (xs.filter b).map g).map T.dat) envh
  | [], acc, _, _ => by simp [evCompL, Src.stillB]
  | x :: xs, acc, hl, h => by
    obtain ⟨env1, h1, h2, h3, h4⟩ := h x List.mem_cons_self
    rw [List.length_cons] at hl
    rw [List.map_cons, evCompL]
    simp only [Src.stillB, if_true, h1, h2, nox_ok]
    by_cases c : b x = true
    · rw [if_pos c, h4 c]
      simp only [nox_ok]
      rw [if_pos (by rw [List.length_map]; omega), h3]
      have := compLG (b := b) (g := g) ds0 xs (acc ++ [g x]) (by rw [List.length_append]; simp; omega) fun e he => h e (List.mem_cons_of_mem _ he)
      rw [List.map_append] at this
      simp only [List.map_cons, List.map_nil] at this
      rw [this, List.filter_cons_of_pos c, List.map_cons, List.append_assoc]
      rfl
    · rw [if_neg c, h3, compLG (b := b) (g := g) ds0 xs acc (by omega) fun e he => h e (List.mem_cons_of_mem _ he), List.filter_cons_of_neg c]
theorem comp_g {α : Type} (enc : α → PyData) {si : Envt → R Src} {t : Tg} {vs : List Nat} {tc : Envt → R Bool} {ev : Ev} {env0 env : Envt} (xs : List α) (b : α → Bool) (g : α → PyData) (hs : si env0 = .ok (.fix (xs.map enc)) env) (hb : back vs env (hide vs env) = env) (hl : xs.length ≤ sizeLine)
    (h : ∀ x ∈ xs, ∃ env1, setTg t (enc x) (hide vs env) = some env1 ∧ tc env1 = .ok (b x) env1 ∧ hide vs env1 = hide vs env ∧ (b x = true → ev env1 = .ok (.dat (g x)) env1)) :
    evComp si t vs tc ev env0 = .ok (tl ((xs.filter b).map g)) env := by
  unfold evComp
  rw [hs]
  simp only [bind_ok, Src.apart, if_true, Src.items]
  have q := compLG (enc := enc) (b := b) (g := g) (xs.map enc) xs [] (by simp; exact hl) h
  rw [List.map_nil] at q
  rw [q]
  simp only [nox_ok, List.nil_append]
  rw [hb]
  rfl
theorem filter_true {α : Type} (xs : List α) : xs.filter (fun _ => true) = xs := List.filter_eq_self.mpr fun _ _ => rfl
/-! slices, max, in -/
theorem sli_take (ds : List PyData) (k : Nat) (h : k ≤ ds.length) : sliT (tl ds) none (some (k : Int)) = some (tl (ds.take k)) := by
  show (match (tl ds).seq with
    | some (false, ds) => some (tl (VR.cutD ds none (some (k : Int))))
    | some (true, ds) => some (.dat (.tuple (VR.cutD ds none (some (k : Int)))))
    | none => none) = _
  rw [seq_tl]
  unfold VR.cutD
  simp only [HT.sIx_none, HT.sIx_nat, List.drop_zero, Nat.sub_zero, Nat.min_eq_left h]
theorem sli_drop (ds : List PyData) (k : Nat) (h : k ≤ ds.length) : sliT (tl ds) (some (k : Int)) none = some (tl (ds.drop k)) := by
  show (match (tl ds).seq with
    | some (false, ds) => some (tl (VR.cutD ds (some (k : Int)) none))
    | some (true, ds) => some (.dat (.tuple (VR.cutD ds (some (k : Int)) none)))
    | none => none) = _
  rw [seq_tl]
  unfold VR.cutD
  simp only [HT.sIx_none, HT.sIx_nat, Nat.min_eq_left h]
  congr 2
  rw [List.take_of_length_le (by rw [List.length_drop]; exact Nat.le_refl _)]
theorem allInts_map : ∀ ns : List Int, allInts (ns.map PyData.int) = some ns
  | [] => rfl
  | n :: ns => by
    rw [List.map_cons, allInts]
    simp only [allInts_map ns]
    rfl
theorem maxT_ints (ns : List Int) (m : Int) (h1 : m ∈ ns) (h2 : ∀ y ∈ ns, y ≤ m) : maxT (tl (ns.map PyData.int)) = some (.dat (.int m)) := by
  unfold maxT
  rw [seq_tl]
  simp only [allInts_map, Option.bind_some]
  cases q : maxI ns with
  | none =>
    cases ns with
    | nil => cases h1
    | cons x xs => cases q
  | some m' =>
    obtain ⟨g1, g2⟩ := maxI_spec q
    rw [Int.le_antisymm (h2 m' g1) (g2 m h1)]
    rfl
@[simp] theorem cmp_in (t u : T) : cmpT .In t u = inT t u := rfl
theorem in_ints (m : Int) (ms : List Int) : inT (.dat (.int m)) (.dat (.list (ms.map PyData.int))) = some (decide (m ∈ ms)) := by
  have h1 : okD (.list (ms.map PyData.int)) = true := okD_list (α := Int) (by decide) ms
  have h2 : okD (.int m) = true := okD_toD (α := Int) (by decide) m
  show (if okD (.list (ms.map PyData.int)) && okD (.int m) then some ((ms.map PyData.int).any fun y => PyData.eqv y (.int m)) else none) = _
  rw [h1, h2]
  simp only [Bool.and_self, if_true]
  congr 1
  rw [List.any_map]
  have : ((fun y => PyData.eqv y (.int m)) ∘ PyData.int) = fun n : Int => decide (n = m) := by
    funext n
    exact Datum.eqv (α := Int) n m
  rw [this]
  by_cases c : m ∈ ms
  · rw [decide_eq_true c, List.any_eq_true]
    exact ⟨m, c, by simp⟩
  · rw [decide_eq_false c, List.any_eq_false]
    intro x hx
    simp only [decide_eq_true_eq]
    intro z
    exact c (z ▸ hx)
theorem evUnp_ap (t : Tg) (ev : Ev) (env : Envt) : evUnp t ev env = (ev env).st fun u env' => match u.frz with
  | some d => (match setTg t d env' with
    | some env2 => .next env2
    | none => .fail)
  | none => .fail := rfl
theorem revT_list (ds : List PyData) : revT (.dat (.list ds)) = some (tl ds.reverse) := rfl
theorem eq_visD (vs ws : List Vis) : VR.eqT (tl (vs.map vE)) (.dat (.list (ws.map vE))) = some (decide (vs = ws)) := eq_toD (α := List Vis) (by decide) _ _ vs ws (frz_tl _) rfl
theorem eq_vis (vs ws : List Vis) : VR.eqT (tl (vs.map vE)) (tl (ws.map vE)) = some (decide (vs = ws)) := eq_toD (α := List Vis) (by decide) _ _ vs ws (frz_tl _) (frz_tl _)
@[simp] theorem bD_isNon0 : isNon (.dat (bD none)) = true := rfl
@[simp] theorem bD_isNon1 (q : Int × Int) : isNon (.dat (bD (some q))) = false := rfl
@[simp] theorem bD_idx0 (q : Int × Int) : idxT (.dat (bD (some q))) (.dat (.int 0)) = some (.dat (.int q.1)) := rfl
@[simp] theorem bD_idx1 (q : Int × Int) : idxT (.dat (bD (some q))) (.dat (.int 1)) = some (.dat (.int q.2)) := rfl
end VW

namespace VW
open PySem PySem.Spec PyProof.Rows L2 VR
open PySem.W (Datum DatumOrd T3 T4 Tup)
@[simp] theorem cmp_isnot (t u : T) : cmpT .IsNot t u = (isT t u).map (!·) := rfl
def oD : Option Sgn → PyData
  | none => .none
  | some g => gE g
@[simp] theorem oD_non0 : isNon (.dat (oD none)) = true := rfl
@[simp] theorem oD_non1 (g : Sgn) : isNon (.dat (oD (some g))) = false := rfl
theorem okPair_toD {α : Type} [DecidableEq α] [DatumOrd α] (h : Datum.depth α ≤ 40) (x y : α) : okPair (Datum.toD x) (Datum.toD y) = true := by
  have nn : ∀ z : α, notNone (Datum.toD z) = true := fun z => by
    have q := DatumOrd.notNone z
    cases w : Datum.toD z <;> first | rfl | exact absurd w q
  unfold okPair
  simp only [DatumOrd.alike, okD_toD h, nn, Bool.and_self]
theorem pair_g (m : Bool) (a b : Sgn) : ∃ g : Sgn, pairT m [.dat (gE a), .dat (gE b)] = some (.dat (gE g)) := by
  have h : okPair (gE a) (gE b) = true := okPair_toD (α := Sgn) (by decide) a b
  show ∃ g : Sgn, (if okPair (gE a) (gE b) = true then some (T.dat (VR.pairD m (gE a) (gE b))) else none) = some (.dat (gE g))
  rw [if_pos h]
  unfold VR.pairD
  by_cases c : (if m = true then PySem.W.dataLt (gE a) (gE b) else PySem.W.dataLt (gE b) (gE a)) = true
  · exact ⟨b, by rw [if_pos c]⟩
  · exact ⟨a, by rw [if_neg c]⟩
@[simp] theorem evB2D_ap (m : Bool) (evs : Envt → R (List T)) (env : Envt) : evB2D m evs env = (evs env).bind fun ts env' => R.lift (pairT m ts) env' := rfl
-- @ _law_owner
def ownInv (rd : PyData) (s : Stp) (ys : List Stp) (env : Envt) : Prop := ∃ (a b : Option Sgn) (x4 x5 x6 x7 : Option T), env = [some (.dat rd), some (.dat (sE s)), some (.dat (oD a)), some (.dat (oD b)), x4, x5, x6, x7]
theorem own_body (rd : PyData) (s : Stp) (y : Stp) (ys : List Stp) (env : Envt) (hp : ownInv rd s (y :: ys) env) : ∃ env1 env2, setTg (.many [4, 5, 6, 7]) (sE y) env = some env1 ∧ (evSeq (evIf (bopT true (evTst (evCmp .Eq (ev2 (evLoc 5) (evIdx (ev2 (evLoc 1) (evC (.int 1))))))) (bopT true (evTst (evCmp .NotEq (ev2 (evLoc 7) (evC (.str ""))))) (evTst (evCmp .LtE (ev2 (evLoc 4) (evIdx (ev2 (evLoc 1) (evC (.int 0))))))))) (evSeq (evSet 2 (evIte (evTst (evCmp .Is (ev2 (evLoc 2) (evC .none)))) (evTup (evCons (evTake 4) (evCons (evTake 7) evNil))) (evB2D true (evCons (evTake 2) (evCons (evTup (evCons (evTake 4) (evCons (evTake 7) evNil))) evNil)))))
  (fun env => .next env)) (evSeq (evIf (bopT true (evTst (evCmp .Eq (ev2 (evLoc 5) (evIdx (ev2 (evLoc 1) (evC (.int 1))))))) (evTst (evCmp .NotEq (ev2 (evLoc 7) (evC (.str "")))))) (evSeq (evSet 3 (evIte (evTst (evCmp .Is (ev2 (evLoc 3) (evC .none)))) (evTup (evCons (evTake 4) (evCons (evTake 7) evNil))) (evB2D false (evCons (evTake 3) (evCons (evTup (evCons (evTake 4) (evCons (evTake 7) evNil))) evNil)))))
  (fun env => .next env)) (fun env => .next env))
  (fun env => .next env)))
  (fun env => .next env)) env1 = .next env2 ∧ ownInv rd s ys env2 := by
  obtain ⟨a, b, x4, x5, x6, x7, rfl⟩ := hp
  have z2 : (2 : Nat) ≤ sizeLine := by decide
  refine ⟨[some (.dat rd), some (.dat (sE s)), some (.dat (oD a)), some (.dat (oD b)), some (.dat (.int y.a)), some (.dat (.str y.b)), some (.dat (.str y.c)), some (.dat (.str y.d))], ?_⟩
  have hg : PyData.tuple [.int y.a, .str y.d] = gE (y.a, y.d) := rfl
  have st : setTg (.many [4, 5, 6, 7]) (sE y) [some (.dat rd), some (.dat (sE s)), some (.dat (oD a)), some (.dat (oD b)), x4, x5, x6, x7] = some [some (.dat rd), some (.dat (sE s)), some (.dat (oD a)), some (.dat (oD b)), some (.dat (.int y.a)), some (.dat (.str y.b)), some (.dat (.str y.c)), some (.dat (.str y.d))] := rfl
  have fin : ∀ a' b' : Option Sgn, ownInv rd s ys [some (.dat rd), some (.dat (sE s)), some (.dat (oD a')), some (.dat (oD b')), some (.dat (.int y.a)), some (.dat (.str y.b)), some (.dat (.str y.c)), some (.dat (.str y.d))] := fun a' b' => ⟨a', b', _, _, _, _, rfl⟩
  by_cases c1 : y.b = s.b
  · by_cases c2 : y.d = ("" : Str)
    · exact ⟨_, st, by simp [c1, c2], fin a b⟩
    · by_cases c3 : y.a ≤ s.a
      · cases a with
        | none => exact ⟨_, st, by simp [c1, c2, c3, z2]; rfl, fin (some (y.a, y.d)) b⟩
        | some g =>
          obtain ⟨g', hg'⟩ := pair_g true g (y.a, y.d)
          have hg2 : pairT true [.dat (oD (some g)), .dat (.tuple [.int y.a, .str y.d])] = some (.dat (oD (some g'))) := hg'
          exact ⟨_, st, by simp [c1, c2, c3, z2, hg2], fin (some g') b⟩
      · cases b with
        | none => exact ⟨_, st, by simp [c1, c2, c3, z2]; rfl, fin a (some (y.a, y.d))⟩
        | some g =>
          obtain ⟨g', hg'⟩ := pair_g false g (y.a, y.d)
          have hg2 : pairT false [.dat (oD (some g)), .dat (.tuple [.int y.a, .str y.d])] = some (.dat (oD (some g'))) := hg'
          exact ⟨_, st, by simp [c1, c2, c3, z2, hg2], fin a (some g')⟩
  · exact ⟨_, st, by simp [c1], fin a b⟩
end VW

namespace VW
open PySem PySem.Spec PyProof.Rows L2 VR
open PySem.W (Datum DatumOrd T3 T4 Tup)
-- @ _law_parted
abbrev OwS := Str × Stop
instance : Srt OwS := ⟨.inl fun _ => rfl, by decide⟩
def qE (q : OwS) : PyData := .tuple [.str q.1, pE q.2]
theorem qE_toD : (qE : OwS → PyData) = Datum.toD := rfl
theorem ows_key (q : OwS) : setOk1 false (Datum.toD q) = true := by
  show setOk1 false (.tuple [.str q.1, .tuple [.int q.2.a, .str q.2.b, .str q.2.c]]) = true
  simp [setOk1, nkD, nkDs, NestedKey.depth, NestedKey.depthAll]
abbrev Mds := List (Str × List Stop)
def rowT (m : Str × List Stop) : T := .node .lst [.dat (.str m.1), tl (m.2.map pE)]
def rowD (m : Str × List Stop) : PyData := .list [.str m.1, .list (m.2.map pE)]
def madeT (ms : Mds) : T := .node .lst (ms.map rowT)
theorem frz_row (m : Str × List Stop) : (rowT m).frz = some (rowD m) := by
  unfold rowT rowD
  rw [T.frz]
  simp [frzAll]
theorem frz_made (ms : Mds) : (madeT ms).frz = some (.list (ms.map rowD)) := by
  have all : ∀ l : Mds, frzAll (l.map rowT) = some (l.map rowD) := by
    intro l
    induction l with
    | nil => exact frzAll_nil
    | cons r l ih => rw [List.map_cons, frzAll, frz_row, ih]; rfl
  unfold madeT
  rw [T.frz]
  simp only [all]
  rfl
theorem okL_made (ms : Mds) : okL (ms.map rowD) := fun d hd => by
  obtain ⟨m, _, rfl⟩ := List.mem_map.mp hd
  obtain ⟨h1, h2⟩ := okL_okD (okL_toD (α := Stop) (by decide) m.2)
  have h1' : PyData.plainAll (m.2.map pE) = true := h1
  have hd3 : PyData.depthAll (m.2.map pE) ≤ 3 := by
    have : ∀ l : List Stop, PyData.depthAll (l.map pE) ≤ 3 := by
      intro l
      induction l with
      | nil => simp [PyData.depthAll]
      | cons x l ih =>
        have hx : (pE x).depth ≤ 3 := Nat.le_trans (Datum.depth_le (α := Stop) x) (by decide)
        rw [List.map_cons, PyData.depthAll]
        omega
    exact this m.2
  unfold rowD
  simp only [PyData.plain, PyData.plainAll, PyData.depth, PyData.depthAll, h1', Bool.and_self, true_and]
  omega
theorem idx_made (ms : Mds) (m : Str × List Stop) : idxT (madeT (ms ++ [m])) (.dat (.int (-1))) = some (rowT m) := by
  unfold madeT
  rw [List.map_append]
  show atI _ (-1) = _
  unfold atI
  rw [List.length_append, List.length_map]
  show (ixN (ms.length + 1) (-1)).bind _ = _
  rw [ixN_last]
  simp
theorem idx_r0 (m : Str × List Stop) : idxT (rowT m) (.dat (.int 0)) = some (.dat (.str m.1)) := rfl
theorem idx_r1 (m : Str × List Stop) : idxT (rowT m) (.dat (.int 1)) = some (tl (m.2.map pE)) := rfl
theorem app_new {env : Envt} {ms : Mds} {o : Str} {x : Stop} (h2 : env[2]? = some (some (madeT ms))) (h3 : env[3]? = some (some (.dat (.str o)))) (h4 : env[4]? = some (some (.dat (pE x)))) (hz : ms.length < sizeLine) : evApp 2 [] (evLst (evCons (evTake 3) (evCons (evLst (evCons (evTake 4) evNil)) evNil))) env = .ok (.dat .none) (env.set 2 (some (madeT (ms ++ [(o, [x])])))) := by
  have z1 : (1 : Nat) ≤ sizeLine := by decide
  have z2 : (2 : Nat) ≤ sizeLine := by decide
  have e : evLst (evCons (evTake 3) (evCons (evLst (evCons (evTake 4) evNil)) evNil)) env = .ok (rowT (o, [x])) env := by simp [evTake_dat 3 env _ h3, evTake_dat 4 env _ h4, z1, z2, rowT, tl]
  have hm : madeT ms = .node .lst (ms.map rowT) := rfl
  unfold evApp
  rw [h2]
  rw [hm] at h2 ⊢
  simp only [subP, e, bind_ok, h2]
  rw [if_pos (by rw [List.length_map]; exact hz)]
  unfold madeT
  rw [List.map_append]
  rfl
theorem app_old {env : Envt} {ms : Mds} {m : Str × List Stop} {x : Stop} (h2 : env[2]? = some (some (madeT (ms ++ [m])))) (h4 : env[4]? = some (some (.dat (pE x)))) (hz : m.2.length < sizeLine) : evApp 2 [(-1), 1] (evTake 4) env = .ok (.dat .none) (env.set 2 (some (madeT (ms ++ [(m.1, m.2 ++ [x])])))) := by
  have hm : madeT (ms ++ [m]) = .node .lst (ms.map rowT ++ [rowT m]) := by unfold madeT; rw [List.map_append]; rfl
  have hs : subP [(-1), 1] (.node .lst (ms.map rowT ++ [rowT m])) = some (.node .lst ((m.2.map pE).map T.dat)) := by
    simp only [subP, List.length_append, List.length_map, List.length_cons, List.length_nil, Nat.zero_add, ixN_last, Option.bind_some]
    simp [rowT, subP, ixN, tl]
  have hr : repP [(-1), 1] (.node .lst (ms.map rowT ++ [rowT m])) (.node .lst ((m.2.map pE).map T.dat ++ [.dat (pE x)])) = madeT (ms ++ [(m.1, m.2 ++ [x])]) := by
    unfold madeT
    rw [List.map_append]
    simp only [repP, List.length_append, List.length_map, List.length_cons, List.length_nil, Nat.zero_add, ixN_last]
    simp [rowT, repP, ixN, tl]
  unfold evApp
  rw [h2, hm]
  simp only [hs, evTake_dat 4 env _ h4, bind_ok, h2, hm]
  rw [if_pos (by simpa using hz), hr]
def partB : Es := (evSeq (evSet 5 (evLst evNil))
  (evSeq (evIf (bopT true (evTst (evCmp .NotEq (ev2 (evLoc 2) (evLst evNil)))) (evTst (evCmp .Eq (ev2 (evIdx (ev2 (evIdx (ev2 (evLoc 2) (evC (.int (-1))))) (evC (.int 0)))) (evLoc 3))))) (evSeq (evSet 6 (evLeaf (evIdx (ev2 (evIdx (ev2 (evIdx (ev2 (evLoc 2) (evC (.int (-1))))) (evC (.int 1)))) (evC (.int (-1)))))))
  (evSeq (evSet 5 (evIte (evTst (evCmp .LtE (ev2 (evBin .Sub (ev2 (evIdx (ev2 (evLoc 4) (evC (.int 0)))) (evIdx (ev2 (evLoc 6) (evC (.int 0)))))) (evIdx (ev2 (evLoc 0) (evC (.int 0))))))) (evLst (evCons (evTake 6) evNil)) (evLst evNil)))
  (evSeq (evIf (bopT true (evTst (evCmp .Gt (ev2 (evIdx (ev2 (evLoc 0) (evC (.int 1)))) (evC (.int 0))))) (evTst (evCmp .Gt (ev2 (evBin .Sub (ev2 (evIdx (ev2 (evLoc 4) (evC (.int 0)))) (evBin .Mod (ev2 (evIdx (ev2 (evLoc 4) (evC (.int 0)))) (evIdx (ev2 (evLoc 0) (evC (.int 1)))))))) (evIdx (ev2 (evLoc 6) (evC (.int 0)))))))) (evSeq (evSet 5 (evLst evNil))
  (fun env => .next env)) (fun env => .next env))
  (fun env => .next env)))) (fun env => .next env))
  (evSeq (evIf (evTst (evCmp .Eq (ev2 (evLoc 5) (evLst evNil)))) (evSeq (evDrop (evApp 2 [] (evLst (evCons (evTake 3) (evCons (evLst (evCons (evTake 4) evNil)) evNil)))))
  (fun env => .next env)) (evSeq (evDrop (evApp 2 [(-1), 1] (evTake 4)))
  (fun env => .next env)))
  (fun env => .next env))))
def mtot (ms : Mds) : Nat := (ms.map fun m => m.2.length).sum
def partInv (C : Stop → Prop) (p l : Int) (od : T) (ys : List OwS) (env : Envt) : Prop := ((∀ q ∈ ys, C q.2) ∧ True) ∧ ∃ (ms : Mds) (x3 x4 x5 x6 : Option T), env = [some (.dat (.tuple [.int p, .int l])), some od, some (madeT ms), x3, x4, x5, x6, none] ∧ (∀ m ∈ ms, m.2 ≠ [] ∧ ∀ x ∈ m.2, C x) ∧ mtot ms + ys.length ≤ 63 ∧ ms.length + ys.length ≤ 63
theorem mtot_app (a b : Mds) : mtot (a ++ b) = mtot a + mtot b := by unfold mtot; rw [List.map_append, List.sum_append]
theorem mlen {ms : Mds} {m : Str × List Stop} (h : m ∈ ms) : m.2.length ≤ mtot ms := by
  induction ms with
  | nil => cases h
  | cons w ms ih =>
    unfold mtot at ih ⊢
    rw [List.map_cons, List.sum_cons]
    rcases List.mem_cons.mp h with rfl | z
    · omega
    · have := ih z
      omega
theorem ru0 (p l : Int) : idxT (.dat (.tuple [.int p, .int l])) (.dat (.int 0)) = some (.dat (.int p)) := rfl
theorem ru1 (p l : Int) : idxT (.dat (.tuple [.int p, .int l])) (.dat (.int 1)) = some (.dat (.int l)) := rfl
theorem part_body (C : Stop → Prop) (p l : Int) (hl : 0 ≤ l ∧ l ≤ 9999) (od : T) (q : OwS) (ys : List OwS) (env : Envt) (hp : partInv C p l od (q :: ys) env) : ∃ env1 env2, setTg (.many [3, 4]) (qE q) env = some env1 ∧ partB env1 = .next env2 ∧ partInv C p l od ys env2 := by
  obtain ⟨⟨hC, _⟩, ms, x3, x4, x5, x6, rfl, hne, ht, hlen⟩ := hp
  obtain ⟨o, x⟩ := q
  have hx : C x := hC (o, x) List.mem_cons_self
  have hC' : (∀ q ∈ ys, C q.2) ∧ True := ⟨fun q hq => hC q (List.mem_cons_of_mem _ hq), trivial⟩
  simp only [List.length_cons] at ht hlen
  have st : setTg (.many [3, 4]) (qE (o, x)) [some (.dat (.tuple [.int p, .int l])), some od, some (madeT ms), x3, x4, x5, x6, none] = some [some (.dat (.tuple [.int p, .int l])), some od, some (madeT ms), some (.dat (.str o)), some (.dat (pE x)), x5, x6, none] := rfl
  have z1 : (1 : Nat) ≤ sizeLine := by decide
  have he : VR.eqT (madeT ms) (.node .lst []) = some (decide (ms.map rowD = [])) := eq_nil (frz_made ms) (okL_list (okL_made ms))
  have nn : VR.eqT (.node .lst []) (.node .lst []) = some true := eq_nil (t := .node .lst []) (ds := []) frz_nil (by decide)
  -- a new row
  have new : ∀ (x5' x6' : Option T), evApp 2 [] (evLst (evCons (evTake 3) (evCons (evLst (evCons (evTake 4) evNil)) evNil))) [some (.dat (.tuple [.int p, .int l])), some od, some (madeT ms), some (.dat (.str o)), some (.dat (pE x)), x5', x6', none] = .ok (.dat .none) [some (.dat (.tuple [.int p, .int l])), some od, some (madeT (ms ++ [(o, [x])])), some (.dat (.str o)), some (.dat (pE x)), x5', x6', none] := fun x5' x6' => app_new rfl rfl rfl (by rw [sizeLine_eq]; omega)
  have newI : ∀ x5' x6' : Option T, partInv C p l od ys [some (.dat (.tuple [.int p, .int l])), some od, some (madeT (ms ++ [(o, [x])])), some (.dat (.str o)), some (.dat (pE x)), x5', x6', none] := fun x5' x6' => ⟨hC', ms ++ [(o, [x])], _, _, _, _, rfl, fun m hm => by
    rcases List.mem_append.mp hm with z | z
    · exact hne m z
    · rw [List.mem_singleton.mp z]; simpa using hx, by rw [mtot_app]; show mtot ms + 1 + _ ≤ 63; omega, by simp; omega⟩
  by_cases c0 : ms = []
  · have he0 : VR.eqT (madeT ms) (.node .lst []) = some true := by rw [he, decide_eq_true (by rw [c0]; rfl)]
    refine ⟨_, _, st, ?_, newI (some (.node .lst [])) x6⟩
    unfold partB
    simp [he0, nn, new]
  · have he0 : VR.eqT (madeT ms) (.node .lst []) = some false := by rw [he, decide_eq_false (by rw [List.map_eq_nil_iff]; exact c0)]
    obtain ⟨rs, m, rfl⟩ := snoc_of c0
    have hmne := (hne m (by simp)).1
    obtain ⟨r, y, hy⟩ := snoc_of hmne
    have i1 := idx_made rs m
    have i3 : idxT (tl (m.2.map pE)) (.dat (.int (-1))) = some (.dat (pE y)) := by rw [hy]; exact idx_row r y
    have old : ∀ (x5' x6' : Option T), evApp 2 [(-1), 1] (evTake 4) [some (.dat (.tuple [.int p, .int l])), some od, some (madeT (rs ++ [m])), some (.dat (.str o)), some (.dat (pE x)), x5', x6', none] = .ok (.dat .none) [some (.dat (.tuple [.int p, .int l])), some od, some (madeT (rs ++ [(m.1, m.2 ++ [x])])), some (.dat (.str o)), some (.dat (pE x)), x5', x6', none] := fun x5' x6' => app_old rfl rfl (by have := mlen (ms := rs ++ [m]) (m := m) (by simp); rw [sizeLine_eq]; omega)
    have oldI : ∀ x5' x6' : Option T, partInv C p l od ys [some (.dat (.tuple [.int p, .int l])), some od, some (madeT (rs ++ [(m.1, m.2 ++ [x])])), some (.dat (.str o)), some (.dat (pE x)), x5', x6', none] := fun x5' x6' => ⟨hC', rs ++ [(m.1, m.2 ++ [x])], _, _, _, _, rfl, fun w hw => by
      rcases List.mem_append.mp hw with z | z
      · exact hne w (List.mem_append_left _ z)
      · rw [List.mem_singleton.mp z]
        refine ⟨by simp, fun y hy => ?_⟩
        rcases List.mem_append.mp hy with w | w
        · exact (hne m (by simp)).2 y w
        · rw [List.mem_singleton.mp w]; exact hx, by
        rw [mtot_app] at ht ⊢
        have e1 : mtot [(m.1, m.2 ++ [x])] = mtot [m] + 1 := by simp [mtot]
        rw [e1]
        omega, by simp at hlen ⊢; omega⟩
    by_cases c1 : m.1 = o
    · by_cases c2 : x.a - y.a ≤ p
      · by_cases c3 : 0 < l
        · have l0 : ¬ l = 0 := by omega
          by_cases c4 : y.a < x.a - x.a.fmod l
          · refine ⟨_, _, st, ?_, newI (some (.node .lst [])) (some (.dat (pE y)))⟩
            unfold partB
            simp [he0, nn, new, i1, i3, idx_r0, idx_r1, c1, c2, c3, c4, l0, ru0, ru1, z1]
          · have e1 : VR.eqT (.node .lst [.dat (pE y)]) (.node .lst []) = some false := eq_nil (t := tl [pE y]) (ds := [pE y]) (frz_tl _) (okL_list (okL_toD (α := Stop) (by decide) [y]))
            refine ⟨_, _, st, ?_, oldI (some (.node .lst [.dat (pE y)])) (some (.dat (pE y)))⟩
            unfold partB
            simp [he0, nn, old, i1, i3, idx_r0, idx_r1, c1, c2, c3, c4, l0, ru0, ru1, z1, e1]
        · have e1 : VR.eqT (.node .lst [.dat (pE y)]) (.node .lst []) = some false := eq_nil (t := tl [pE y]) (ds := [pE y]) (frz_tl _) (okL_list (okL_toD (α := Stop) (by decide) [y]))
          refine ⟨_, _, st, ?_, oldI (some (.node .lst [.dat (pE y)])) (some (.dat (pE y)))⟩
          unfold partB
          simp [he0, nn, old, i1, i3, idx_r0, idx_r1, c1, c2, c3, ru0, ru1, z1, e1]
      · by_cases c3 : 0 < l
        · have l0 : ¬ l = 0 := by omega
          by_cases c4 : y.a < x.a - x.a.fmod l
          · refine ⟨_, _, st, ?_, newI (some (.node .lst [])) (some (.dat (pE y)))⟩
            unfold partB
            simp [he0, nn, new, i1, i3, idx_r0, idx_r1, c1, c2, c3, c4, l0, ru0, ru1, z1]
          · refine ⟨_, _, st, ?_, newI (some (.node .lst [])) (some (.dat (pE y)))⟩
            unfold partB
            simp [he0, nn, new, i1, i3, idx_r0, idx_r1, c1, c2, c3, c4, l0, ru0, ru1, z1]
        · refine ⟨_, _, st, ?_, newI (some (.node .lst [])) (some (.dat (pE y)))⟩
          unfold partB
          simp [he0, nn, new, i1, i3, idx_r0, idx_r1, c1, c2, c3, ru0, ru1, z1]
    · refine ⟨_, _, st, ?_, newI (some (.node .lst [])) x6⟩
      unfold partB
      simp [he0, nn, new, i1, idx_r0, c1]
theorem turned_loopT (ns : List Int) (a : Nat) (r : T) : ∀ (f : Nat) (left made : List PyData), left.length ≤ f → left.length + made.length ≤ 1000000 → okL left →
    ∃ es : List PyData, es.Perm left ∧ evWhile (evTst (evCmp .NotEq (ev2 (evLoc 3) (evLst evNil)))) (evSeq (evDrop (evApp 4 [] (evPop 3 (evCall F__law_pick (arTmp (evTake 0) (arTmp (evBin .Add (ev2 (evLoc 1) (evB1 lenT (evLoc 3)))) (arTmp (evB1 lenT (evLoc 3)) arNil)))))))
      (fun env => .next env)) (f + 1) [some (.dat (nsD ns)), some (.dat (.int a)), some r, some (tl left), some (tl made)] = .next [some (.dat (nsD ns)), some (.dat (.int a)), some r, some (tl []), some (tl (made ++ es))]
  | f, [], made, _, _, _ => by
    refine ⟨[], List.Perm.refl _, ?_⟩
    have he : VR.eqT (tl []) (.node .lst []) = some true := eq_nil (frz_tl []) (by decide)
    simp [evWhile, he]
  | 0, d :: left, made, h, _, _ => by simp at h
  | f + 1, d :: left, made, h, hz, ho => by
    have hp := pick_lt ns (a + (d :: left).length) (m := ((d :: left).length : Int)) (by simp)
    obtain ⟨k, e1, hk, e2⟩ := idx_pop (d :: left) _ hp
    obtain ⟨es, p1, e3⟩ := turned_loopT ns a r f ((d :: left).eraseIdx k) (made ++ [(d :: left)[k]]) (by rw [List.length_eraseIdx]; split <;> simp at h ⊢ <;> omega) (by
      rw [List.length_eraseIdx, List.length_append]
      split <;> simp at hz ⊢ <;> omega) fun e he => ho e (List.mem_of_mem_eraseIdx he)
    refine ⟨(d :: left)[k] :: es, ?_, ?_⟩
    · exact (p1.cons _).trans (erase_perm (d :: left) k _ (List.getElem?_eq_getElem hk))
    · have hc := pick_eq ns (a + (d :: left).length) ((d :: left).length : Int) (by simp)
      have hn : VR.eqT (tl (d :: left)) (.node .lst []) = some false := eq_nil (frz_tl (d :: left)) (okL_list ho)
      have hl : lenT (tl (d :: left)) = some (.dat (.int (d :: left).length)) := by
        unfold tl
        simp only [lenT]
        show (tl (d :: left)).seq.map _ = _
        rw [seq_tl]
        rfl
      have hpop := evPop_tl (i := 3) (ev := evCall F__law_pick (arTmp (evTake 0) (arTmp (evBin .Add (ev2 (evLoc 1) (evB1 lenT (evLoc 3)))) (arTmp (evB1 lenT (evLoc 3)) arNil)))) (env := [some (.dat (nsD ns)), some (.dat (.int a)), some r, some (tl (d :: left)), some (tl made)]) rfl
        (n := pickM ns (a + (d :: left).length) ((d :: left).length : Int)) (env1 := [some (.dat (nsD ns)), some (.dat (.int a)), some r, some (tl (d :: left)), some (tl made)]) (by
          rw [Int.natCast_add] at hc
          simp [hl] at hc ⊢
          simp [hc]) rfl e2 (List.getElem?_eq_getElem hk) (by omega)
      have happ := evApp_tl (i := 4) (env := [some (.dat (nsD ns)), some (.dat (.int a)), some r, some (tl (d :: left)), some (tl made)]) rfl hpop rfl (by rw [sizeLine_eq]; simp at hz; omega)
      rw [evWhile]
      simp [hn, happ]
      simpa using e3
theorem turned_T (ns : List Int) (a : Nat) (ds : List PyData) (hl : ds.length ≤ 1000) (ho : okL ds) : ∃ es : List PyData, es.Perm ds ∧ F__law_turned [.dat (nsD ns), .dat (.int a), tl ds] = .ok (tl es) [.dat (nsD ns), .dat (.int a), tl ds] := by
  obtain ⟨es, p, e⟩ := turned_loopT ns a (tl ds) 99999 ds [] (by omega) (by simp; omega) ho
  refine ⟨es, p, ?_⟩
  unfold F__law_turned ev__law_turned
  refine (evFn_ap _ _ _ _ ⟨rfl, Nat.le_of_ble_eq_true rfl⟩).trans ?_
  have z : (T.node .lst [] : T) = tl [] := rfl
  simp only [Nat.reduceAdd, List.nil_append] at e
  simp [fnEnv, listT, evPar, z, e, -List.map_map]
end VW

namespace VW
open PySem PySem.Spec PyProof.Rows L2 VR
open PySem.W (Datum DatumOrd T3 T4 Tup)
-- @ _law_parted
def visOf (m : Str × List Stop) : Vis := (m.1, ⟨m.2⟩)
-- @ _law_visits
-- @ _law_some
end VW

namespace VW
open PySem PySem.Spec PyProof.Rows L2 VR
open PySem.W (Datum DatumOrd T3 T4 Tup)
/-! comprehensions that freeze what they use -/
theorem compLI {α : Type} {enc : α → PyData} {t : Tg} {vs : List Nat} {tc : Envt → R Bool} {ev : Ev} {I : Envt → Prop} {b : α → Bool} {g : α → PyData} (ds0 : List PyData) : ∀ (xs : List α) (acc : List PyData) (e : Envt), I e → acc.length + xs.length ≤ sizeLine →
    (∀ x ∈ xs, ∀ e, I e → ∃ env1 env2, setTg t (enc x) e = some env1 ∧ tc env1 = .ok (b x) env1 ∧ (b x = true → ev env1 = .ok (.dat (g x)) env2 ∧ I (hide vs env2)) ∧ (b x = false → I (hide vs env1))) →
    ∃ e', I e' ∧ evCompL (.fix ds0) t vs tc ev (xs.map enc) (acc.map T.dat) e = .ok ((acc ++ (xs.filter b).map g).map T.dat) e'
  | [], acc, e, hi, _, _ => ⟨e, hi, by simp [evCompL, Src.stillB]⟩
  | x :: xs, acc, e, hi, hl, h => by
    obtain ⟨env1, env2, h1, h2, h3, h4⟩ := h x List.mem_cons_self e hi
    rw [List.length_cons] at hl
    by_cases c : b x = true
    · obtain ⟨g1, g2⟩ := h3 c
      obtain ⟨e', i1, i2⟩ := compLI (b := b) (g := g) ds0 xs (acc ++ [g x]) _ g2 (by rw [List.length_append]; simp; omega) fun z hz => h z (List.mem_cons_of_mem _ hz)
      refine ⟨e', i1, ?_⟩
      rw [List.map_cons, evCompL]
      simp only [Src.stillB, if_true, h1, h2, nox_ok]
      rw [if_pos c, g1]
      simp only [nox_ok]
      rw [if_pos (by rw [List.length_map]; omega)]
      rw [List.map_append] at i2
      simp only [List.map_cons, List.map_nil] at i2
      rw [i2, List.filter_cons_of_pos c, List.map_cons, List.append_assoc]
      rfl
    · have c' : b x = false := by simpa using c
      obtain ⟨e', i1, i2⟩ := compLI (b := b) (g := g) ds0 xs acc _ (h4 c') (by omega) fun z hz => h z (List.mem_cons_of_mem _ hz)
      refine ⟨e', i1, ?_⟩
      rw [List.map_cons, evCompL]
      simp only [Src.stillB, if_true, h1, h2, nox_ok]
      rw [if_neg c, i2, List.filter_cons_of_neg c]
theorem comp_i {α : Type} (enc : α → PyData) {si : Envt → R Src} {t : Tg} {vs : List Nat} {tc : Envt → R Bool} {ev : Ev} {env0 env : Envt} (I : Envt → Prop) (xs : List α) (b : α → Bool) (g : α → PyData) (hs : si env0 = .ok (.fix (xs.map enc)) env) (h0 : I (hide vs env)) (hl : xs.length ≤ sizeLine)
    (h : ∀ x ∈ xs, ∀ e, I e → ∃ env1 env2, setTg t (enc x) e = some env1 ∧ tc env1 = .ok (b x) env1 ∧ (b x = true → ev env1 = .ok (.dat (g x)) env2 ∧ I (hide vs env2)) ∧ (b x = false → I (hide vs env1))) :
    ∃ e', I e' ∧ evComp si t vs tc ev env0 = .ok (tl ((xs.filter b).map g)) (back vs env e') := by
  obtain ⟨e', i1, i2⟩ := compLI (enc := enc) (b := b) (g := g) (xs.map enc) xs [] _ h0 (by simp; exact hl) h
  refine ⟨e', i1, ?_⟩
  unfold evComp
  rw [hs]
  simp only [bind_ok, Src.apart, if_true, Src.items]
  rw [List.map_nil] at i2
  rw [i2]
  simp only [nox_ok, List.nil_append]
  rfl
theorem SeqA.len {t : T} {b : Bool} {ds : List PyData} (h : SeqA t b ds) : lenT t = some (.dat (.int ds.length)) := by
  rcases h with rfl | ⟨rfl, rfl⟩
  · cases b <;> simp [lenT, seqD]
  · exact lenT_tl ds
theorem SeqA.idx {t : T} {b : Bool} {ds : List PyData} (h : SeqA t b ds) (i : Int) : idxT t (.dat (.int i)) = (atI ds i).map T.dat := by
  rcases h with rfl | ⟨rfl, rfl⟩
  · cases b
    · exact idx_lst ds i
    · exact idx_tup ds i
  · exact idx_tl ds i
-- @ pages_of
def pages (v : Vis) : List Str := v.2.items.map (·.c)
-- @ got_through
def gotStep (ps : List Str) (made : Nat) (x : Str) : Nat := if ps[made]? = some x then made + 1 else made
def gotM (ps xs : List Str) : Nat := xs.foldl (gotStep ps) 0
def gotB : Es := evSeq (evIf (bopT true (evTst (evCmp .Lt (ev2 (evLoc 2) (evB1 lenT (evLoc 1))))) (evTst (evCmp .Eq (ev2 (evLoc 3) (evIdx (ev2 (evLoc 1) (evLoc 2))))))) (evSeq (evSet 2 (evBin .Add (ev2 (evLoc 2) (evC (.int 1))))) (fun env => .next env)) (fun env => .next env)) (fun env => .next env)
theorem got_body (vd : PyData) (b : Bool) (ps : List Str) (made : Nat) (y : Str) : gotB [some (.dat vd), some (.dat (seqD b (ps.map PyData.str))), some (.dat (.int (made : Int))), some (.dat (.str y))] = .next [some (.dat vd), some (.dat (seqD b (ps.map PyData.str))), some (.dat (.int (gotStep ps made y : Int))), some (.dat (.str y))] := by
  have hA : SeqA (.dat (seqD b (ps.map PyData.str))) b (ps.map PyData.str) := .inl rfl
  have hlen : lenT (.dat (seqD b (ps.map PyData.str))) = some (.dat (.int ps.length)) := by rw [hA.len, List.length_map]
  have hi := hA.idx (made : Int)
  rw [VR.atI_nat, List.getElem?_map] at hi
  unfold gotStep gotB
  by_cases c : made < ps.length
  · rw [List.getElem?_eq_getElem c] at hi ⊢
    simp only [Option.map_some] at hi
    by_cases d : y = ps[made]
    · have d' : ps[made] = y := d.symm
      simp [hlen, c, hi, d']
    · have d' : ¬ ps[made] = y := fun z => d z.symm
      simp [hlen, c, hi, d, d']
  · rw [List.getElem?_eq_none (by omega)]
    simp [hlen, c]
-- @ funnel
def funnelM (vs : List Vis) (ps : List Str) : List Int := (List.range ps.length).map fun k => (((vs.map fun v => gotM ps (pages v)).filter fun g => decide (k < g)).length : Int)
theorem in62_nat (n : Nat) (h : n ≤ 1000) : in62 (n : Int) = true := by
  have h0 : (0 : Int) ≤ n := by omega
  have h63 : (n : Int) ≤ 1000 := by omega
  exact in62_of ⟨h0, Int.lt_of_le_of_lt h63 (by decide)⟩
theorem rng_int (ea : Ev) (env : Envt) (j : Int) (e : ea env = .ok (.dat (.int j)) env) (hj : in62 j = true) : evRng1 ea env = .ok (.fix (rngD 0 j.toNat)) env := by
  simp [evRng1, e, hj]
theorem rng_src (n : Nat) (h : n ≤ 63) (t : T) (i : Nat) (env : Envt) (he : env[i]? = some (some t)) (hl : lenT t = some (.dat (.int n))) : evRng1 (evB1 lenT (evLoc i)) env = .ok (.fix ((List.range n).map fun (k : Nat) => PyData.int (k : Int))) env := by
  have e : evB1 lenT (evLoc i) env = .ok (.dat (.int n)) env := by
    rw [evB1_ap, evLoc_some i env t he]
    simp only [bind_ok, hl, lift_some]
  have r := rng_int _ env n e (in62_nat n (by omega))
  have q : rngD 0 (n : Int).toNat = (List.range n).map fun (k : Nat) => PyData.int (k : Int) := rngD_nat n
  rw [q] at r
  exact r
theorem fun2 (d0 : PyData) (u : T) (FS : List Int) (hfl : FS.length ≤ 63) (n : Nat) (hn : n ≤ 63) (hu : lenT u = some (.dat (.int n))) : ∃ f, evComp (evRng1 (evB1 lenT (evLoc 1))) (.one 4) [4] (fun env => .ok true env) (evB1 lenT (evComp (evFix (evTake 2)) (.one 5) [5] (evTst (evCmp .Gt (ev2 (evLoc 5) (evLoc 4)))) (evTake 5))) [some (.dat d0), some u, some (tl (FS.map PyData.int)), none, none, none] = .ok (tl ((List.range n).map fun (k : Nat) => PyData.int ((FS.filter fun g => decide ((k : Int) < g)).length : Int))) [some (.dat d0), some u, some f, none, none, none] := by
  obtain ⟨e2, ⟨f, hf, rfl⟩, c2⟩ := comp_i (fun k : Nat => PyData.int (k : Int)) (si := evRng1 (evB1 lenT (evLoc 1))) (t := .one 4) (vs := [4]) (tc := fun env => .ok true env) (ev := evB1 lenT (evComp (evFix (evTake 2)) (.one 5) [5] (evTst (evCmp .Gt (ev2 (evLoc 5) (evLoc 4)))) (evTake 5))) (env0 := [some (.dat d0), some u, some (tl (FS.map PyData.int)), none, none, none]) (env := [some (.dat d0), some u, some (tl (FS.map PyData.int)), none, none, none])
    (fun e => ∃ f, SeqA f false (FS.map PyData.int) ∧ e = [some (.dat d0), some u, some f, none, none, none]) (List.range n) (fun _ => true) (fun k => .int ((FS.filter fun g => decide ((k : Int) < g)).length : Int)) (rng_src n hn u 1 _ rfl hu) ⟨_, .inr ⟨rfl, rfl⟩, rfl⟩ (by rw [List.length_range, sizeLine_eq]; omega) fun k hk e he => by
      obtain ⟨f, hf, rfl⟩ := he
      have ci := comp_t PyData.int (si := evFix (evTake 2)) (i := 5) (tc := evTst (evCmp .Gt (ev2 (evLoc 5) (evLoc 4)))) (ev := evTake 5) (env0 := [some (.dat d0), some u, some f, none, some (.dat (.int (k : Int))), none]) (env := [some (.dat d0), some u, some (.dat (.list (FS.map PyData.int))), none, some (.dat (.int (k : Int))), none]) FS (fun g => decide ((k : Int) < g)) PyData.int (hf.fix 2 _ rfl) (by simp) (by rw [sizeLine_eq]; omega) fun g hg => ⟨by simp, fun _ => by simp⟩
      have hl := lenT_tl ((FS.filter fun g => decide ((k : Int) < g)).map PyData.int)
      rw [List.length_map] at hl
      refine ⟨[some (.dat d0), some u, some f, none, some (.dat (.int (k : Int))), none], [some (.dat d0), some u, some (.dat (.list (FS.map PyData.int))), none, some (.dat (.int (k : Int))), none], rfl, rfl, fun _ => ⟨?_, .dat (.list (FS.map PyData.int)), .inl rfl, rfl⟩, fun z => by cases z⟩
      simp [ci, hl]
  rw [filter_true] at c2
  exact ⟨f, c2⟩
theorem fun3 (vs : List Vis) (ps : List Str) : (List.range ps.length).map (fun k : Nat => PyData.int (((vs.map fun v => (gotM ps (pages v) : Int)).filter fun g => decide ((k : Int) < g)).length : Int)) = (funnelM vs ps).map PyData.int := by
  unfold funnelM
  rw [List.map_map]
  refine List.map_congr_left fun k _ => ?_
  show PyData.int _ = PyData.int _
  congr 2
  have : ∀ l : List Vis, ((l.map fun v => (gotM ps (pages v) : Int)).filter fun g => decide ((k : Int) < g)).length = ((l.map fun v => gotM ps (pages v)).filter fun g => decide (k < g)).length := by
    intro l
    induction l with
    | nil => rfl
    | cons v l ih =>
      rw [List.map_cons, List.map_cons]
      by_cases c : k < gotM ps (pages v)
      · rw [List.filter_cons_of_pos (by simp [c]), List.filter_cons_of_pos (by simp [c]), List.length_cons, List.length_cons, ih]
      · rw [List.filter_cons_of_neg (by simp [c]), List.filter_cons_of_neg (by simp [c]), ih]
  exact this vs
end VW

namespace VW
open PySem PySem.Spec PyProof.Rows L2 VR
open PySem.W (Datum DatumOrd T3 T4 Tup)
/-! drawn rows: devices and persons are of a few names -/
def Per (x : Str) : Prop := x = "" ∨ x = "kim" ∨ x = "al" ∨ x = "zoe"
def RowOk (s : Stp) : Prop := OkStp s ∧ (s.b = "a" ∨ s.b = "b" ∨ s.b = "cd") ∧ Per s.d
theorem per_nm {x : Str} (h : Per x) : Nm x ∨ x = "" := by
  rcases h with rfl | rfl | rfl | rfl
  · exact .inr rfl
  · exact .inl nm_kim
  · exact .inl nm_al
  · exact .inl nm_zoe
def SgOkR (sg : List PyData) : Prop := sg ≠ [] ∧ sg.length ≤ 1000 ∧ ∀ d ∈ sg, ∃ x : Str, d = .str x ∧ Per x
theorem sr1 : SgOkR [.str "", .str "", .str "", .str "kim", .str "al"] := ⟨by simp, by decide, fun d hd => by
  simp at hd
  rcases hd with rfl | rfl | rfl
  · exact ⟨_, rfl, .inl rfl⟩
  · exact ⟨_, rfl, .inr (.inl rfl)⟩
  · exact ⟨_, rfl, .inr (.inr (.inl rfl))⟩⟩
theorem sr2 : SgOkR [.str "", .str "kim", .str "zoe"] := ⟨by simp, by decide, fun d hd => by
  simp at hd
  rcases hd with rfl | rfl | rfl
  · exact ⟨_, rfl, .inl rfl⟩
  · exact ⟨_, rfl, .inr (.inl rfl)⟩
  · exact ⟨_, rfl, .inr (.inr (.inr rfl))⟩⟩
theorem sr3 : SgOkR [.str ""] := ⟨by simp, by decide, fun d hd => by
  simp at hd
  subst hd
  exact ⟨_, rfl, .inl rfl⟩⟩
theorem sr4 : SgOkR [.str "al", .str "kim", .str "zoe"] := ⟨by simp, by decide, fun d hd => by
  simp at hd
  rcases hd with rfl | rfl | rfl
  · exact ⟨_, rfl, .inr (.inr (.inl rfl))⟩
  · exact ⟨_, rfl, .inr (.inl rfl)⟩
  · exact ⟨_, rfl, .inr (.inr (.inr rfl))⟩⟩
-- @ _law_rows
def rowsInvR (ns : List Int) (a : Nat) (most : Int) (sp : Int) (sg : List PyData) (ys : List Nat) (env : Envt) : Prop := ∃ (ss : List Stp) (x6 x7 x8 x9 x10 x11 : Option T), env = [some (.dat (nsD ns)), some (.dat (.int a)), some (.dat (.int most)), some (.dat (.int sp)), some (.dat (.list sg)), some (tl (ss.map sE)), x6, x7, x8, x9, x10, x11] ∧ (∀ s ∈ ss, RowOk s) ∧ (ss.length : Int) + 2 * ys.length ≤ 2 * most
theorem rows_bodyR (ns : List Int) (a : Nat) (most sp : Int) (sg : List PyData) (hsp : 0 < sp ∧ sp ≤ 10000) (hsg : SgOkR sg) (hm : most ≤ 1000) (y : Nat) (ys : List Nat) (env : Envt) (hp : rowsInvR ns a most sp sg (y :: ys) env) : ∃ env1 env2, setTg (.one 6) (PyData.int (y : Int)) env = some env1 ∧ rowsBody env1 = .next env2 ∧ rowsInvR ns a most sp sg ys env2 := by
  obtain ⟨ss, x6, x7, x8, x9, x10, x11, rfl, ok, hlen⟩ := hp
  simp only [List.length_cons] at hlen
  obtain ⟨h, hh⟩ : ∃ h : Int, h = (a : Int) + 10 + 6 * (y : Int) := ⟨_, rfl⟩
  have h0 : 0 ≤ h := by omega
  obtain ⟨n0, b0, q0⟩ := pick_of ns h sp h0 hsp.1
  obtain ⟨n1, b1, q1⟩ := pick_of ns (h + 1) 3 (by omega) (by decide)
  obtain ⟨n2, b2, q2⟩ := pick_of ns (h + 2) 4 (by omega) (by decide)
  have hsl : 0 < sg.length := List.length_pos_iff.mpr hsg.1
  obtain ⟨n3, b3, q3⟩ := pick_of ns (h + 3) (sg.length : Int) (by omega) (by omega)
  obtain ⟨n4, b4, q4⟩ := pick_of ns (h + 4) 9 (by omega) (by decide)
  obtain ⟨n5, b5, q5⟩ := pick_of ns (h + 5) ((ss.length : Int) + 1) (by omega) (by omega)
  obtain ⟨d1, m1, e1⟩ := idx_in [.str "a", .str "b", .str "cd"] n1 b1
  obtain ⟨d2, m2, e2⟩ := idx_in [.str "p", .str "q", .str "home", .str "z"] n2 b2
  obtain ⟨d3, m3, e3⟩ := idx_in sg n3 b3
  have c1 : ∃ x : Str, d1 = .str x ∧ Nm x ∧ x.length < 1000 ∧ (x = "a" ∨ x = "b" ∨ x = "cd") := by
    simp at m1
    rcases m1 with rfl | rfl | rfl
    · exact ⟨_, rfl, nm_a, by decide, .inl rfl⟩
    · exact ⟨_, rfl, nm_b, by decide, .inr (.inl rfl)⟩
    · exact ⟨_, rfl, nm_cd, by decide, .inr (.inr rfl)⟩
  have c2 : ∃ x : Str, d2 = .str x ∧ Nm x := by
    simp at m2
    rcases m2 with rfl | rfl | rfl | rfl
    · exact ⟨_, rfl, nm_p⟩
    · exact ⟨_, rfl, nm_q⟩
    · exact ⟨_, rfl, nm_home⟩
    · exact ⟨_, rfl, nm_z⟩
  obtain ⟨x3, rfl, c3⟩ := hsg.2.2 d3 m3
  obtain ⟨x1, rfl, c1, c1', c1r⟩ := c1
  have c3' : Nm x3 ∨ x3 = "" := per_nm c3
  obtain ⟨x2, rfl, c2⟩ := c2
  have z3 : (3 : Nat) ≤ sizeLine := by decide
  have z4 : (4 : Nat) ≤ sizeLine := by decide
  have new : RowOk ⟨n0, x1, x2, x3⟩ := ⟨⟨⟨⟨b0.1, by show n0 ≤ 9999; omega⟩, c1, c2, c3'⟩, c1'⟩, c1r, c3⟩
  have ok2 : ∀ s ∈ ss ++ [(⟨n0, x1, x2, x3⟩ : Stp)], RowOk s := fun s hs => (List.mem_append.mp hs).elim (ok s) fun z => by rw [List.mem_singleton.mp z]; exact new
  refine ⟨[some (.dat (nsD ns)), some (.dat (.int a)), some (.dat (.int most)), some (.dat (.int sp)), some (.dat (.list sg)), some (tl (ss.map sE)), some (.dat (.int y)), x7, x8, x9, x10, x11], ?_⟩
  have happ := evApp_tl (i := 5) (ev := (evTup (evCons (evTake 10) (evCons (evTake 11) (evCons (evTake 8) (evCons (evTake 9) evNil)))))) (env := [some (.dat (nsD ns)), some (.dat (.int a)), some (.dat (.int most)), some (.dat (.int sp)), some (.dat (.list sg)), some (tl (ss.map sE)), some (.dat (.int y)), some (.dat (.int h)), some (.dat (.str x2)), some (.dat (.str x3)), some (.dat (.int n0)), some (.dat (.str x1))])
    (env1 := [some (.dat (nsD ns)), some (.dat (.int a)), some (.dat (.int most)), some (.dat (.int sp)), some (.dat (.list sg)), some (tl (ss.map sE)), some (.dat (.int y)), some (.dat (.int h)), some (.dat (.str x2)), some (.dat (.str x3)), some (.dat (.int n0)), some (.dat (.str x1))]) (ds0 := ss.map sE) (ds := ss.map sE) (d := sE ⟨n0, x1, x2, x3⟩) rfl (by simp [z4, sE]) rfl (by rw [sizeLine_eq, List.length_map]; omega)
  rw [show ss.map sE ++ [sE ⟨n0, x1, x2, x3⟩] = (ss ++ [(⟨n0, x1, x2, x3⟩ : Stp)]).map sE by simp] at happ
  obtain ⟨d5, m5, e5⟩ := idx_inT ((ss ++ [(⟨n0, x1, x2, x3⟩ : Stp)]).map sE) n5 (by simp; omega)
  obtain ⟨s5, r5, rfl⟩ := List.mem_map.mp m5
  have hlen5 : lenT (tl ((ss ++ [(⟨n0, x1, x2, x3⟩ : Stp)]).map sE)) = some (.dat (.int ((ss.length : Int) + 1))) := by
    rw [lenT_tl]
    simp
  have happ2 := evApp_tl (i := 5) (ev := (evLeaf (evIdx (ev2S 5 (evCall F__law_pick (arTmp (evTake 0) (arTmp (evBin .Add (ev2 (evLoc 7) (evC (.int 5)))) (arTmp (evB1 lenT (evLoc 5)) arNil)))))))) (env := [some (.dat (nsD ns)), some (.dat (.int a)), some (.dat (.int most)), some (.dat (.int sp)), some (.dat (.list sg)), some (tl ((ss ++ [(⟨n0, x1, x2, x3⟩ : Stp)]).map sE)), some (.dat (.int y)), some (.dat (.int h)), some (.dat (.str x2)), some (.dat (.str x3)), some (.dat (.int n0)), some (.dat (.str x1))])
    (env1 := [some (.dat (nsD ns)), some (.dat (.int a)), some (.dat (.int most)), some (.dat (.int sp)), some (.dat (.list sg)), some (tl ((ss ++ [(⟨n0, x1, x2, x3⟩ : Stp)]).map sE)), some (.dat (.int y)), some (.dat (.int h)), some (.dat (.str x2)), some (.dat (.str x3)), some (.dat (.int n0)), some (.dat (.str x1))]) (ds0 := (ss ++ [(⟨n0, x1, x2, x3⟩ : Stp)]).map sE) (ds := (ss ++ [(⟨n0, x1, x2, x3⟩ : Stp)]).map sE) (d := sE s5) rfl (by simp [hlen5, q5, e5, -List.map_append]) rfl (by rw [sizeLine_eq, List.length_map]; simp; omega)
  rw [show (ss ++ [(⟨n0, x1, x2, x3⟩ : Stp)]).map sE ++ [sE s5] = (ss ++ [(⟨n0, x1, x2, x3⟩ : Stp)] ++ [s5]).map sE by simp] at happ2
  have hmul : binT .Mult (.dat (.int 6)) (.dat (.int (y : Int))) = some (.dat (.int (6 * (y : Int)))) := by simp
  by_cases c : n4 = 0
  · refine ⟨[some (.dat (nsD ns)), some (.dat (.int a)), some (.dat (.int most)), some (.dat (.int sp)), some (.dat (.list sg)), some (tl ((ss ++ [(⟨n0, x1, x2, x3⟩ : Stp)] ++ [s5]).map sE)), some (.dat (.int y)), some (.dat (.int h)), some (.dat (.str x2)), some (.dat (.str x3)), some (.dat (.int n0)), some (.dat (.str x1))], by simp [setTg], ?_, ss ++ [(⟨n0, x1, x2, x3⟩ : Stp)] ++ [s5], _, _, _, _, _, _, rfl, fun s hs => (List.mem_append.mp hs).elim (ok2 s) fun z => by rw [List.mem_singleton.mp z]; exact ok2 s5 r5, by simp; omega⟩
    unfold rowsBody
    subst c
    simp [evPar, hmul, ← hh, q0, q1, q2, q3, q4, e1, e2, e3, T.frz, z3, z4, len_list, happ, happ2, -VR.mul_int, -List.map_append]
  · refine ⟨[some (.dat (nsD ns)), some (.dat (.int a)), some (.dat (.int most)), some (.dat (.int sp)), some (.dat (.list sg)), some (tl ((ss ++ [(⟨n0, x1, x2, x3⟩ : Stp)]).map sE)), some (.dat (.int y)), some (.dat (.int h)), some (.dat (.str x2)), some (.dat (.str x3)), some (.dat (.int n0)), some (.dat (.str x1))], by simp [setTg], ?_, ss ++ [(⟨n0, x1, x2, x3⟩ : Stp)], _, _, _, _, _, _, rfl, ok2, by simp; omega⟩
    unfold rowsBody
    simp [evPar, hmul, ← hh, q0, q1, q2, q3, q4, e1, e2, e3, T.frz, z3, z4, len_list, happ, c, -VR.mul_int, -List.map_append]
theorem rows_eqR (ns : List Int) (a most : Nat) (hm : most ≤ 1000) : ∃ ss : List Stp, ss.length ≤ 2 * most ∧ (∀ s ∈ ss, RowOk s) ∧ F__law_rows [.dat (nsD ns), .dat (.int a), .dat (.int most)] = .ok (tl (ss.map sE)) [.dat (nsD ns), .dat (.int a), .dat (.int most)] := by
  obtain ⟨n0, b0, q0⟩ := pick_of ns a 4 (by omega) (by decide)
  obtain ⟨n1, b1, q1⟩ := pick_of ns ((a : Int) + 1) 4 (by omega) (by decide)
  obtain ⟨n2, b2, q2⟩ := pick_of ns ((a : Int) + 2) ((most : Int) + 1) (by omega) (by omega)
  obtain ⟨d0, m0, e0⟩ := idx_in [.int 6, .int 40, .int 300, .int 9999] n0 b0
  obtain ⟨d1, m1, e1⟩ := idx_in [.list [.str "", .str "", .str "", .str "kim", .str "al"], .list [.str "", .str "kim", .str "zoe"], .list [.str ""], .list [.str "al", .str "kim", .str "zoe"]] n1 b1
  have c0 : ∃ sp : Int, d0 = .int sp ∧ 0 < sp ∧ sp ≤ 10000 := by
    simp at m0
    rcases m0 with rfl | rfl | rfl | rfl <;> exact ⟨_, rfl, by decide, by decide⟩
  have c1 : ∃ sg : List PyData, d1 = .list sg ∧ SgOkR sg := by
    simp only [List.mem_cons, List.not_mem_nil, or_false] at m1
    rcases m1 with rfl | rfl | rfl | rfl
    · exact ⟨_, rfl, sr1⟩
    · exact ⟨_, rfl, sr2⟩
    · exact ⟨_, rfl, sr3⟩
    · exact ⟨_, rfl, sr4⟩
  obtain ⟨sp, rfl, c0⟩ := c0
  obtain ⟨sg, rfl, c1⟩ := c1
  obtain ⟨env2, ef, ss, x6, x7, x8, x9, x10, x11, rfl, ok, hlen⟩ := for_inv (fun k : Nat => PyData.int (k : Int)) (t := .one 6) (body := rowsBody) (rngD 0 n2.toNat) (rowsInvR ns a most sp sg) (fun y ys env hp => rows_bodyR ns a most sp sg c0 c1 (by omega) y ys env hp) (List.range n2.toNat)
    [some (.dat (nsD ns)), some (.dat (.int a)), some (.dat (.int most)), some (.dat (.int sp)), some (.dat (.list sg)), some (.node .lst []), none, none, none, none, none, none] ⟨[], none, none, none, none, none, none, rfl, fun s hs => (by cases hs), by simp; omega⟩
  rw [← rngD_nat] at ef
  unfold rowsBody at ef
  refine ⟨ss, by simp at hlen; omega, ok, ?_⟩
  unfold F__law_rows ev__law_rows
  refine (evFn_ap _ _ _ _ ⟨rfl, Nat.le_of_ble_eq_true rfl⟩).trans ?_
  have z0 : (0 : Nat) ≤ sizeLine := by decide
  have z1 : (1 : Nat) ≤ sizeLine := by decide
  have z3 : (3 : Nat) ≤ sizeLine := by decide
  have z4 : (4 : Nat) ≤ sizeLine := by decide
  have z5 : (5 : Nat) ≤ sizeLine := by decide
  have hi : in62 n2 = true := in62_of ⟨b2.1, by omega⟩
  simp [fnEnv, q0, q1, q2, e0, e1, T.frz, frzAll, z1, z3, z4, z5, evForS, evRng1, hi, ef]
end VW

namespace VW
open PySem PySem.Spec PyProof.Rows L2 VR
open PySem.W (Datum DatumOrd T3 T4 Tup)
theorem any_eqv {α : Type} [DecidableEq α] [Datum α] (x : α) (xs : List α) : ((xs.map Datum.toD).any fun y => PyData.eqv y (Datum.toD x)) = decide (x ∈ xs) := by
  rw [List.any_map]
  have : ((fun y => PyData.eqv y (Datum.toD x)) ∘ (Datum.toD : α → PyData)) = fun n : α => decide (n = x) := by
    funext n
    exact Datum.eqv n x
  rw [this]
  by_cases c : x ∈ xs
  · rw [decide_eq_true c, List.any_eq_true]
    exact ⟨x, c, by simp⟩
  · rw [decide_eq_false c, List.any_eq_false]
    intro y hy
    simp only [decide_eq_true_eq]
    intro z
    exact c (z ▸ hy)
theorem okD_tup {α : Type} [DecidableEq α] [Datum α] (h : Datum.depth α ≤ 38) (xs : List α) : okD (.tuple (xs.map Datum.toD)) = true := okD_toD (α := Tup α) (by show Datum.depth α + 1 ≤ 40; omega) ⟨xs⟩
theorem in_list {α : Type} [DecidableEq α] [Datum α] (h : Datum.depth α ≤ 38) (x : α) (xs : List α) : inT (.dat (Datum.toD x)) (.dat (.list (xs.map Datum.toD))) = some (decide (x ∈ xs)) := by
  show (if okD (.list (xs.map Datum.toD)) && okD (Datum.toD x) then some ((xs.map Datum.toD).any fun y => PyData.eqv y (Datum.toD x)) else none) = _
  rw [okD_list h xs, okD_toD (by omega) x, any_eqv]
  rfl
theorem in_tup {α : Type} [DecidableEq α] [Datum α] (h : Datum.depth α ≤ 38) (x : α) (xs : List α) : inT (.dat (Datum.toD x)) (.dat (.tuple (xs.map Datum.toD))) = some (decide (x ∈ xs)) := by
  show (if okD (.tuple (xs.map Datum.toD)) && okD (Datum.toD x) then some ((xs.map Datum.toD).any fun y => PyData.eqv y (Datum.toD x)) else none) = _
  rw [okD_tup h xs, okD_toD (by omega) x, any_eqv]
  rfl
@[simp] theorem cmp_notin (t u : T) : cmpT .NotIn t u = (inT t u).map (!·) := rfl
theorem step_key (x : Stp) : setOk1 false (Datum.toD x) = true := by
  obtain ⟨a, b, c, d⟩ := x
  show setOk1 false (.tuple [.int a, .str b, .str c, .str d]) = true
  simp [setOk1, nkD, nkDs, NestedKey.depth, NestedKey.depthAll]
theorem look_ok {ss : List Stp} (hn : ss.length < 64) (hs : ∀ s ∈ ss, OkStp s) : F_look_steps [.dat (.list (ss.map sE))] = .ok (.dat .none) [.dat (.list (ss.map sE))] := look_steps_ok (b := false) (by rw [List.length_map, sizeLine_eq]; omega) fun d hd => by
  obtain ⟨s, h1, rfl⟩ := List.mem_map.mp hd
  exact is_step_ok (hs s h1).1
-- @ in_order
theorem in_order_eq (ss : List Stp) (hn : ss.length < 64) (hs : ∀ s ∈ ss, OkStp s) : F_in_order [.dat (.list (ss.map sE))] = .ok (tl ((srt (ded ss)).map sE)) [.dat (.list (ss.map sE))] := by
  unfold F_in_order ev_in_order
  refine (evFn_ap _ _ _ _ ⟨rfl, Nat.le_of_ble_eq_true rfl⟩).trans ?_
  have hss : ssT (.dat (.list (ss.map sE))) = some (tl ((srt (ded ss)).map sE)) := ssT_map false false _ ss rfl step_key hn
  simp [fnEnv, look_ok hn hs, hss]
-- @ whose
theorem whose_eq (ss : List Stp) (s : Stp) (hn : ss.length < 64) (hs : ∀ s ∈ ss, OkStp s) (hm : s ∈ ss) : F_whose [.dat (.list (ss.map sE)), .dat (sE s)] = .ok (.dat (.str (ownerM ss s))) [.dat (.list (ss.map sE)), .dat (sE s)] := by
  unfold F_whose ev_whose
  refine (evFn_ap _ _ _ _ ⟨rfl, Nat.le_of_ble_eq_true rfl⟩).trans ?_
  have hi : inT (.dat (sE s)) (.dat (.list (ss.map sE))) = some true := (in_list (by decide) s ss).trans (by rw [decide_eq_true hm])
  have h1 : F_is_step [.dat (sE s)] = .ok (.dat (.bool true)) [.dat (sE s)] := is_step_ok (hs s hm).1
  have ho := owner_in_eq ss s (by rw [sizeLine_eq]; omega) (hs s hm).2
  simp [fnEnv, look_ok hn hs, hi, h1, ho]
-- @ visit_of
def ownIn (o : Str) (x : Stop) (v : Vis) : Bool := decide (v.1 = o) && decide (x ∈ v.2.items)
-- @ length
-- @ is_stop
structure OkP (x : Stop) : Prop where
  t : 0 ≤ x.a ∧ x.a ≤ 9999
  d : Nm x.b
  p : Nm x.c
end VW


namespace VW
open PySem PySem.Spec PyProof.Rows L2 VR
open PySem.W (Datum DatumOrd T3 T4 Tup)
/-! TL: tools for mirrors: statements one by one, loops, comprehensions, by facts about slots. -/
theorem seq_next {es es2 : Es} {env env' : Envt} (h : es env = .next env') : evSeq es es2 env = es2 env' := by
  unfold evSeq
  rw [h]
theorem seq_ret {es es2 : Es} {env env' : Envt} {t : T} (h : es env = .ret t env') : evSeq es es2 env = .ret t env' := by
  unfold evSeq
  rw [h]
theorem seq_exc {es es2 : Es} {env env' : Envt} {c : Str} (h : es env = .exc c env') : evSeq es es2 env = .exc c env' := by
  unfold evSeq
  rw [h]
theorem seq_cnt {es es2 : Es} {env env' : Envt} (h : es env = .cnt env') : evSeq es es2 env = .cnt env' := by
  unfold evSeq
  rw [h]
theorem forS_fix {si : Envt → R Src} {nk : Nat} {t : Tg} {body : Es} {env env' : Envt} {ds : List PyData} (h : si env = .ok (.fix ds) env') : evForS si nk t body env = evFor (.fix ds) t body ds env' := by
  unfold evForS
  rw [h]
  rfl
theorem set_ok {i : Nat} {ev : Ev} {env env' : Envt} {t : T} (h : ev env = .ok t env') (hi : i < env'.length) : evSet i ev env = .next (env'.set i (some t)) := by
  unfold evSet
  rw [h]
  show (if i < env'.length then SRs.next (env'.set i (some t)) else .fail) = _
  rw [if_pos hi]
theorem par_ok {i j : Nat} {es : Envt → R (List T)} {env env' : Envt} {t u : T} (h : es env = .ok [t, u] env') (hi : i < env'.length) (hj : j < env'.length) (hn : i ≠ j) : evPar i j es env = .next ((env'.set i (some t)).set j (some u)) := by
  unfold evPar
  rw [h]
  show (if i < env'.length ∧ j < env'.length ∧ i ≠ j then SRs.next ((env'.set i (some t)).set j (some u)) else .fail) = _
  rw [if_pos ⟨hi, hj, hn⟩]
theorem drop_ok {ev : Ev} {env env' : Envt} {t : T} (h : ev env = .ok t env') : evDrop ev env = .next env' := by
  unfold evDrop
  rw [h]
  rfl
theorem if_ok {tc : Envt → R Bool} {a b : Es} {env env' : Envt} {c : Bool} (h : tc env = .ok c env') : evIf tc a b env = if c = true then a env' else b env' := by
  unfold evIf
  rw [h]
  rfl
theorem fix_ok {ev : Ev} {env env' : Envt} {t : T} {ds : List PyData} (h : ev env = .ok t env') (hf : fixOf t = some ds) : evFix ev env = .ok (.fix ds) env' := by
  unfold evFix
  rw [h]
  show R.lift ((fixOf t).map Src.fix) env' = _
  rw [hf]
  rfl
theorem for_find {α : Type} (en : α → PyData) {t : Tg} {body : Es} (ds0 : List PyData) (P : List α → Envt → Prop) (Q : Envt → Prop) (r : α → Option T) (h : ∀ y ys env, P (y :: ys) env → ∃ env1 env2, setTg t (en y) env = some env1 ∧ ((r y = none ∧ body env1 = .next env2 ∧ P ys env2) ∨ ∃ u, r y = some u ∧ body env1 = .ret u env2 ∧ Q env2)) : ∀ (xs : List α) (env : Envt), P xs env → ∃ env2, (xs.findSome? r = none ∧ evFor (.fix ds0) t body (xs.map en) env = .next env2 ∧ P [] env2) ∨ ∃ u, xs.findSome? r = some u ∧ evFor (.fix ds0) t body (xs.map en) env = .ret u env2 ∧ Q env2
  | [], env, hp => ⟨env, .inl ⟨rfl, by rw [List.map_nil, evFor]; simp only [Src.stillB, if_true], hp⟩⟩
  | y :: ys, env, hp => by
    obtain ⟨env1, env2, e1, e2⟩ := h y ys env hp
    rcases e2 with ⟨e2, e3, e4⟩ | ⟨u, e2, e3, e4⟩
    · obtain ⟨env3, e5⟩ := for_find en ds0 P Q r h ys env2 e4
      refine ⟨env3, ?_⟩
      rw [List.findSome?_cons, e2, List.map_cons, evFor]
      simp only [Src.stillB, if_true, e1, e3]
      exact e5
    · refine ⟨env2, .inr ⟨u, ?_, ?_, e4⟩⟩
      · rw [List.findSome?_cons, e2]
      · rw [List.map_cons, evFor]
        simp only [Src.stillB, if_true, e1, e3]
/-- a loop of one name, by facts about the environment -/
theorem for_one {α : Type} (en : α → PyData) {i : Nat} {body : Es} (ds0 : List PyData) (P : List α → Envt → Prop) (hi : ∀ xs env, P xs env → i < env.length) (h : ∀ y ys env, P (y :: ys) env → ∃ env2, (body (env.set i (some (.dat (en y)))) = .next env2 ∨ body (env.set i (some (.dat (en y)))) = .cnt env2) ∧ P ys env2) : ∀ (xs : List α) (env : Envt), P xs env → ∃ env2, evFor (.fix ds0) (.one i) body (xs.map en) env = .next env2 ∧ P [] env2
  | [], env, hp => ⟨env, by rw [List.map_nil, evFor]; simp only [Src.stillB, if_true], hp⟩
  | y :: ys, env, hp => by
    obtain ⟨env2, e2, e3⟩ := h y ys env hp
    obtain ⟨env3, e4, e5⟩ := for_one en ds0 P hi h ys env2 e3
    refine ⟨env3, ?_, e5⟩
    have e1 : setTg (.one i) (en y) env = some (env.set i (some (.dat (en y)))) := by
      show (if i < env.length then some (env.set i (some (.dat (en y)))) else none) = _
      rw [if_pos (hi _ _ hp)]
    rw [List.map_cons, evFor]
    rcases e2 with e2 | e2
    · simp only [Src.stillB, if_true, e1, e2]
      exact e4
    · simp only [Src.stillB, if_true, e1, e2]
      exact e4
theorem rng2_int (es : Envt → R (List T)) (env env' : Envt) (i : Int) (n : Nat) (hi : 0 ≤ i) (hn : i + n ≤ 1000) (e : es env = .ok [.dat (.int i), .dat (.int (i + (n : Int)))] env') : evRng2 es env = .ok (.fix ((List.range n).map fun (k : Nat) => PyData.int (i + (k : Int)))) env' := by
  unfold evRng2
  rw [e]
  have h1 : in62 i = true := in62_of ⟨hi, by omega⟩
  have h2 : in62 (i + (n : Int)) = true := in62_of ⟨by omega, by omega⟩
  have h3 : ((i + (n : Int)) - i).toNat = n := by omega
  simp only [bind_ok, int?_int, Option.bind_some, h1, h2, h3, Bool.and_self, if_true, lift_some]
  rfl
theorem rng1_gen (ea : Ev) (env env' : Envt) (j : Int) (e : ea env = .ok (.dat (.int j)) env') (hj : in62 j = true) : evRng1 ea env = .ok (.fix (rngD 0 j.toNat)) env' := by
  unfold evRng1
  rw [e]
  show R.lift (if in62 j = true then some (Src.fix (rngD 0 j.toNat)) else none) env' = _
  rw [if_pos hj]
  rfl
theorem rng1_nat (ea : Ev) (env env' : Envt) (n : Nat) (h : n ≤ 1000) (e : ea env = .ok (.dat (.int (n : Int))) env') : evRng1 ea env = .ok (.fix ((List.range n).map fun (k : Nat) => PyData.int (k : Int))) env' := by
  have q := rng1_gen ea env env' (n : Int) e (in62_nat n h)
  rw [Int.toNat_natCast, rngD_nat] at q
  exact q
/-! comprehensions whose values are trees -/
theorem compL_n {α : Type} {enc : α → PyData} {i : Nat} {tc : Envt → R Bool} {ev : Ev} {env : Envt} {b : α → Bool} {g : α → T} (hi : i < env.length) (ds0 : List PyData) : ∀ (xs : List α) (acc : List T), acc.length + xs.length ≤ sizeLine →
    (∀ x ∈ xs, tc (env.set i (some (.dat (enc x)))) = .ok (b x) (env.set i (some (.dat (enc x)))) ∧ (b x = true → ev (env.set i (some (.dat (enc x)))) = .ok (g x) (env.set i (some (.dat (enc x)))))) →
    evCompL (.fix ds0) (.one i) [i] tc ev (xs.map enc) acc (env.set i none) = .ok (acc ++ (xs.filter b).map g) (env.set i none)
  | [], acc, _, _ => by simp [evCompL, Src.stillB]
  | x :: xs, acc, hl, h => by
    obtain ⟨h1, h2⟩ := h x List.mem_cons_self
    rw [List.length_cons] at hl
    have ss : (env.set i none).set i (some (T.dat (enc x))) = env.set i (some (T.dat (enc x))) := List.set_set _
    have sn : (env.set i (some (T.dat (enc x)))).set i none = env.set i none := List.set_set _
    rw [List.map_cons, evCompL]
    simp only [Src.stillB, if_true, setTg, List.length_set, hi, ss, h1, nox_ok]
    by_cases c : b x = true
    · rw [if_pos c, h2 c]
      simp only [nox_ok]
      rw [if_pos (by omega), hide_one, sn]
      have := compL_n hi ds0 xs (acc ++ [g x]) (by rw [List.length_append]; simp; omega) fun e he => h e (List.mem_cons_of_mem _ he)
      rw [this, List.filter_cons_of_pos c, List.map_cons, List.append_assoc]
      rfl
    · rw [if_neg c, hide_one, sn, compL_n hi ds0 xs acc (by omega) fun e he => h e (List.mem_cons_of_mem _ he), List.filter_cons_of_neg c]
/-- [g x for x in xs if b x], g x a tree -/
theorem comp_n {α : Type} (enc : α → PyData) {si : Envt → R Src} {i : Nat} {tc : Envt → R Bool} {ev : Ev} {env0 env : Envt} (xs : List α) (b : α → Bool) (g : α → T) (hs : si env0 = .ok (.fix (xs.map enc)) env) (hi : i < env.length) (hl : xs.length ≤ sizeLine)
    (h : ∀ x ∈ xs, tc (env.set i (some (.dat (enc x)))) = .ok (b x) (env.set i (some (.dat (enc x)))) ∧ (b x = true → ev (env.set i (some (.dat (enc x)))) = .ok (g x) (env.set i (some (.dat (enc x)))))) :
    evComp si (.one i) [i] tc ev env0 = .ok (.node .lst ((xs.filter b).map g)) env := by
  unfold evComp
  rw [hs]
  simp only [bind_ok, Src.apart, if_true, Src.items, hide_one]
  have q := compL_n (enc := enc) (b := b) (g := g) hi (xs.map enc) xs [] (by simp; exact hl) h
  rw [q]
  simp only [nox_ok, List.nil_append, back_cons, back_nil]
  rw [List.set_set, set_back env i hi]
/-! slices -/
theorem sli_both (ds : List PyData) (a b : Nat) (h : a + b ≤ ds.length) : sliT (.dat (.tuple ds)) (some (a : Int)) (some ((a : Int) + (b : Int))) = some (.dat (.tuple ((ds.drop a).take b))) := by
  show some (T.dat (.tuple (VR.cutD ds (some (a : Int)) (some ((a : Int) + (b : Int)))))) = _
  have q : (a : Int) + (b : Int) = ((a + b : Nat) : Int) := by omega
  unfold VR.cutD
  rw [q]
  simp only [HT.sIx_nat, Nat.min_eq_left h, Nat.min_eq_left (show a ≤ ds.length by omega)]
  rw [show a + b - a = b by omega]
theorem cut_first (ds : List PyData) (k : Nat) : VR.cutD ds none (some (k : Int)) = ds.take k := by
  unfold VR.cutD
  simp only [HT.sIx_none, HT.sIx_nat, List.drop_zero, Nat.sub_zero]
  rcases Nat.le_total k ds.length with z | z
  · rw [Nat.min_eq_left z]
  · rw [Nat.min_eq_right z, List.take_of_length_le z, List.take_length]
theorem cut_from (ds : List PyData) (k : Nat) : VR.cutD ds (some (k : Int)) none = ds.drop k := by
  unfold VR.cutD
  simp only [HT.sIx_none, HT.sIx_nat]
  rcases Nat.le_total k ds.length with z | z
  · rw [Nat.min_eq_left z, List.take_of_length_le (by rw [List.length_drop]; omega)]
  · rw [Nat.min_eq_right z, List.drop_eq_nil_of_le z, List.drop_length, List.take_nil]
theorem cut_butlast (ds : List PyData) : VR.cutD ds none (some (-1)) = ds.dropLast := by
  unfold VR.cutD
  have e : HT.sIx ds.length ds.length (some (-1)) = ds.length - 1 := by
    show (if (-1 : Int) < 0 then ((-1 : Int) + (ds.length : Int)).toNat else min (-1 : Int).toNat ds.length) = _
    rw [if_pos (by decide)]
    omega
  rw [e, HT.sIx_none, List.drop_zero, Nat.sub_zero, List.dropLast_eq_take]
theorem sli_seq {t : T} {ds : List PyData} (h : SeqA t false ds) (lo hi : Option Int) : sliT t lo hi = some (tl (VR.cutD ds lo hi)) := by
  rcases h with rfl | ⟨_, rfl⟩
  · rfl
  · show (match (tl ds).seq with
      | some (false, ds) => some (tl (VR.cutD ds lo hi))
      | some (true, ds) => some (.dat (.tuple (VR.cutD ds lo hi)))
      | none => none) = _
    rw [seq_tl]
theorem sli_tup (ds : List PyData) (lo hi : Option Int) : sliT (.dat (.tuple ds)) lo hi = some (.dat (.tuple (VR.cutD ds lo hi))) := rfl
theorem eq_self {d : PyData} (h : d.plain = true ∧ d.depth ≤ 38) : VR.eqT (.dat d) (.dat d) = some true := by
  have ok : okD d = true := by unfold okD; rw [h.1]; simp; omega
  show (if okD d && okD d then some (PyData.eqv d d) else none) = _
  rw [ok, PySem.SeqAt.eqv_refl_plain d h.1]
  rfl
theorem eq_boolT (a b : Bool) : VR.eqT (.dat (.bool a)) (.dat (.bool b)) = some (decide (a = b)) := eq_toD (α := Bool) (by decide) _ _ a b rfl rfl
theorem eq_lsts {α : Type} [DecidableEq α] [Datum α] (h : Datum.depth α ≤ 38) {t u : T} {xs ys : List α} (ht : t.frz = some (.list (xs.map Datum.toD))) (hu : u.frz = some (.list (ys.map Datum.toD))) : VR.eqT t u = some (decide (xs = ys)) := eq_toD (α := List α) (by show Datum.depth α + 1 ≤ 40; omega) _ _ xs ys ht hu
theorem SeqA.frz {t : T} {b : Bool} {ds : List PyData} (h : SeqA t b ds) : t.frz = some (seqD b ds) := by
  rcases h with rfl | ⟨rfl, rfl⟩
  · exact frz_dat _
  · exact frz_tl _
theorem SeqA.of_tl (ds : List PyData) : SeqA (tl ds) false ds := .inr ⟨rfl, rfl⟩
theorem SeqA.of_list (ds : List PyData) : SeqA (.dat (.list ds)) false ds := .inl rfl
theorem SeqA.of_tuple (ds : List PyData) : SeqA (.dat (.tuple ds)) true ds := .inl rfl
end VW

namespace VW
open PySem PySem.Spec PyProof.Rows L2 VR
open PySem.W (Datum DatumOrd T3 T4 Tup)
/-! GB: a dict of texts, its values lists of data (printed from M16, M19, M24). -/
abbrev BkG (α : Type) := List (Str × List α)
section
variable {α : Type} (en : α → PyData)
def bkT (bk : BkG α) : T := .node (.dct (bk.map fun q => .inl (.inr q.1)) false false) (bk.map fun q => tl (q.2.map en))
def lookG (bk : BkG α) (o : Str) : List α := match bk.find? fun q => decide (q.1 = o) with
  | some q => q.2
  | none => []
def putG (o : Str) (x : α) : BkG α → BkG α
  | [] => [(o, [x])]
  | q :: l => if q.1 = o then (q.1, q.2 ++ [x]) :: l else q :: putG o x l
def keysG (bk : BkG α) : List DK := bk.map fun q => .inl (.inr q.1)
def valsG (bk : BkG α) : List T := bk.map fun q => tl (q.2.map en)
theorem lsd_bkG (bk : BkG α) : lsdT (bkT en bk) = some (tl ((bk.map (·.1)).map PyData.str)) := by
  unfold lsdT
  have : ∀ l : BkG α, leftsD (l.map fun q => (Sum.inl (Sum.inr q.1) : DK)) = some ((l.map (·.1)).map PyData.str) := by
    intro l
    induction l with
    | nil => rfl
    | cons q l ih => simp only [List.map_cons, leftsD, ih]; rfl
  show (leftsD (bk.map fun q => (Sum.inl (Sum.inr q.1) : DK))).map tl = _
  rw [this]
  rfl
theorem idx_bkG (bk : BkG α) (o : Str) (h : o ∈ bk.map (·.1)) : idxT (bkT en bk) (.dat (.str o)) = some (tl ((lookG bk o).map en)) := by
  show ((some (PyData.str o)).bind fun d => (DK.of d).bind fun k => (ixK (bk.map fun q => (.inl (.inr q.1) : DK)) k).bind fun i => (bk.map fun q => tl (q.2.map en))[i]?) = _
  simp only [Option.bind_some, DK.of]
  induction bk with
  | nil => cases h
  | cons q l ih =>
    unfold ixK lookG
    rw [List.map_cons, List.findIdx?_cons, List.find?_cons]
    by_cases c : q.1 = o
    · simp [c]
    · have c2 : ¬ ((Sum.inl (Sum.inr q.1) : DK) = Sum.inl (Sum.inr o)) := fun z => c (by injection z with z; injection z)
      have hm : o ∈ l.map (·.1) := by
        rcases List.mem_cons.mp h with z | z
        · exact absurd z.symm c
        · exact z
      have ih' := ih hm
      unfold ixK lookG at ih'
      simp only [c, c2, decide_false, Bool.false_eq_true, if_false] at ih' ⊢
      rw [Option.bind_map]
      simpa [Function.comp_def] using ih'
theorem putG_none (o : Str) (x : α) : ∀ bk : BkG α, ixK (keysG bk) (.inl (.inr o)) = none → keysG (putG o x bk) = keysG bk ++ [.inl (.inr o)] ∧ valsG en (putG o x bk) = valsG en bk ++ [T.node .lst [.dat (en x)]] ∧ lookG bk o = []
  | [], _ => ⟨rfl, rfl, rfl⟩
  | q :: l, h => by
    unfold ixK keysG at h
    rw [List.map_cons, List.findIdx?_cons] at h
    by_cases c : q.1 = o
    · simp [c] at h
    · have c2 : ¬ ((Sum.inl (Sum.inr q.1) : DK) = Sum.inl (Sum.inr o)) := fun z => c (by injection z with z; injection z)
      simp only [c2, decide_false, Bool.false_eq_true, if_false, Option.map_eq_none_iff] at h
      obtain ⟨h1, h2, h3⟩ := putG_none o x l h
      unfold putG
      rw [if_neg c]
      refine ⟨by unfold keysG at h1 ⊢; rw [List.map_cons, h1, List.map_cons]; rfl, by unfold valsG at h2 ⊢; rw [List.map_cons, h2, List.map_cons]; rfl, ?_⟩
      unfold lookG at h3 ⊢
      rw [List.find?_cons]
      simp only [c, decide_false]
      exact h3
theorem putG_some (o : Str) (x : α) : ∀ (bk : BkG α) (j : Nat), ixK (keysG bk) (.inl (.inr o)) = some j → keysG (putG o x bk) = keysG bk ∧ (valsG en bk)[j]? = some (tl ((lookG bk o).map en)) ∧ valsG en (putG o x bk) = (valsG en bk).set j (tl (((lookG bk o) ++ [x]).map en))
  | [], j, h => by cases h
  | q :: l, j, h => by
    unfold ixK keysG at h
    rw [List.map_cons, List.findIdx?_cons] at h
    by_cases c : q.1 = o
    · simp [c] at h
      subst h
      unfold putG lookG
      rw [if_pos c, List.find?_cons]
      simp [c, keysG, valsG]
    · have c2 : ¬ ((Sum.inl (Sum.inr q.1) : DK) = Sum.inl (Sum.inr o)) := fun z => c (by injection z with z; injection z)
      simp only [c2, decide_false, Bool.false_eq_true, if_false, Option.map_eq_some_iff] at h
      obtain ⟨i, hi, rfl⟩ := h
      obtain ⟨h1, h2, h3⟩ := putG_some o x l i hi
      have hlk : lookG (q :: l) o = lookG l o := by
        unfold lookG
        rw [List.find?_cons]
        simp only [c, decide_false]
      unfold putG
      rw [if_neg c, hlk]
      refine ⟨by unfold keysG at h1 ⊢; rw [List.map_cons, h1, List.map_cons], ?_, ?_⟩
      · unfold valsG at h2 ⊢
        rw [List.map_cons, List.getElem?_cons_succ]
        exact h2
      · unfold valsG at h3 ⊢
        rw [List.map_cons, h3, List.map_cons, List.set_cons_succ]
theorem lookG_put (o o2 : Str) (x : α) : ∀ bk : BkG α, lookG (putG o x bk) o2 = if o2 = o then lookG bk o ++ [x] else lookG bk o2
  | [] => by
    unfold putG lookG
    by_cases c : o = o2
    · subst c; simp
    · have c' : ¬ o2 = o := fun z => c z.symm
      simp [c, c']
  | q :: l => by
    have ih := lookG_put o o2 x l
    unfold putG
    by_cases c : q.1 = o
    · rw [if_pos c]
      unfold lookG
      simp only [List.find?_cons]
      by_cases d : o2 = o
      · subst d; simp [c]
      · have d' : ¬ q.1 = o2 := fun z => d (by rw [← z, c])
        simp [d, d']
    · rw [if_neg c]
      unfold lookG at ih ⊢
      simp only [List.find?_cons]
      by_cases d : q.1 = o2
      · have e : ¬ o2 = o := fun z => c (by rw [d, z])
        simp [d, e]
      · simp only [d, c, decide_false]
        exact ih
theorem sda_bkG {i0 : Nat} {env : Envt} {ek ev : Ev} {bk : BkG α} {o : Str} {x : α} (h2 : env[i0]? = some (some (bkT en bk))) (hk : ek env = .ok (.dat (.str o)) env) (hv : ev (env.set i0 none) = .ok (.dat (en x)) (env.set i0 none)) (hl : bk.length < 1000000) (hs : (lookG bk o).length < 1000000) : evSda i0 ek ev env = .ok (.dat .none) (env.set i0 (some (bkT en (putG o x bk)))) := by
  have h2' : env[i0]? = some (some (.node (.dct (keysG bk) false false) (valsG en bk))) := h2
  have hlen : i0 < env.length := (List.getElem?_eq_some_iff.mp h2).1
  have hb : bkT en (putG o x bk) = .node (.dct (keysG (putG o x bk)) false false) (valsG en (putG o x bk)) := rfl
  have hvl : (valsG en bk).length < 1000000 := by unfold valsG; rw [List.length_map]; exact hl
  unfold evSda
  rw [h2']
  simp only [hk, bind_ok, h2', frz_dat, Option.bind_some, DK.of, hvl, if_true]
  rw [hb]
  cases q : ixK (keysG bk) (.inl (.inr o)) with
  | none =>
    obtain ⟨e1, e2, _⟩ := putG_none en o x bk q
    simp only [hv, bind_ok, List.length_set, hlen, if_true, List.set_set]
    rw [e1, e2]
  | some j =>
    obtain ⟨e1, e2, e3⟩ := putG_some en o x bk j q
    have e2' : (valsG en bk)[j]? = some (.node .lst (((lookG bk o).map en).map T.dat)) := e2
    have hz : (((lookG bk o).map en).map T.dat).length < sizeLine ∧ i0 < env.length := ⟨by rw [List.length_map, List.length_map, sizeLine_eq]; omega, hlen⟩
    simp only [e2', hv, bind_ok, List.length_set]
    rw [if_pos hz, List.set_set, e1, e3]
    simp [tl]
theorem putG_keys (o : Str) (x : α) : ∀ (bk : BkG α) (k : Str), k ∈ (putG o x bk).map (·.1) ↔ k = o ∨ k ∈ bk.map (·.1)
  | [], k => by simp [putG]
  | q :: l, k => by
    have ih := putG_keys o x l k
    unfold putG
    by_cases c : q.1 = o
    · rw [if_pos c]
      simp only [List.map_cons, List.mem_cons]
      constructor
      · exact .inr
      · rintro (z | z)
        · exact .inl (by rw [z, c])
        · exact z
    · rw [if_neg c]
      simp only [List.map_cons, List.mem_cons]
      rw [ih]
      constructor
      · rintro (z | z | z)
        · exact .inr (.inl z)
        · exact .inl z
        · exact .inr (.inr z)
      · rintro (z | z | z)
        · exact .inr (.inl z)
        · exact .inl z
        · exact .inr (.inr z)
theorem putG_nodup (o : Str) (x : α) : ∀ bk : BkG α, (bk.map (·.1)).Nodup → ((putG o x bk).map (·.1)).Nodup
  | [], _ => by simp [putG]
  | q :: l, h => by
    rw [List.map_cons, List.nodup_cons] at h
    unfold putG
    by_cases c : q.1 = o
    · rw [if_pos c, List.map_cons, List.nodup_cons]
      exact h
    · rw [if_neg c, List.map_cons, List.nodup_cons]
      refine ⟨fun z => ?_, putG_nodup o x l h.2⟩
      rcases (putG_keys o x l q.1).mp z with e | e
      · exact c e
      · exact h.1 e

def grpG {β : Type} (f : β → Str) (g : β → α) (xs : List β) (bk : BkG α) : BkG α := xs.foldl (fun bk x => putG (f x) (g x) bk) bk
theorem grpG_nodup {β : Type} (f : β → Str) (g : β → α) : ∀ (xs : List β) (bk : BkG α), (bk.map (·.1)).Nodup → ((grpG f g xs bk).map (·.1)).Nodup
  | [], _, h => h
  | x :: xs, bk, h => grpG_nodup f g xs _ (putG_nodup (f x) (g x) bk h)
theorem grpG_look {β : Type} (f : β → Str) (g : β → α) (o : Str) : ∀ (xs : List β) (bk : BkG α), lookG (grpG f g xs bk) o = lookG bk o ++ (xs.filter fun x => decide (f x = o)).map g
  | [], bk => by simp [grpG]
  | x :: xs, bk => by
    have ih := grpG_look f g o xs (putG (f x) (g x) bk)
    have e : grpG f g (x :: xs) bk = grpG f g xs (putG (f x) (g x) bk) := rfl
    rw [e, ih, lookG_put]
    by_cases c : f x = o
    · rw [if_pos c.symm, List.filter_cons_of_pos (by simp [c]), List.map_cons, c, List.append_assoc]
      rfl
    · rw [if_neg (fun z => c z.symm), List.filter_cons_of_neg (by simp [c])]
theorem grpG_keys {β : Type} (f : β → Str) (g : β → α) (o : Str) : ∀ (xs : List β) (bk : BkG α), o ∈ (grpG f g xs bk).map (·.1) ↔ o ∈ bk.map (·.1) ∨ ∃ x ∈ xs, f x = o
  | [], bk => by simp [grpG]
  | x :: xs, bk => by
    have ih := grpG_keys f g o xs (putG (f x) (g x) bk)
    have e : grpG f g (x :: xs) bk = grpG f g xs (putG (f x) (g x) bk) := rfl
    rw [e, ih, putG_keys]
    constructor
    · rintro ((z | z) | ⟨y, hy, z⟩)
      · exact .inr ⟨x, List.mem_cons_self, z.symm⟩
      · exact .inl z
      · exact .inr ⟨y, List.mem_cons_of_mem _ hy, z⟩
    · rintro (z | ⟨y, hy, z⟩)
      · exact .inl (.inr z)
      · rcases List.mem_cons.mp hy with rfl | hy
        · exact .inl (.inl z.symm)
        · exact .inr ⟨y, hy, z⟩
theorem putG_len (o : Str) (x : α) : ∀ bk : BkG α, (putG o x bk).length ≤ bk.length + 1
  | [] => by simp [putG]
  | q :: l => by
    have := putG_len o x l
    unfold putG
    split <;> simp <;> omega
end
end VW

namespace VW
open PySem PySem.Spec PyProof.Rows L2 VR
open PySem.W (Datum DatumOrd T3 T4 Tup)
/-! GF: books of texts, frozen for good; got, put, sorted -/
theorem b1_ok {F : T → Option T} {ea : Ev} {env env' : Envt} {t r : T} (h : ea env = .ok t env') (hf : F t = some r) : evB1 F ea env = .ok r env' := by
  rw [evB1_ap, h, bind_ok, hf, lift_some]
theorem tup2 {ea eb : Ev} {env env1 env2 : Envt} {d e : PyData} (h1 : ea env = .ok (.dat d) env1) (h2 : eb env1 = .ok (.dat e) env2) : evTup (evCons ea (evCons eb evNil)) env = .ok (.dat (.tuple [d, e])) env2 := by
  have z2 : (2 : Nat) ≤ sizeLine := by decide
  rw [evTup_ap, evCons_ap, h1, bind_ok, evCons_ap, h2, bind_ok, evNil_ap, bind_ok, bind_ok, bind_ok]
  simp [z2]
theorem srt_ded_self {α : Type} [DecidableEq α] [DatumOrd α] {xs : List α} (h : Rise xs) : srt (ded xs) = xs := rise_eq (srt_rise (nodup_ded _)) h fun x => by rw [mem_srt, mem_ded]
section
variable {α : Type} (en : α → PyData)
def fdG (bk : BkG α) : T := .fdc (bk.map fun q => .inr q.1) (bk.map fun q => .list (q.2.map en))
theorem keysL_bkG (bk : BkG α) : keysL (keysG bk) = some (bk.map fun q => .inr q.1) := by
  induction bk with
  | nil => rfl
  | cons q l ih =>
    unfold keysG at ih ⊢
    rw [List.map_cons, keysL, ih]
    rfl
theorem frzA_bkG (bk : BkG α) : frzAll (valsG en bk) = some (bk.map fun q => .list (q.2.map en)) := by
  induction bk with
  | nil => unfold valsG; rw [List.map_nil, frzAll]; rfl
  | cons q l ih =>
    unfold valsG at ih ⊢
    rw [List.map_cons, frzAll, frz_tl, ih]
    rfl
theorem keyD_bk (bk : BkG α) : (bk.map fun q => (Sum.inr q.1 : Key)).map keyD = (bk.map (·.1)).map PyData.str := by
  rw [List.map_map, List.map_map]
  rfl
theorem keys_bkA {i : Nat} {env : Envt} {bk : BkG α} (h : env[i]? = some (some (bkT en bk))) : evKeys i env = .ok (.fix ((bk.map (·.1)).map PyData.str)) (env.set i (some (fdG en bk))) := by
  have h' : env[i]? = some (some (.node (.dct (keysG bk) false false) (valsG en bk))) := h
  unfold evKeys
  rw [h']
  simp only [keysL_bkG, frzA_bkG]
  rw [keyD_bk]
  rfl
theorem keys_fdA {i : Nat} {env : Envt} {bk : BkG α} (h : env[i]? = some (some (fdG en bk))) : evKeys i env = .ok (.fix ((bk.map (·.1)).map PyData.str)) env := by
  unfold evKeys
  rw [h]
  show R.ok (Src.fix ((bk.map fun q => (Sum.inr q.1 : Key)).map keyD)) env = _
  rw [keyD_bk]
theorem idx_fdG (bk : BkG α) (o : Str) (h : o ∈ bk.map (·.1)) : idxT (fdG en bk) (.dat (.str o)) = some (.dat (.list ((lookG bk o).map en))) := by
  show ((some (PyData.str o)).bind fun d => (DK.of d).bind fun k => (ixK ((bk.map fun q => (.inr q.1 : Key)).map fun k => (Sum.inl k : DK)) k).bind fun i => ((bk.map fun q => PyData.list (q.2.map en)).map T.dat)[i]?) = _
  rw [List.map_map, List.map_map]
  simp only [Option.bind_some, DK.of]
  induction bk with
  | nil => cases h
  | cons q l ih =>
    unfold ixK lookG
    rw [List.map_cons, List.findIdx?_cons, List.find?_cons]
    by_cases c : q.1 = o
    · simp [c]
    · have c2 : ¬ ((Sum.inl (Sum.inr q.1) : DK) = Sum.inl (Sum.inr o)) := fun z => c (by injection z with z; injection z)
      have hm : o ∈ l.map (·.1) := by
        rcases List.mem_cons.mp h with z | z
        · exact absurd z.symm c
        · exact z
      have ih' := ih hm
      unfold ixK lookG at ih'
      simp only [Function.comp, c, c2, decide_false, Bool.false_eq_true, if_false] at ih' ⊢
      rw [Option.bind_map]
      simpa [Function.comp_def] using ih'
theorem srd_bkG (bk : BkG α) (h : bk.length < 64) : srdT (bkT en bk) = some (tl ((srt (bk.map (·.1))).map PyData.str)) := by
  show (keysL (keysG bk)).bind srdL = _
  rw [keysL_bkG]
  simp only [Option.bind_some]
  have e : ∀ bk : BkG α, txtK (bk.map fun q => (Sum.inr q.1 : Key)) = some (bk.map (·.1)) := fun bk => by
    induction bk with
    | nil => rfl
    | cons q l ih =>
      rw [List.map_cons, txtK, ih]
      rfl
  unfold srdL
  rw [e]
  simp only [Option.bind_some]
  rw [if_pos (by rw [List.length_map]; exact h)]
  have q := sortD_map (α := Str) (bk.map (·.1))
  exact congrArg (fun l => some (tl l)) q
theorem get_bkG [Inhabited α] {i0 : Nat} {env : Envt} {ek ef : Ev} {bk : BkG α} {o : Str} (h0 : env[i0]? = some (some (bkT en bk))) (hk : ek env = .ok (.dat (.str o)) env) (hf : ef env = .ok (tl []) env) : evGet i0 ek ef env = .ok (tl ((lookG bk o).map en)) env := by
  have h0' : env[i0]? = some (some (.node (.dct (keysG bk) false false) (valsG en bk))) := h0
  unfold evGet
  rw [h0']
  simp only [hk, hf, bind_ok, h0', frz_dat, Option.bind_some, DK.of]
  cases q : ixK (keysG bk) (.inl (.inr o)) with
  | none =>
    obtain ⟨_, _, e⟩ := putG_none en o default bk q
    rw [e]
    rfl
  | some j =>
    obtain ⟨_, e, _⟩ := putG_some en o default bk j q
    simp only [e]
theorem put_bkG {i0 j0 : Nat} {env : Envt} {ev : Ev} {bk : BkG α} {o : Str} {x : α} (h0 : env[i0]? = some (some (bkT en bk))) (hj : env[j0]? = some (some (.dat (.str o)))) (hv : ev env = .ok (tl ((lookG bk o ++ [x]).map en)) env) (hl : bk.length < 1000000) : evPutK i0 j0 ev env = .next (env.set i0 (some (bkT en (putG o x bk)))) := by
  have h0' : env[i0]? = some (some (.node (.dct (keysG bk) false false) (valsG en bk))) := h0
  have hvl : (valsG en bk).length < 1000000 := by unfold valsG; rw [List.length_map]; exact hl
  have hb : bkT en (putG o x bk) = .node (.dct (keysG (putG o x bk)) false false) (valsG en (putG o x bk)) := rfl
  unfold evPutK
  rw [hv, hb]
  simp only [st_ok, h0', hj, DK.of, hvl, if_true]
  cases q : ixK (keysG bk) (.inl (.inr o)) with
  | none =>
    obtain ⟨e1, e2, e3⟩ := putG_none en o x bk q
    simp only
    rw [e1, e2, e3]
    rfl
  | some j =>
    obtain ⟨e1, _, e3⟩ := putG_some en o x bk j q
    simp only
    rw [e1, e3]
theorem grpG_len {β : Type} (f : β → Str) (g : β → α) : ∀ (xs : List β) (bk : BkG α), (grpG f g xs bk).length ≤ bk.length + xs.length
  | [], bk => Nat.le_refl _
  | x :: xs, bk => by
    have h1 := grpG_len f g xs (putG (f x) (g x) bk)
    have h2 := putG_len (f x) (g x) bk
    have e : grpG f g (x :: xs) bk = grpG f g xs (putG (f x) (g x) bk) := rfl
    rw [e, List.length_cons]
    omega
end
end VW

namespace VW
open PySem PySem.Spec PyProof.Rows L2 VR
-- in_order: 0 steps
def st_in_order_2 : Es := (evRet (evB1 ssT (evLoc 0)))
def st_in_order_1 : Es := (evDrop (evCall F_look_steps (arTmp (evTake 0) arNil)))
theorem nm_in_order : ev_in_order = (evSeq st_in_order_1
  (evSeq st_in_order_2
  (fun env => .next env))) := rfl
-- signs_at: 0 steps, 1 device, 2 step
def cp_signs_at_1 : Ev := (evComp (evFix (evTake 0)) (.one 2) [2] (bopT true (evTst (evCmp .Eq (ev2 (evIdx (ev2 (evLoc 2) (evC (.int 1)))) (evLoc 1)))) (evTst (evCmp .NotEq (ev2 (evIdx (ev2 (evLoc 2) (evC (.int 3)))) (evC (.str "")))))) (evTup (evCons (evLeaf (evIdx (ev2 (evLoc 2) (evC (.int 0))))) (evCons (evLeaf (evIdx (ev2 (evLoc 2) (evC (.int 3))))) evNil))))
def st_signs_at_1 : Es := (evRet (evB1 sortedT cp_signs_at_1))
theorem nm_signs_at : ev_signs_at = (evSeq st_signs_at_1
  (fun env => .next env)) := rfl
-- owner_in: 0 steps, 1 step, 2 signs, 3 ahead, 4 sign
def st_owner_in_5 : Es := (evRet (evIte (evTst (evCmp .NotEq (ev2 (evLoc 2) (evLst evNil)))) (evLeaf (evIdx (ev2 (evIdx (ev2 (evLoc 2) (evC (.int 0)))) (evC (.int 1))))) (evBin .Add (ev2 (evC (.str ".")) (evIdx (ev2 (evLoc 1) (evC (.int 1))))))))
def st_owner_in_4 : Es := (evIf (evTst (evCmp .NotEq (ev2 (evLoc 3) (evLst evNil)))) (evSeq (evRet (evLeaf (evIdx (ev2 (evIdx (ev2 (evLoc 3) (evC (.int (-1))))) (evC (.int 1))))))
  (fun env => .next env)) (fun env => .next env))
def cp_owner_in_1 : Ev := (evComp (evFix (evTake 2)) (.one 4) [4] (evTst (evCmp .LtE (ev2 (evIdx (ev2 (evLoc 4) (evC (.int 0)))) (evIdx (ev2 (evLoc 1) (evC (.int 0))))))) (evTake 4))
def st_owner_in_3 : Es := (evSet 3 cp_owner_in_1)
def st_owner_in_2 : Es := (evSet 2 (evCall F_signs_at (arTmp (evTake 0) (arTmp (evLeaf (evIdx (ev2 (evLoc 1) (evC (.int 1))))) arNil))))
def st_owner_in_1 : Es := (evIf (evTst (evCmp .NotEq (ev2 (evIdx (ev2 (evLoc 1) (evC (.int 3)))) (evC (.str ""))))) (evSeq (evRet (evLeaf (evIdx (ev2 (evLoc 1) (evC (.int 3))))))
  (fun env => .next env)) (fun env => .next env))
theorem nm_owner_in : ev_owner_in = (evSeq st_owner_in_1
  (evSeq st_owner_in_2
  (evSeq st_owner_in_3
  (evSeq st_owner_in_4
  (evSeq st_owner_in_5
  (fun env => .next env)))))) := rfl
-- whose: 0 steps, 1 step
def st_whose_3 : Es := (evRet (evCall F_owner_in (arTmp (evTake 0) (arTmp (evTake 1) arNil))))
def st_whose_2 : Es := (evIf (bopT false (notT (evTst (evCall F_is_step (arTmp (evTake 1) arNil)))) (evTst (evCmp .NotIn (ev2 (evLoc 1) (evLoc 0))))) (evSeq (evRaise "NoStep")
  (fun env => .next env)) (fun env => .next env))
def st_whose_1 : Es := (evDrop (evCall F_look_steps (arTmp (evTake 0) arNil)))
theorem nm_whose : ev_whose = (evSeq st_whose_1
  (evSeq st_whose_2
  (evSeq st_whose_3
  (fun env => .next env)))) := rfl
-- owners: 0 steps, 1 step
def cp_owners_1 : Ev := (evComp (evFix (evTake 0)) (.one 1) [1] (fun env => .ok true env) (evCall F_owner_in (arTmp (evTake 0) (arTmp (evTake 1) arNil))))
def st_owners_2 : Es := (evRet (evB1 ssT cp_owners_1))
def st_owners_1 : Es := (evDrop (evCall F_look_steps (arTmp (evTake 0) arNil)))
theorem nm_owners : ev_owners = (evSeq st_owners_1
  (evSeq st_owners_2
  (fun env => .next env))) := rfl
-- devices_of: 0 steps, 1 owner, 2 step
def cp_devices_of_1 : Ev := (evComp (evFix (evTake 0)) (.one 2) [2] (evTst (evCmp .Eq (ev2 (evCall F_owner_in (arTmp (evTake 0) (arTmp (evTake 2) arNil))) (evLoc 1)))) (evLeaf (evIdx (ev2 (evLoc 2) (evC (.int 1))))))
def st_devices_of_2 : Es := (evRet (evB1 ssT cp_devices_of_1))
def st_devices_of_1 : Es := (evDrop (evCall F_look_steps (arTmp (evTake 0) arNil)))
theorem nm_devices_of : ev_devices_of = (evSeq st_devices_of_1
  (evSeq st_devices_of_2
  (fun env => .next env))) := rfl
-- shared: 0 steps, 1 book, 2 step, 3 device
def cp_shared_1 : Ev := (evComp (evKeys 1) (.one 3) [3] (evTst (evCmp .Gt (ev2 (evB1 lsT (evIdx (ev2 (evLoc 1) (evLoc 3)))) (evC (.int 1))))) (evTake 3))
def st_shared_5 : Es := (evRet (evB1 sortedT cp_shared_1))
def st_shared_4 : Es := (evDrop (evSda 1 (evIdx (ev2 (evLoc 2) (evC (.int 1)))) (evCall F_owner_in (arTmp (evTake 0) (arTmp (evTake 2) arNil)))))
def lb_shared_1 : Es := (evSeq st_shared_4
  (fun env => .next env))
def st_shared_3 : Es := (evForS (evFix (evTake 0)) 1 (.one 2) lb_shared_1)
def st_shared_2 : Es := (evSet 1 evDct)
def st_shared_1 : Es := (evDrop (evCall F_look_steps (arTmp (evTake 0) arNil)))
theorem nm_shared : ev_shared = (evSeq st_shared_1
  (evSeq st_shared_2
  (evSeq st_shared_3
  (evSeq st_shared_5
  (fun env => .next env))))) := rfl
-- is_late: 0 steps, 1 step, 2 signs
def st_is_late_2 : Es := (evRet (evBop true (evCmp .Eq (ev2 (evIdx (ev2 (evLoc 1) (evC (.int 3)))) (evC (.str "")))) (evBop true (evCmp .NotEq (ev2 (evLoc 2) (evLst evNil))) (evCmp .Gt (ev2 (evIdx (ev2 (evIdx (ev2 (evLoc 2) (evC (.int 0)))) (evC (.int 0)))) (evIdx (ev2 (evLoc 1) (evC (.int 0)))))))))
def st_is_late_1 : Es := (evSet 2 (evCall F_signs_at (arTmp (evTake 0) (arTmp (evLeaf (evIdx (ev2 (evLoc 1) (evC (.int 1))))) arNil))))
theorem nm_is_late : ev_is_late = (evSeq st_is_late_1
  (evSeq st_is_late_2
  (fun env => .next env))) := rfl
-- late: 0 steps, 1 step
def cp_late_1 : Ev := (evComp (evFix (evCall F_in_order (arTmp (evTake 0) arNil))) (.one 1) [1] (evTst (evCall F_is_late (arTmp (evTake 0) (arTmp (evTake 1) arNil)))) (evTake 1))
def st_late_1 : Es := (evRet cp_late_1)
theorem nm_late : ev_late = (evSeq st_late_1
  (fun env => .next env)) := rfl
-- law: 0 script, 1 rows, 2 other, 3 book, 4 step, 5 owner, 6 many, 7 due, 8 device, 9 count
def st_law_16 : Es := (evRet (evBop true (evCmp .Eq (ev2 (evCall F_shared (arTmp (evTake 1) arNil)) (evLoc 7))) (evBop true (evCmp .Eq (ev2 (evCall F_late (arTmp (evTake 1) arNil)) (evCall F_late (arTmp (evTake 2) arNil)))) (evCmp .Eq (ev2 (evCall F_late (arTmp (evTake 1) arNil)) (evCall F_in_order (arTmp (evCall F_late (arTmp (evTake 1) arNil)) arNil)))))))
def cp_law_3 : Ev := (evComp (evZipX (evCons (evTup (evCons (evC (.str "a")) (evCons (evC (.str "b")) (evCons (evC (.str "cd")) evNil)))) (evCons (evTake 6) evNil))) (.many [8, 9]) [8, 9] (evTst (evCmp .Gt (ev2 (evLoc 9) (evC (.int 1))))) (evTake 8))
def st_law_15 : Es := (evSet 7 cp_law_3)
def cp_law_2 : Ev := (evComp (evKeys 3) (.one 5) [5] (evTst (evCmp .In (ev2 (evLoc 8) (evIdx (ev2 (evLoc 3) (evLoc 5)))))) (evTake 5))
def cp_law_1 : Ev := (evComp (evFix (evTup (evCons (evC (.str "a")) (evCons (evC (.str "b")) (evCons (evC (.str "cd")) evNil))))) (.one 8) [8] (fun env => .ok true env) (evB1 lenT cp_law_2))
def st_law_14 : Es := (evSet 6 cp_law_1)
def st_law_13 : Es := (evIf (evTst (evCmp .NotEq (ev2 (evCall F_devices_of (arTmp (evTake 2) (arTmp (evTake 5) arNil))) (evB1 ssT (evGet 3 (evLoc 5) (evLst evNil)))))) (evSeq (evRet (evC (.bool false)))
  (fun env => .next env)) (fun env => .next env))
def lb_law_2 : Es := (evSeq st_law_13
  (fun env => .next env))
def st_law_12 : Es := (evForS (evFix (evBin .Add (ev2 (evCall F_owners (arTmp (evTake 1) arNil)) (evLst (evCons (evSli (evC (.str "nobody")) none (some (evC (.int 4)))) evNil))))) 1 (.one 5) lb_law_2)
def st_law_11 : Es := (evIf (evTst (evCmp .NotEq (ev2 (evB1 srdT (evLoc 3)) (evCall F_owners (arTmp (evTake 1) arNil))))) (evSeq (evRet (evC (.bool false)))
  (fun env => .next env)) (fun env => .next env))
def st_law_10 : Es := (evIf (evTst (evCmp .Gt (ev2 (evCmp .In (ev2S 4 (evCall F_late (arTmp (evTake 1) arNil)))) (evBop true (evCmp .Eq (ev2 (evIdx (ev2 (evLoc 4) (evC (.int 3)))) (evC (.str "")))) (evCmp .NotEq (ev2 (evSli (evLoc 5) none (some (evC (.int 1)))) (evC (.str ".")))))))) (evSeq (evRet (evC (.bool false)))
  (fun env => .next env)) (fun env => .next env))
def st_law_9 : Es := (evDrop (evSda 3 (evLoc 5) (evLeaf (evIdx (ev2 (evLoc 4) (evC (.int 1)))))))
def st_law_8 : Es := (evIf (bopT false (bopT true (evTst (evCmp .NotEq (ev2 (evIdx (ev2 (evLoc 4) (evC (.int 3)))) (evC (.str ""))))) (evTst (evCmp .NotEq (ev2 (evLoc 5) (evIdx (ev2 (evLoc 4) (evC (.int 3)))))))) (bopT true (evTst (evCmp .Eq (ev2 (evSli (evLoc 5) none (some (evC (.int 1)))) (evC (.str "."))))) (evTst (evCmp .NotEq (ev2 (evLoc 5) (evBin .Add (ev2 (evC (.str ".")) (evIdx (ev2 (evLoc 4) (evC (.int 1))))))))))) (evSeq (evRet (evC (.bool false)))
  (fun env => .next env)) (fun env => .next env))
def st_law_7 : Es := (evIf (bopT false (evTst (evCmp .NotEq (ev2 (evCall F_whose (arTmp (evB1 tupleT (evLoc 2)) (arTmp (evTake 4) arNil))) (evLoc 5)))) (evTst (evCmp .NotIn (ev2S 5 (evCall F_owners (arTmp (evTake 1) arNil)))))) (evSeq (evRet (evC (.bool false)))
  (fun env => .next env)) (fun env => .next env))
def st_law_6 : Es := (evSet 5 (evCall F_whose (arTmp (evTake 1) (arTmp (evTake 4) arNil))))
def lb_law_1 : Es := (evSeq st_law_6
  (evSeq st_law_7
  (evSeq st_law_8
  (evSeq st_law_9
  (evSeq st_law_10
  (fun env => .next env))))))
def st_law_5 : Es := (evForS (evFix (evCall F_in_order (arTmp (evTake 1) arNil))) 1 (.one 4) lb_law_1)
def st_law_4 : Es := (evSet 3 evDct)
def st_law_3 : Es := (evIf (bopT false (evTst (evCmp .NotEq (ev2 (evCall F_in_order (arTmp (evTake 1) arNil)) (evCall F_in_order (arTmp (evTake 2) arNil))))) (bopT false (evTst (evCmp .NotEq (ev2 (evCall F_in_order (arTmp (evTake 1) arNil)) (evB1 ssT (evLoc 1))))) (evTst (evCmp .NotEq (ev2 (evCall F_owners (arTmp (evTake 1) arNil)) (evCall F_owners (arTmp (evTake 2) arNil))))))) (evSeq (evRet (evC (.bool false)))
  (fun env => .next env)) (fun env => .next env))
def st_law_2 : Es := (evSet 2 (evCall F__law_turned (arTmp (evTake 0) (arTmp (evC (.int 200)) (arTmp (evTake 1) arNil)))))
def st_law_1 : Es := (evSet 1 (evCall F__law_rows (arTmp (evTake 0) (arTmp (evC (.int 10)) (arTmp (evC (.int 10)) arNil)))))
theorem nm_law : ev_law = (evSeq st_law_1
  (evSeq st_law_2
  (evSeq st_law_3
  (evSeq st_law_4
  (evSeq st_law_5
  (evSeq st_law_11
  (evSeq st_law_12
  (evSeq st_law_14
  (evSeq st_law_15
  (evSeq st_law_16
  (fun env => .next env))))))))))) := rfl
end VW

namespace VW
open PySem PySem.Spec PyProof.Rows L2 VR
open PySem.W (Datum DatumOrd T3 T4 Tup)
/-! k91: owners in any order -/
theorem signs_perm {ss ts : List Stp} (h : ss.Perm ts) (dev : Str) : signsM ss dev = signsM ts dev := srt_eq ((h.filter _).map _)
theorem owner_perm {ss ts : List Stp} (h : ss.Perm ts) (s : Stp) : ownerM ss s = ownerM ts s := by
  unfold ownerM
  rw [signs_perm h]
def ownAllM (ss : List Stp) : List Str := srt (ded (ss.map fun s => ownerM ss s))
theorem owners_eq1 (ss : List Stp) (hn : ss.length < 64) (hs : ∀ s ∈ ss, OkStp s) : F_owners [.dat (.list (ss.map sE))] = .ok (tl ((ownAllM ss).map PyData.str)) [.dat (.list (ss.map sE))] := by
  have hc : cp_owners_1 [some (.dat (.list (ss.map sE))), none] = .ok (tl ((ss.map fun s => ownerM ss s).map PyData.str)) [some (.dat (.list (ss.map sE))), none] := by
    unfold cp_owners_1
    have q := comp_t sE (si := evFix (evTake 0)) (i := 1) (tc := fun env => .ok true env) (ev := evCall F_owner_in (arTmp (evTake 0) (arTmp (evTake 1) arNil))) (env0 := [some (.dat (.list (ss.map sE))), none]) (env := [some (.dat (.list (ss.map sE))), none]) ss (fun _ => true) (fun s => .str (ownerM ss s)) (fix_list 0 _ _ rfl) (by simp) (by rw [sizeLine_eq]; omega) fun s hm => ⟨rfl, fun _ => by
      have ho := owner_in_eq ss s (by rw [sizeLine_eq]; omega) (hs s hm).2
      generalize ss.map sE = SS at ho ⊢
      generalize sE s = S1 at ho ⊢
      simp [ho]⟩
    rw [filter_true] at q
    rw [List.map_map]
    exact q
  have hss : ssT (tl ((ss.map fun s => ownerM ss s).map PyData.str)) = some (tl ((ownAllM ss).map PyData.str)) := ssT_map true false _ (ss.map fun s => ownerM ss s) (seq_tl _) (fun _ => rfl) (by rw [List.length_map]; show ss.length < scanBound; unfold scanBound; omega)
  unfold F_owners
  rw [nm_owners]
  refine (evFn_ap 2 1 _ _ ⟨rfl, by decide⟩).trans ?_
  have a1 : st_owners_1 [some (.dat (.list (ss.map sE))), none] = .next [some (.dat (.list (ss.map sE))), none] := by
    unfold st_owners_1
    refine drop_ok (t := .dat .none) ?_
    simp [look_ok hn hs]
  show SRs.fin 1 (evSeq _ _ [some (.dat (.list (ss.map sE))), none]) = _
  rw [seq_next a1]
  have a2 : st_owners_2 [some (.dat (.list (ss.map sE))), none] = .ret (tl ((ownAllM ss).map PyData.str)) [some (.dat (.list (ss.map sE))), none] := by
    unfold st_owners_2
    rw [evRet_ap, evB1_ap, hc, bind_ok, hss]
    rfl
  rw [seq_ret a2]
  rfl
end VW

namespace VW
open PySem PySem.Spec PyProof.Rows L2 VR
open PySem.W (Datum DatumOrd T3 T4 Tup)
theorem signs_at_eq_tup (ss : List Stp) (dev : Str) (hl : ss.length ≤ sizeLine) : F_signs_at [.dat (.tuple (ss.map sE)), .dat (.str dev)] = .ok (tl ((signsM ss dev).map gE)) [.dat (.tuple (ss.map sE)), .dat (.str dev)] := by
  unfold F_signs_at ev_signs_at
  refine (evFn_ap _ _ _ _ ⟨rfl, Nat.le_of_ble_eq_true rfl⟩).trans ?_
  have hc := comp_t sE (si := evFix (evTake 0)) (i := 2) (tc := bopT true (evTst (evCmp .Eq (ev2 (evIdx (ev2 (evLoc 2) (evC (.int 1)))) (evLoc 1)))) (evTst (evCmp .NotEq (ev2 (evIdx (ev2 (evLoc 2) (evC (.int 3)))) (evC (.str ""))))))
    (ev := evTup (evCons (evLeaf (evIdx (ev2 (evLoc 2) (evC (.int 0))))) (evCons (evLeaf (evIdx (ev2 (evLoc 2) (evC (.int 3))))) evNil))) (env := [some (.dat (.tuple (ss.map sE))), some (.dat (.str dev)), none]) ss
    (fun s => decide (s.b = dev) && !decide (s.d = ("" : Str))) (fun s => gE (s.a, s.d)) (fix_tuple 0 _ _ rfl) (by simp) hl fun s hs => by
      refine ⟨?_, fun _ => ?_⟩
      · by_cases h1 : s.b = dev
        · simp [sE, idxT, atI, ixN, h1]
        · simp [sE, idxT, atI, ixN, h1]
      · simp [sE, gE, idxT, atI, ixN]
        decide
  have hs : sortedT (tl ((ss.filter fun s => decide (s.b = dev) && !decide (s.d = ("" : Str))).map fun s => gE (s.a, s.d))) = some (tl ((signsM ss dev).map gE)) := by
    have q := sortedT_map ((ss.filter fun s => decide (s.b = dev) && !decide (s.d = ("" : Str))).map fun s => ((s.a, s.d) : Sgn))
    rw [List.map_map] at q
    exact q
  simp [fnEnv, hc, hs]
theorem owner_in_eq_tup (ss : List Stp) (s : Stp) (hl : ss.length ≤ sizeLine) (hb : s.b.length < 1000) : F_owner_in [.dat (.tuple (ss.map sE)), .dat (sE s)] = .ok (.dat (.str (ownerM ss s))) [.dat (.tuple (ss.map sE)), .dat (sE s)] := by
  unfold F_owner_in ev_owner_in
  refine (evFn_ap _ _ _ _ ⟨rfl, Nat.le_of_ble_eq_true rfl⟩).trans ?_
  by_cases h : s.d = ("" : Str)
  · have hc := comp_t gE (si := evFix (evTake 2)) (i := 4) (tc := evTst (evCmp .LtE (ev2 (evIdx (ev2 (evLoc 4) (evC (.int 0)))) (evIdx (ev2 (evLoc 1) (evC (.int 0)))))))
      (ev := evTake 4) (env0 := [some (.dat (.tuple (ss.map sE))), some (.dat (sE s)), some (tl ((signsM ss s.b).map gE)), none, none]) (signsM ss s.b)
      (fun g => decide (g.1 ≤ s.a)) gE (fix_tl 2 _ _ rfl) (by simp) (by
        unfold signsM srt
        rw [List.length_mergeSort, List.length_map]
        exact Nat.le_trans (List.length_filter_le _ _) hl) fun g hg => by simp
    have he := eq_nil (frz_tl (((signsM ss s.b).filter fun g => decide (g.1 ≤ s.a)).map gE)) (okD_list (α := Sgn) (by decide) _)
    have hd : VR.eqT (.dat (.list ((signsM ss s.b).map gE))) (.node .lst []) = some (decide ((signsM ss s.b).map gE = [])) := eq_nil rfl (okD_list (α := Sgn) (by decide) _)
    simp only [List.set_cons_succ, List.set_cons_zero] at hc
    have hz : (0 : Nat) ≤ sizeLine := Nat.zero_le _
    cases q : ((signsM ss s.b).filter fun g => decide (g.1 ≤ s.a)).getLast? with
    | some g =>
      have hne : ((signsM ss s.b).filter fun g => decide (g.1 ≤ s.a)) ≠ [] := fun z => by
        rw [z] at q
        cases q
      have hi := idx_tl (((signsM ss s.b).filter fun g => decide (g.1 ≤ s.a)).map gE) (-1)
      rw [atI_lastG _ gE g q] at hi
      have hne' : ¬ ((signsM ss s.b).filter fun g => decide (g.1 ≤ s.a)) = [] := hne
      simp [fnEnv, h, signs_at_eq_tup ss s.b hl, hc, he, hi, hne', ownerM, q]
    | none =>
      have hn : ((signsM ss s.b).filter fun g => decide (g.1 ≤ s.a)) = [] := List.getLast?_eq_none_iff.mp q
      rw [hn] at hc he
      cases q2 : signsM ss s.b with
      | nil =>
        rw [q2] at hc hd
        simp only [List.map_nil] at hc hd he
        have hb' : ("." : Str).length + s.b.length ≤ sizeLine := by
          have : ("." : Str).length = 1 := by decide
          rw [this, sizeLine_eq]
          omega
        simp [fnEnv, h, signs_at_eq_tup ss s.b hl, hc, he, hd, q2, ownerM, q, add_str, hb']
      | cons g gs =>
        rw [q2] at hc hd hn
        simp only [List.map_cons, List.map_nil] at hc hd he
        have hi : idxT (.dat (.list (gE g :: gs.map gE))) (.dat (.int 0)) = some (.dat (gE g)) := by simp [idxT, atI, ixN]
        simp [fnEnv, h, signs_at_eq_tup ss s.b hl, hc, he, hd, q2, ownerM, hn, hi]
  · simp [fnEnv, h, ownerM]
theorem look_tup {ss : List Stp} (hn : ss.length < 64) (hs : ∀ s ∈ ss, OkStp s) : F_look_steps [.dat (.tuple (ss.map sE))] = .ok (.dat .none) [.dat (.tuple (ss.map sE))] := look_steps_ok (b := true) (by rw [List.length_map, sizeLine_eq]; omega) fun d hd => by
  obtain ⟨s, h1, rfl⟩ := List.mem_map.mp hd
  exact is_step_ok (hs s h1).1
theorem whose_tup (ss : List Stp) (s : Stp) (hn : ss.length < 64) (hs : ∀ s ∈ ss, OkStp s) (hm : s ∈ ss) : F_whose [.dat (.tuple (ss.map sE)), .dat (sE s)] = .ok (.dat (.str (ownerM ss s))) [.dat (.tuple (ss.map sE)), .dat (sE s)] := by
  unfold F_whose ev_whose
  refine (evFn_ap _ _ _ _ ⟨rfl, Nat.le_of_ble_eq_true rfl⟩).trans ?_
  have hi : inT (.dat (sE s)) (.dat (.tuple (ss.map sE))) = some true := (in_tup (by decide) s ss).trans (by rw [decide_eq_true hm])
  have h1 : F_is_step [.dat (sE s)] = .ok (.dat (.bool true)) [.dat (sE s)] := is_step_ok (hs s hm).1
  have ho := owner_in_eq_tup ss s (by rw [sizeLine_eq]; omega) (hs s hm).2
  simp [fnEnv, look_tup hn hs, hi, h1, ho]
def devM (ss : List Stp) (o : Str) : List Str := srt (ded ((ss.filter fun s => decide (ownerM ss s = o)).map (·.b)))
theorem str_room (xs : List Str) (h : xs.length < 64) : ssT (tl (xs.map PyData.str)) = some (tl ((srt (ded xs)).map PyData.str)) := ssT_map true false _ xs (seq_tl _) (fun _ => rfl) (by show xs.length < scanBound; unfold scanBound; omega)
theorem devices_of_eq (ss : List Stp) (o : Str) (hn : ss.length < 64) (hs : ∀ s ∈ ss, OkStp s) : F_devices_of [.dat (.list (ss.map sE)), .dat (.str o)] = .ok (tl ((devM ss o).map PyData.str)) [.dat (.list (ss.map sE)), .dat (.str o)] := by
  have hc : cp_devices_of_1 [some (.dat (.list (ss.map sE))), some (.dat (.str o)), none] = .ok (tl (((ss.filter fun s => decide (ownerM ss s = o)).map (·.b)).map PyData.str)) [some (.dat (.list (ss.map sE))), some (.dat (.str o)), none] := by
    unfold cp_devices_of_1
    have q := comp_t sE (si := evFix (evTake 0)) (i := 2) (tc := (evTst (evCmp .Eq (ev2 (evCall F_owner_in (arTmp (evTake 0) (arTmp (evTake 2) arNil))) (evLoc 1))))) (ev := (evLeaf (evIdx (ev2 (evLoc 2) (evC (.int 1)))))) (env0 := [some (.dat (.list (ss.map sE))), some (.dat (.str o)), none]) (env := [some (.dat (.list (ss.map sE))), some (.dat (.str o)), none]) ss (fun s => decide (ownerM ss s = o)) (fun s => .str s.b) (fix_list 0 _ _ rfl) (by simp) (by rw [sizeLine_eq]; omega) fun s hm => ⟨by
      have ho := owner_in_eq ss s (by rw [sizeLine_eq]; omega) (hs s hm).2
      generalize ss.map sE = SS at ho ⊢
      generalize sE s = S1 at ho ⊢
      simp [ho], fun _ => by simp⟩
    rw [List.map_map]
    exact q
  have hss := str_room ((ss.filter fun s => decide (ownerM ss s = o)).map (·.b)) (by rw [List.length_map]; have := List.length_filter_le (fun s => decide (ownerM ss s = o)) ss; omega)
  unfold F_devices_of
  rw [nm_devices_of]
  refine (evFn_ap 3 2 _ _ ⟨rfl, by decide⟩).trans ?_
  have a1 : st_devices_of_1 [some (.dat (.list (ss.map sE))), some (.dat (.str o)), none] = .next [some (.dat (.list (ss.map sE))), some (.dat (.str o)), none] := by
    unfold st_devices_of_1
    refine drop_ok (t := .dat .none) ?_
    simp [look_ok hn hs]
  show SRs.fin 2 (evSeq _ _ [some (.dat (.list (ss.map sE))), some (.dat (.str o)), none]) = _
  rw [seq_next a1]
  have a2 : st_devices_of_2 [some (.dat (.list (ss.map sE))), some (.dat (.str o)), none] = .ret (tl ((devM ss o).map PyData.str)) [some (.dat (.list (ss.map sE))), some (.dat (.str o)), none] := by
    unfold st_devices_of_2
    rw [evRet_ap, evB1_ap, hc, bind_ok, hss]
    rfl
  rw [seq_ret a2]
  rfl
def lateM (ss : List Stp) (s : Stp) : Bool := decide (s.d = ("" : Str)) && match (signsM ss s.b).head? with
  | some g => decide (s.a < g.1)
  | none => false
theorem is_late_eq (ss : List Stp) (s : Stp) (hl : ss.length ≤ sizeLine) : F_is_late [.dat (.list (ss.map sE)), .dat (sE s)] = .ok (.dat (.bool (lateM ss s))) [.dat (.list (ss.map sE)), .dat (sE s)] := by
  have hg := signs_at_eq ss s.b hl
  have hd : VR.eqT (tl ((signsM ss s.b).map gE)) (.node .lst []) = some (decide ((signsM ss s.b).map gE = [])) := eq_nil (frz_tl _) (okD_list (α := Sgn) (by decide) _)
  have hi := idx_tl ((signsM ss s.b).map gE) 0
  unfold F_is_late ev_is_late
  refine (evFn_ap _ _ _ _ ⟨rfl, Nat.le_of_ble_eq_true rfl⟩).trans ?_
  unfold lateM
  by_cases h : s.d = ("" : Str)
  · cases q : signsM ss s.b with
    | nil =>
      rw [q] at hg hd
      simp only [List.map_nil] at hg hd
      simp [fnEnv, hg, hd, h]
    | cons g gs =>
      rw [q] at hg hd hi
      simp only [List.map_cons] at hg hd hi
      have hi' : idxT (tl (gE g :: gs.map gE)) (.dat (.int 0)) = some (.dat (gE g)) := by rw [hi]; simp [atI, ixN]
      simp [fnEnv, hg, hd, hi', h]
  · simp [fnEnv, hg, h]
theorem late_eq (ss : List Stp) (hn : ss.length < 64) (hs : ∀ s ∈ ss, OkStp s) : F_late [.dat (.list (ss.map sE))] = .ok (tl (((srt (ded ss)).filter (lateM ss)).map sE)) [.dat (.list (ss.map sE))] := by
  have hsrc : evFix (evCall F_in_order (arTmp (evTake 0) arNil)) [some (.dat (.list (ss.map sE))), none] = .ok (.fix ((srt (ded ss)).map sE)) [some (.dat (.list (ss.map sE))), none] := by
    refine fix_ok (t := tl ((srt (ded ss)).map sE)) ?_ (fixOf_tl _)
    simp [in_order_eq ss hn hs]
  have hc := comp_t sE (si := evFix (evCall F_in_order (arTmp (evTake 0) arNil))) (i := 1) (tc := evTst (evCall F_is_late (arTmp (evTake 0) (arTmp (evTake 1) arNil)))) (ev := evTake 1) (env0 := [some (.dat (.list (ss.map sE))), none]) (env := [some (.dat (.list (ss.map sE))), none]) (srt (ded ss)) (lateM ss) sE hsrc (by simp) (by rw [srt_len, sizeLine_eq]; have := ded_len ss; omega) fun s hm => ⟨by
      have ho := is_late_eq ss s (by rw [sizeLine_eq]; omega)
      generalize ss.map sE = SS at ho ⊢
      generalize sE s = S1 at ho ⊢
      simp [ho], fun _ => by simp⟩
  unfold F_late
  rw [nm_late]
  refine (evFn_ap 2 1 _ _ ⟨rfl, by decide⟩).trans ?_
  show SRs.fin 1 (evSeq _ _ [some (.dat (.list (ss.map sE))), none]) = _
  have a2 : st_late_1 [some (.dat (.list (ss.map sE))), none] = .ret (tl (((srt (ded ss)).filter (lateM ss)).map sE)) [some (.dat (.list (ss.map sE))), none] := by
    unfold st_late_1 cp_late_1
    rw [evRet_ap, hc]
    rfl
  rw [seq_ret a2]
  rfl
end VW

namespace VW
open PySem PySem.Spec PyProof.Rows L2 VR
open PySem.W (Datum DatumOrd T3 T4 Tup)
/-! k91: shared -/
theorem lsT_map {α : Type} [DecidableEq α] [Datum α] (sc : Bool) (b : Bool) (t : T) (xs : List α) (ht : t.seq = some (b, xs.map Datum.toD)) (hk : ∀ x : α, setOk1 sc (Datum.toD x) = true) (hl : xs.length < setRoom sc) : lsT t = some (.dat (.int (ded xs).length)) := by
  unfold lsT
  rw [ht]
  have h1 : setOk sc (xs.map Datum.toD) = true := by
    unfold setOk
    rw [Bool.and_eq_true, decide_eq_true_eq, List.length_map, List.all_eq_true]
    refine ⟨fun d hd => ?_, hl⟩
    obtain ⟨x, _, rfl⟩ := List.mem_map.mp hd
    exact hk x
  have h2 : (setOk true (xs.map Datum.toD) || setOk false (xs.map Datum.toD)) = true := by
    rw [Bool.or_eq_true]
    cases sc
    · exact .inr h1
    · exact .inl h1
  simp only [h2, if_true, dedupD_map, List.length_map]
theorem zipD_map {α β : Type} (f : α → PyData) (g : β → PyData) : ∀ (xs : List α) (ys : List β), zipD (xs.map f) (ys.map g) = (xs.zip ys).map fun q => .tuple [f q.1, g q.2]
  | [], _ => rfl
  | _ :: _, [] => rfl
  | x :: xs, y :: ys => by
    have := zipD_map f g xs ys
    unfold zipD at this ⊢
    rw [List.map_cons, List.map_cons, List.zip_cons_cons, List.map_cons, List.zipWith_cons_cons, this]
abbrev Spn := Int × Int
instance : Srt Spn := ⟨.inl fun _ => rfl, by decide⟩
def bkS (ss xs : List Stp) (bk : BkG Str) : BkG Str := grpG (fun s : Stp => s.b) (ownerM ss) xs bk
theorem sh_loop (ss : List Stp) (hn : ss.length < 64) (hs : ∀ s ∈ ss, OkStp s) : ∃ x2, evFor (.fix (ss.map sE)) (.one 2) lb_shared_1 (ss.map sE) [some (.dat (.list (ss.map sE))), some (bkT PyData.str []), none, none] = .next [some (.dat (.list (ss.map sE))), some (bkT PyData.str (bkS ss ss [])), x2, none] := by
  obtain ⟨env2, h1, bk, x2, rfl, h2, _, _⟩ := for_one sE (i := 2) (body := lb_shared_1) (ss.map sE) (fun ys env => ∃ (bk : BkG Str) (x2 : Option T), env = [some (.dat (.list (ss.map sE))), some (bkT PyData.str bk), x2, none] ∧ bkS ss ys bk = bkS ss ss [] ∧ (bk.length + ys.length < 1000 ∧ ∀ o, (lookG bk o).length + ys.length < 1000) ∧ ∀ y ∈ ys, y ∈ ss) (fun ys env hp => by obtain ⟨_, _, rfl, _⟩ := hp; simp) (fun y ys env hp => by
    obtain ⟨bk, x2, rfl, e1, ⟨e2, e3⟩, e4⟩ := hp
    have hm := e4 y List.mem_cons_self
    have ho := owner_in_eq ss y (by rw [sizeLine_eq]; omega) (hs y hm).2
    rw [List.length_cons] at e2
    refine ⟨_, .inl ?_, putG y.b (ownerM ss y) bk, some (.dat (sE y)), rfl, e1, ⟨?_, fun o => ?_⟩, fun z hz => e4 z (List.mem_cons_of_mem _ hz)⟩
    · have a1 := sda_bkG PyData.str (i0 := 1) (env := [some (.dat (.list (ss.map sE))), some (bkT PyData.str bk), some (.dat (sE y)), none]) (ek := evIdx (ev2 (evLoc 2) (evC (.int 1)))) (ev := evCall F_owner_in (arTmp (evTake 0) (arTmp (evTake 2) arNil))) (bk := bk) (o := y.b) (x := ownerM ss y) rfl (by simp) (by
        generalize ss.map sE = SS at ho ⊢
        have hz := sE1 y
        generalize sE y = S1 at ho hz ⊢
        simp [ho]) (by omega) (by have := e3 y.b; omega)
      have a2 : st_shared_4 [some (.dat (.list (ss.map sE))), some (bkT PyData.str bk), some (.dat (sE y)), none] = .next [some (.dat (.list (ss.map sE))), some (bkT PyData.str (putG y.b (ownerM ss y) bk)), some (.dat (sE y)), none] := by
        unfold st_shared_4
        exact drop_ok a1
      show lb_shared_1 [some (.dat (.list (ss.map sE))), some (bkT PyData.str bk), some (.dat (sE y)), none] = _
      unfold lb_shared_1
      exact seq_next a2
    · have := putG_len y.b (ownerM ss y) bk
      omega
    · have := e3 o
      have h5 := e3 y.b
      rw [List.length_cons] at this h5
      rw [lookG_put]
      split
      · rw [List.length_append, List.length_singleton]
        omega
      · omega) ss [some (.dat (.list (ss.map sE))), some (bkT PyData.str []), none, none] ⟨[], none, rfl, rfl, ⟨by simp; omega, fun o => by simp [lookG]; omega⟩, fun y hy => hy⟩
  refine ⟨x2, ?_⟩
  rw [h1]
  have e : bkS ss [] bk = bk := rfl
  rw [← h2, e]
def manyS (ss : List Stp) (d : Str) : Nat := (ded ((ss.filter fun s => decide (s.b = d)).map (ownerM ss))).length
def sharedM (ss : List Stp) : List Str := srt (((bkS ss ss []).map (·.1)).filter fun d => decide (1 < manyS ss d))
theorem bkS_look (ss : List Stp) (d : Str) : lookG (bkS ss ss []) d = (ss.filter fun s => decide (s.b = d)).map (ownerM ss) := by
  unfold bkS
  rw [grpG_look]
  simp [lookG]
theorem shared_eq (ss : List Stp) (hn : ss.length < 64) (hs : ∀ s ∈ ss, OkStp s) : F_shared [.dat (.list (ss.map sE))] = .ok (tl ((sharedM ss).map PyData.str)) [.dat (.list (ss.map sE))] := by
  obtain ⟨x2, hl⟩ := sh_loop ss hn hs
  unfold F_shared
  rw [nm_shared]
  refine (evFn_ap 4 1 _ _ ⟨rfl, by decide⟩).trans ?_
  have a1 : st_shared_1 [some (.dat (.list (ss.map sE))), none, none, none] = .next [some (.dat (.list (ss.map sE))), none, none, none] := by
    unfold st_shared_1
    refine drop_ok (t := .dat .none) ?_
    simp [look_ok hn hs]
  show SRs.fin 1 (evSeq _ _ [some (.dat (.list (ss.map sE))), none, none, none]) = _
  have a2 : st_shared_2 [some (.dat (.list (ss.map sE))), none, none, none] = .next [some (.dat (.list (ss.map sE))), some (bkT PyData.str []), none, none] := by
    unfold st_shared_2
    exact set_ok (t := bkT PyData.str []) rfl (by simp)
  have a3 : st_shared_3 [some (.dat (.list (ss.map sE))), some (bkT PyData.str []), none, none] = .next [some (.dat (.list (ss.map sE))), some (bkT PyData.str (bkS ss ss [])), x2, none] := by
    unfold st_shared_3
    rw [forS_fix (fix_list 0 _ _ rfl)]
    exact hl
  have hc : cp_shared_1 [some (.dat (.list (ss.map sE))), some (bkT PyData.str (bkS ss ss [])), x2, none] = .ok (tl ((((bkS ss ss []).map (·.1)).filter fun d => decide (1 < manyS ss d)).map PyData.str)) [some (.dat (.list (ss.map sE))), some (fdG PyData.str (bkS ss ss [])), x2, none] := by
    unfold cp_shared_1
    have hbl := grpG_len (fun s : Stp => s.b) (ownerM ss) ss []
    have hk : evKeys 1 [some (.dat (.list (ss.map sE))), some (bkT PyData.str (bkS ss ss [])), x2, none] = .ok (.fix (((bkS ss ss []).map (·.1)).map PyData.str)) [some (.dat (.list (ss.map sE))), some (fdG PyData.str (bkS ss ss [])), x2, none] := keys_bkA PyData.str rfl
    refine comp_t PyData.str (si := evKeys 1) (i := 3) (tc := (evTst (evCmp .Gt (ev2 (evB1 lsT (evIdx (ev2 (evLoc 1) (evLoc 3)))) (evC (.int 1)))))) (ev := evTake 3) (env0 := [some (.dat (.list (ss.map sE))), some (bkT PyData.str (bkS ss ss [])), x2, none]) (env := [some (.dat (.list (ss.map sE))), some (fdG PyData.str (bkS ss ss [])), x2, none]) ((bkS ss ss []).map (·.1)) (fun d => decide (1 < manyS ss d)) PyData.str hk (by simp) (by rw [List.length_map, sizeLine_eq]; unfold bkS; simp at hbl; omega) fun d hd => ⟨?_, fun _ => by simp⟩
    have hi := idx_fdG PyData.str (bkS ss ss []) d hd
    rw [bkS_look] at hi
    have hz : lsT (.dat (.list (((ss.filter fun s => decide (s.b = d)).map (ownerM ss)).map PyData.str))) = some (.dat (.int (manyS ss d : Int))) := lsT_map (α := Str) true false _ _ rfl (fun _ => rfl) (by rw [List.length_map]; show _ < scanBound; unfold scanBound; have := List.length_filter_le (fun s : Stp => decide (s.b = d)) ss; omega)
    show evTst (evCmp .Gt (ev2 (evB1 lsT (evIdx (ev2 (evLoc 1) (evLoc 3)))) (evC (.int 1)))) [some (.dat (.list (ss.map sE))), some (fdG PyData.str (bkS ss ss [])), x2, some (.dat (.str d))] = _
    generalize fdG PyData.str (bkS ss ss []) = FD at hi ⊢
    generalize ((ss.filter fun s => decide (s.b = d)).map (ownerM ss)).map PyData.str = LL at hi hz
    generalize manyS ss d = m at hz ⊢
    have e9 : decide ((1 : Int) < (m : Int)) = decide (1 < m) := decide_eq_decide.mpr (by omega)
    simp [hi, hz, e9]
  have a4 : st_shared_5 [some (.dat (.list (ss.map sE))), some (bkT PyData.str (bkS ss ss [])), x2, none] = .ret (tl ((sharedM ss).map PyData.str)) [some (.dat (.list (ss.map sE))), some (fdG PyData.str (bkS ss ss [])), x2, none] := by
    unfold st_shared_5
    have q := sortedT_map (α := Str) (((bkS ss ss []).map (·.1)).filter fun d => decide (1 < manyS ss d))
    rw [evRet_ap, b1_ok hc q]
    rfl
  rw [seq_next a1, seq_next a2, seq_next a3, seq_ret a4]
  rfl
end VW

namespace VW
open PySem PySem.Spec PyProof.Rows L2 VR
open PySem.W (Datum DatumOrd T3 T4 Tup)
/-! k91, plain -/
theorem same_len {α : Type} [DecidableEq α] {xs ys : List α} (hx : xs.Nodup) (hy : ys.Nodup) (h : ∀ x, x ∈ xs ↔ x ∈ ys) : xs.length = ys.length := ((List.perm_ext_iff_of_nodup hx hy).mpr h).length_eq
theorem filter_rise {α : Type} [DecidableEq α] [DatumOrd α] {xs : List α} (h : Rise xs) (p : α → Bool) : Rise (xs.filter p) := List.Pairwise.filter p h
theorem ord_perm {ss ts : List Stp} (h : ss.Perm ts) : srt (ded ss) = srt (ded ts) := srt_ded_ext fun x => h.mem_iff
theorem ownAll_perm {ss ts : List Stp} (h : ss.Perm ts) : ownAllM ss = ownAllM ts := by
  unfold ownAllM
  refine srt_ded_ext fun x => ?_
  rw [List.mem_map, List.mem_map]
  constructor
  · rintro ⟨s, hs, rfl⟩
    exact ⟨s, h.mem_iff.mp hs, (owner_perm h s).symm⟩
  · rintro ⟨s, hs, rfl⟩
    exact ⟨s, h.mem_iff.mpr hs, owner_perm h s⟩
theorem late_perm {ss ts : List Stp} (h : ss.Perm ts) : (srt (ded ss)).filter (lateM ss) = (srt (ded ts)).filter (lateM ts) := by
  rw [ord_perm h]
  refine List.filter_congr fun s _ => ?_
  unfold lateM
  rw [signs_perm h]
def bkO (ss : List Stp) : BkG Str := grpG (ownerM ss) (fun s : Stp => s.b) (srt (ded ss)) []
theorem bkO_nodup (ss : List Stp) : ((bkO ss).map (·.1)).Nodup := grpG_nodup _ _ _ _ (by simp)
theorem bkO_keys (ss : List Stp) (o : Str) : o ∈ (bkO ss).map (·.1) ↔ ∃ s ∈ ss, ownerM ss s = o := by
  unfold bkO
  rw [grpG_keys]
  simp only [List.map_nil, List.not_mem_nil, false_or, mem_srt, mem_ded]
theorem bkO_look (ss : List Stp) (o d : Str) : d ∈ lookG (bkO ss) o ↔ ∃ s ∈ ss, ownerM ss s = o ∧ s.b = d := by
  unfold bkO
  rw [grpG_look]
  simp [lookG, mem_srt, mem_ded, and_assoc]
theorem bkO_own (ss : List Stp) : srt ((bkO ss).map (·.1)) = ownAllM ss := by
  refine rise_eq (srt_rise (bkO_nodup ss)) (srt_rise (nodup_ded _)) fun o => ?_
  unfold ownAllM
  rw [mem_srt, bkO_keys, mem_srt, mem_ded, List.mem_map]
theorem bkO_dev {ss ts : List Stp} (h : ss.Perm ts) (o : Str) : devM ts o = srt (ded (lookG (bkO ss) o)) := by
  unfold devM
  refine srt_ded_ext fun d => ?_
  rw [bkO_look, List.mem_map]
  constructor
  · rintro ⟨s, hs, rfl⟩
    obtain ⟨h1, h2⟩ := List.mem_filter.mp hs
    exact ⟨s, h.mem_iff.mpr h1, by rw [owner_perm h]; exact of_decide_eq_true h2, rfl⟩
  · rintro ⟨s, h1, h2, rfl⟩
    exact ⟨s, List.mem_filter.mpr ⟨h.mem_iff.mp h1, decide_eq_true (by rw [← owner_perm h]; exact h2)⟩, rfl⟩
def cntO (ss : List Stp) (d : Str) : Nat := (((bkO ss).map (·.1)).filter fun o => decide (d ∈ lookG (bkO ss) o)).length
theorem cntO_eq (ss : List Stp) (d : Str) : cntO ss d = manyS ss d := by
  unfold cntO manyS
  refine same_len ((bkO_nodup ss).filter _) (nodup_ded _) fun o => ?_
  rw [List.mem_filter, bkO_keys, decide_eq_true_eq, bkO_look, mem_ded, List.mem_map]
  constructor
  · rintro ⟨_, s, h1, h2, h3⟩
    exact ⟨s, List.mem_filter.mpr ⟨h1, decide_eq_true h3⟩, h2⟩
  · rintro ⟨s, h1, h2⟩
    obtain ⟨h3, h4⟩ := List.mem_filter.mp h1
    exact ⟨⟨s, h3, h2⟩, s, h3, h2, of_decide_eq_true h4⟩
theorem dev_rise : Rise (["a", "b", "cd"] : List Str) := by
  refine List.Pairwise.cons ?_ (List.Pairwise.cons ?_ (List.Pairwise.cons ?_ List.Pairwise.nil))
  · intro x hx
    simp at hx
    rcases hx with rfl | rfl <;> decide
  · intro x hx
    simp at hx
    subst hx
    decide
  · intro x hx
    cases hx
theorem shared_due (ss : List Stp) (h : ∀ s ∈ ss, RowOk s) : sharedM ss = (["a", "b", "cd"] : List Str).filter fun d => decide (1 < cntO ss d) := by
  unfold sharedM
  refine rise_eq (srt_rise ((grpG_nodup _ _ _ _ (by simp)).filter _)) (filter_rise dev_rise _) fun d => ?_
  rw [mem_srt, List.mem_filter, List.mem_filter, cntO_eq]
  refine ⟨fun z => ⟨?_, z.2⟩, fun z => ⟨?_, z.2⟩⟩
  · obtain ⟨z1, z2⟩ := z
    unfold bkS at z1
    rw [grpG_keys] at z1
    rcases z1 with q | ⟨s, h1, rfl⟩
    · simp at q
    · rcases (h s h1).2.1 with e | e | e <;> rw [e] <;> simp
  · obtain ⟨z1, z2⟩ := z
    unfold bkS
    rw [grpG_keys]
    refine .inr ?_
    cases q : (ss.filter fun s => decide (s.b = d)) with
    | nil =>
      unfold manyS at z2
      rw [q] at z2
      simp [ded] at z2
    | cons s l =>
      have : s ∈ ss.filter fun s => decide (s.b = d) := by rw [q]; exact List.mem_cons_self
      obtain ⟨h1, h2⟩ := List.mem_filter.mp this
      exact ⟨s, h1, of_decide_eq_true h2⟩
/-! the first letter of an owner -/
def dotOf (x : Str) : Option T := sliT (.dat (.str x)) none (some 1)
theorem dot_per {x : Str} (h : x = "kim" ∨ x = "al" ∨ x = "zoe") : ∃ y : Str, dotOf x = some (.dat (.str y)) ∧ y ≠ "." := by
  rcases h with rfl | rfl | rfl
  · exact ⟨"k", by kernel_rfl, by decide⟩
  · exact ⟨"a", by kernel_rfl, by decide⟩
  · exact ⟨"z", by kernel_rfl, by decide⟩
theorem dot_dev {x : Str} (h : x = "a" ∨ x = "b" ∨ x = "cd") : dotOf ("." ++ x) = some (.dat (.str ".")) := by
  rcases h with rfl | rfl | rfl <;> kernel_rfl
theorem signs_pers {ss : List Stp} (h : ∀ s ∈ ss, RowOk s) {d : Str} {g : Sgn} (hg : g ∈ signsM ss d) : g.2 = "kim" ∨ g.2 = "al" ∨ g.2 = "zoe" := by
  unfold signsM at hg
  rw [mem_srt] at hg
  obtain ⟨s, h1, rfl⟩ := List.mem_map.mp hg
  obtain ⟨h2, h3⟩ := List.mem_filter.mp h1
  simp at h3
  rcases (h s h2).2.2 with e | e | e | e
  · exact absurd e h3.2
  · exact .inl e
  · exact .inr (.inl e)
  · exact .inr (.inr e)
/-- an owner is a person, or the device of the step -/
theorem owner_kind {ss : List Stp} (h : ∀ s ∈ ss, RowOk s) {s : Stp} (hs : s ∈ ss) : (ownerM ss s = "kim" ∨ ownerM ss s = "al" ∨ ownerM ss s = "zoe") ∨ ownerM ss s = "." ++ s.b := by
  unfold ownerM
  by_cases c : s.d ≠ ""
  · rw [if_pos c]
    rcases (h s hs).2.2 with e | e | e | e
    · exact absurd e c
    · exact .inl (.inl e)
    · exact .inl (.inr (.inl e))
    · exact .inl (.inr (.inr e))
  · rw [if_neg c]
    split
    · rename_i g hg
      exact .inl (signs_pers h (List.mem_filter.mp (List.mem_of_getLast? hg)).1)
    · split
      · rename_i g hg
        exact .inl (signs_pers h (List.mem_of_head? hg))
      · exact .inr rfl
theorem owner_late {ss : List Stp} (h : ∀ s ∈ ss, RowOk s) {s : Stp} (hl : lateM ss s = true) : s.d = "" ∧ (ownerM ss s = "kim" ∨ ownerM ss s = "al" ∨ ownerM ss s = "zoe") := by
  unfold lateM at hl
  rw [Bool.and_eq_true, decide_eq_true_eq] at hl
  obtain ⟨h1, h2⟩ := hl
  refine ⟨h1, ?_⟩
  unfold ownerM
  rw [if_neg (by simp [h1])]
  split
  · rename_i g hg
    exact signs_pers h (List.mem_filter.mp (List.mem_of_getLast? hg)).1
  · split
    · rename_i g hg
      exact signs_pers h (List.mem_of_head? hg)
    · rename_i hg
      rw [hg] at h2
      cases h2
end VW

namespace VW
open PySem PySem.Spec PyProof.Rows L2 VR
open PySem.W (Datum DatumOrd T3 T4 Tup)
/-! k91: the law's statements -/
theorem and_ok {ea eb : Ev} {env env1 : Envt} (h : ea env = .ok (.dat (.bool true)) env1) : evBop true ea eb env = eb env1 := by
  rw [evBop_ap, h, bind_ok, bopK_bool, if_pos rfl]
theorem cmp_ok {o : CmpOp} {ea eb : Ev} {env env1 env2 : Envt} {t u : T} {b : Bool} (h1 : ea env = .ok t env1) (h2 : eb env1 = .ok u env2) (h : VR.cmpT o t u = some b) : evCmp o (ev2 ea eb) env = .ok (.dat (.bool b)) env2 := by
  rw [evCmp_ap, ev2_ap, h1, bind_ok, h2, bind_ok, bind_ok, h]
  rfl
theorem tst_ok {ea : Ev} {env env1 : Envt} {b : Bool} (h : ea env = .ok (.dat (.bool b)) env1) : evTst ea env = .ok b env1 := by
  rw [evTst_ap, h, bind_ok]
  rfl
theorem or_no {ta tb : Envt → R Bool} {env env1 : Envt} (h : ta env = .ok false env1) : bopT false ta tb env = tb env1 := by
  rw [bopT_ap, h, bind_ok]
  rfl
theorem in_tl {α : Type} [DecidableEq α] [Datum α] (h : Datum.depth α ≤ 38) (x : α) (xs : List α) : inT (.dat (Datum.toD x)) (tl (xs.map Datum.toD)) = some (decide (x ∈ xs)) := by
  have q := in_list h x xs
  have e : ∀ (d : PyData) (ds : List PyData), inT (.dat d) (tl ds) = inT (.dat d) (.dat (.list ds)) := fun d ds => by
    show ((tl ds).frz.bind fun ds => (T.dat d).frz.bind fun d => if okD ds && okD d then (match ds with
      | .list xs => some (xs.any fun y => PyData.eqv y d)
      | .tuple xs => some (xs.any fun y => PyData.eqv y d)
      | _ => none) else none) = _
    rw [frz_tl]
    rfl
  rw [e]
  exact q
abbrev lE (ns : List Int) (R O : T) (B s o m d : Option T) : Envt := [some (.dat (nsD ns)), some R, some O, B, s, o, m, d, none, none]
structure Kn (rows other : List Stp) : Prop where
  p : rows.Perm other
  n : rows.length < 64
  r : ∀ s ∈ rows, RowOk s
section
variable {rows other : List Stp} (k : Kn rows other) (ns : List Int)
theorem Kn.n2 (k : Kn rows other) : other.length < 64 := by rw [← k.p.length_eq]; exact k.n
theorem Kn.s (k : Kn rows other) : ∀ s ∈ rows, OkStp s := fun s h => (k.r s h).1
theorem Kn.s2 (k : Kn rows other) : ∀ s ∈ other, OkStp s := fun s h => k.s s (k.p.mem_iff.mpr h)
theorem call1 {F : List T → FR} {i : Nat} {env : Envt} {d : PyData} {t : T} (h : env[i]? = some (some (.dat d))) (hf : F [.dat d] = .ok t [.dat d]) : evCall F (arTmp (evTake i) arNil) env = .ok t env := by
  rw [evCall_ap, arTmp_ap, evTake_dat i _ d h, bind_ok, arNil_ap, bind_ok, bind_ok]
  show (if _ then callK F (some [.dat d]) _ _ else _) = _
  rw [if_pos (by simp), callK_some, hf, giv_ok]
  rfl
theorem call2 {F : List T → FR} {i j : Nat} {env : Envt} {d e : PyData} {t : T} (h : env[i]? = some (some (.dat d))) (h2 : env[j]? = some (some (.dat e))) (hf : F [.dat d, .dat e] = .ok t [.dat d, .dat e]) : evCall F (arTmp (evTake i) (arTmp (evTake j) arNil)) env = .ok t env := by
  rw [evCall_ap, arTmp_ap, evTake_dat i _ d h, bind_ok, arTmp_ap, evTake_dat j _ e h2, bind_ok, arNil_ap, bind_ok, bind_ok, bind_ok]
  show (if _ then callK F (some [.dat d, .dat e]) _ _ else _) = _
  rw [if_pos (by simp), callK_some, hf, giv_ok]
  rfl
theorem call1t {F : List T → FR} {i : Nat} {env : Envt} {ds : List PyData} {t : T} (h : env[i]? = some (some (tl ds))) (hf : F [.dat (.list ds)] = .ok t [.dat (.list ds)]) : evCall F (arTmp (evTake i) arNil) env = .ok t (env.set i (some (.dat (.list ds)))) := by
  rw [evCall_ap, arTmp_ap, evTake_tl i _ ds h, bind_ok, arNil_ap, bind_ok, bind_ok]
  show (if _ then callK F (some [.dat (.list ds)]) _ _ else _) = _
  rw [if_pos (by simp), callK_some, hf, giv_ok]
  rfl
theorem eq_stps (xs : List Stp) : VR.eqT (tl (xs.map sE)) (tl (xs.map sE)) = some true := (eq_toD (α := List Stp) (by decide) _ _ xs xs (frz_tl _) (frz_tl _)).trans (by rw [decide_eq_true rfl])
theorem eq_strs (xs : List Str) : VR.eqT (tl (xs.map PyData.str)) (tl (xs.map PyData.str)) = some true := (eq_toD (α := List Str) (by decide) _ _ xs xs (frz_tl _) (frz_tl _)).trans (by rw [decide_eq_true rfl])
theorem ne_of {t u : T} (h : VR.eqT t u = some true) : VR.cmpT .NotEq t u = some false := by
  rw [cmp_ne, h]
  rfl
abbrev dL (rows : List Stp) : T := .dat (.list (rows.map sE))
include k in
theorem s3_ok : st_law_3 (lE ns (dL rows) (tl (other.map sE)) none none none none none) = .next (lE ns (dL rows) (dL other) none none none none none) := by
  have i1 := in_order_eq rows k.n k.s
  have i2 := in_order_eq other k.n2 k.s2
  rw [← ord_perm k.p] at i2
  have o1 := owners_eq1 rows k.n k.s
  have o2 := owners_eq1 other k.n2 k.s2
  rw [← ownAll_perm k.p] at o2
  have hss : ssT (dL rows) = some (tl ((srt (ded rows)).map sE)) := ssT_map false false _ rows rfl step_key k.n
  unfold st_law_3
  have t1 := tst_ok (cmp_ok (o := .NotEq) (call1 (i := 1) (env := lE ns (dL rows) (tl (other.map sE)) none none none none none) rfl i1) (call1t (i := 2) (env := lE ns (dL rows) (tl (other.map sE)) none none none none none) rfl i2) (ne_of (eq_stps _)))
  have t2 := tst_ok (cmp_ok (o := .NotEq) (call1 (i := 1) (env := lE ns (dL rows) (dL other) none none none none none) rfl i1) (b1_ok (evLoc_some 1 (lE ns (dL rows) (dL other) none none none none none) _ rfl) hss) (ne_of (eq_stps _)))
  have t3 := tst_ok (cmp_ok (o := .NotEq) (call1 (i := 1) (env := lE ns (dL rows) (dL other) none none none none none) rfl o1) (call1 (i := 2) (env := lE ns (dL rows) (dL other) none none none none none) rfl o2) (ne_of (eq_strs _)))
  rw [if_ok ((or_no t1).trans ((or_no t2).trans t3))]
  rfl
include k in
theorem s6_ok (B o : Option T) {s : Stp} (hs : s ∈ rows) : st_law_6 (lE ns (dL rows) (dL other) B (some (.dat (sE s))) o none none) = .next (lE ns (dL rows) (dL other) B (some (.dat (sE s))) (some (.dat (.str (ownerM rows s)))) none none) := by
  unfold st_law_6
  exact set_ok (call2 (i := 1) (j := 4) rfl rfl (whose_eq rows s k.n k.s hs)) (by simp)
theorem call2g {F : List T → FR} {ea : Ev} {j : Nat} {env : Envt} {d e : PyData} {t : T} (h : ea env = .ok (.dat d) env) (h2 : env[j]? = some (some (.dat e))) (hf : F [.dat d, .dat e] = .ok t [.dat d, .dat e]) : evCall F (arTmp ea (arTmp (evTake j) arNil)) env = .ok t env := by
  rw [evCall_ap, arTmp_ap, h, bind_ok, arTmp_ap, evTake_dat j _ e h2, bind_ok, arNil_ap, bind_ok, bind_ok, bind_ok]
  show (if _ then callK F (some [.dat d, .dat e]) _ _ else _) = _
  rw [if_pos (by simp), callK_some, hf, giv_ok]
  rfl
theorem cmpS_ok {o : CmpOp} {eb : Ev} {i : Nat} {env : Envt} {t u : T} {b : Bool} (h1 : env[i]? = some (some t)) (h2 : eb env = .ok u env) (h : VR.cmpT o t u = some b) : evCmp o (ev2S i eb) env = .ok (.dat (.bool b)) env := by
  rw [evCmp_ap, ev2S_ap i eb env t h1, h2, bind_ok, ev2SK_some i u env t h1, bind_ok, h]
  rfl
include k in
theorem s7_ok (B : Option T) {s : Stp} (hs : s ∈ rows) : st_law_7 (lE ns (dL rows) (dL other) B (some (.dat (sE s))) (some (.dat (.str (ownerM rows s)))) none none) = .next (lE ns (dL rows) (dL other) B (some (.dat (sE s))) (some (.dat (.str (ownerM rows s)))) none none) := by
  have w := whose_tup other s k.n2 k.s2 (k.p.mem_iff.mp hs)
  rw [← owner_perm k.p] at w
  have o1 := owners_eq1 rows k.n k.s
  have hm : inT (.dat (.str (ownerM rows s))) (tl ((ownAllM rows).map PyData.str)) = some true := (in_tl (α := Str) (by decide) (ownerM rows s) (ownAllM rows)).trans (by
    rw [decide_eq_true]
    unfold ownAllM
    rw [mem_srt, mem_ded]
    exact List.mem_map_of_mem hs)
  unfold st_law_7
  have t1 := tst_ok (cmp_ok (o := .NotEq) (call2g (ea := evB1 tupleT (evLoc 2)) (j := 4) (env := lE ns (dL rows) (dL other) B (some (.dat (sE s))) (some (.dat (.str (ownerM rows s)))) none none) (b1_ok (evLoc_some 2 _ (dL other) rfl) rfl) rfl w) (evLoc_some 5 (lE ns (dL rows) (dL other) B (some (.dat (sE s))) (some (.dat (.str (ownerM rows s)))) none none) _ rfl) (ne_of (by rw [VR.eq_str, decide_eq_true rfl])))
  have t2 := tst_ok (cmpS_ok (o := .NotIn) (i := 5) (t := .dat (.str (ownerM rows s))) (b := false) (env := lE ns (dL rows) (dL other) B (some (.dat (sE s))) (some (.dat (.str (ownerM rows s)))) none none) rfl (call1 (i := 1) rfl o1) (by rw [cmp_notin, hm]; rfl))
  rw [if_ok ((or_no t1).trans t2)]
  rfl
include k in
theorem s8_ok (B : Option T) {s : Stp} (hs : s ∈ rows) : st_law_8 (lE ns (dL rows) (dL other) B (some (.dat (sE s))) (some (.dat (.str (ownerM rows s)))) none none) = .next (lE ns (dL rows) (dL other) B (some (.dat (sE s))) (some (.dat (.str (ownerM rows s)))) none none) := by
  have hd : s.d ≠ "" → ownerM rows s = s.d := fun z => by unfold ownerM; rw [if_pos z]
  have hb : ("." : Str).length + s.b.length ≤ sizeLine := by
    have : ("." : Str).length = 1 := by decide
    have := (k.s s hs).2
    rw [sizeLine_eq]
    omega
  have ha := add_str "." s.b
  rw [if_pos hb] at ha
  have hdot : ∃ y : Str, sliT (.dat (.str (ownerM rows s))) none (some 1) = some (.dat (.str y)) ∧ (y = "." → ownerM rows s = "." ++ s.b) := by
    rcases owner_kind k.r hs with z | z
    · obtain ⟨y, h1, h2⟩ := dot_per z
      exact ⟨y, h1, fun e => absurd e h2⟩
    · exact ⟨".", by rw [z]; exact dot_dev (k.r s hs).2.1, fun _ => z⟩
  obtain ⟨y, hy, hy2⟩ := hdot
  have q0 := sE3 s
  have q1 := sE1 s
  generalize hS : sE s = S at q0 q1 ⊢
  generalize ownerM rows s = o at hd hy hy2 ⊢
  generalize s.d = sd at hd q0
  generalize s.b = sb at hy2 ha q1
  generalize dL rows = R
  generalize dL other = O
  generalize hP : ("." : Str) ++ sb = P at hy2 ha
  unfold st_law_8
  by_cases c : sd = ""
  · by_cases e : y = "."
    · have e2 := hy2 e
      subst e2
      simp [q0, q1, c, hy, e, ha]
    · simp [q0, q1, c, hy, e]
  · have e2 := hd c
    subst e2
    by_cases e : y = "."
    · have e3 := hy2 e
      subst e3
      simp [q0, q1, c, hy, e, ha]
    · simp [q0, q1, c, hy, e]
theorem gt_bool {a b : Bool} (h : a = true → b = true) : VR.cmpT .Gt (.dat (.bool a)) (.dat (.bool b)) = some false := by
  cases a <;> cases b
  · kernel_rfl
  · kernel_rfl
  · cases h rfl
  · kernel_rfl
include k in
theorem s10_ok (B : Option T) {s : Stp} (hs : s ∈ rows) : st_law_10 (lE ns (dL rows) (dL other) B (some (.dat (sE s))) (some (.dat (.str (ownerM rows s)))) none none) = .next (lE ns (dL rows) (dL other) B (some (.dat (sE s))) (some (.dat (.str (ownerM rows s)))) none none) := by
  have l1 := late_eq rows k.n k.s
  have hm : inT (.dat (sE s)) (tl (((srt (ded rows)).filter (lateM rows)).map sE)) = some (decide (s ∈ (srt (ded rows)).filter (lateM rows))) := in_tl (α := Stp) (by decide) s _
  have hdot : ∃ y : Str, sliT (.dat (.str (ownerM rows s))) none (some 1) = some (.dat (.str y)) ∧ (lateM rows s = true → y ≠ "." ∧ s.d = "") := by
    by_cases c : lateM rows s = true
    · obtain ⟨h1, h2⟩ := owner_late k.r c
      obtain ⟨y, h3, h4⟩ := dot_per h2
      exact ⟨y, h3, fun _ => ⟨h4, h1⟩⟩
    · rcases owner_kind k.r hs with z | z
      · obtain ⟨y, h1, h2⟩ := dot_per z
        exact ⟨y, h1, fun e => absurd e c⟩
      · exact ⟨".", by rw [z]; exact dot_dev (k.r s hs).2.1, fun e => absurd e c⟩
  obtain ⟨y, hy, hy2⟩ := hdot
  have t1 := cmpS_ok (o := .In) (i := 4) (t := .dat (sE s)) (env := lE ns (dL rows) (dL other) B (some (.dat (sE s))) (some (.dat (.str (ownerM rows s)))) none none) rfl (call1 (i := 1) rfl l1) hm
  have t2 : (evBop true (evCmp .Eq (ev2 (evIdx (ev2 (evLoc 4) (evC (.int 3)))) (evC (.str "")))) (evCmp .NotEq (ev2 (evSli (evLoc 5) none (some (evC (.int 1)))) (evC (.str "."))))) (lE ns (dL rows) (dL other) B (some (.dat (sE s))) (some (.dat (.str (ownerM rows s)))) none none) = .ok (.dat (.bool (decide (s.d = "") && !decide (y = ".")))) (lE ns (dL rows) (dL other) B (some (.dat (sE s))) (some (.dat (.str (ownerM rows s)))) none none) := by
    have q0 := sE3 s
    generalize sE s = S at q0 ⊢
    generalize ownerM rows s = o at hy ⊢
    generalize s.d = sd at q0 ⊢
    generalize dL rows = R
    generalize dL other = O
    by_cases c : sd = ""
    · simp [q0, c, hy]
    · simp [q0, c]
  have hg := gt_bool (a := decide (s ∈ (srt (ded rows)).filter (lateM rows))) (b := decide (s.d = "") && !decide (y = ".")) (fun z => by
    have z2 := of_decide_eq_true z
    obtain ⟨h1, h2⟩ := hy2 (List.mem_filter.mp z2).2
    simp [h1, h2])
  unfold st_law_10
  rw [if_ok (tst_ok (cmp_ok t1 t2 hg))]
  rfl
end
end VW

namespace VW
open PySem PySem.Spec PyProof.Rows L2 VR
open PySem.W (Datum DatumOrd T3 T4 Tup)
section
variable {rows other : List Stp} (k : Kn rows other) (ns : List Int)
include k in
theorem s5_ok : ∃ s o, st_law_5 (lE ns (dL rows) (dL other) (some (bkT PyData.str [])) none none none none) = .next (lE ns (dL rows) (dL other) (some (bkT PyData.str (bkO rows))) s o none none) := by
  have i1 := in_order_eq rows k.n k.s
  have hz : (srt (ded rows)).length ≤ 63 := by rw [srt_len]; have := ded_len rows; have := k.n; omega
  obtain ⟨env2, h1, bk, x4, x5, rfl, h2, _, _⟩ := for_one sE (i := 4) (body := lb_law_1) ((srt (ded rows)).map sE) (fun ys env => ∃ (bk : BkG Str) (x4 x5 : Option T), env = lE ns (dL rows) (dL other) (some (bkT PyData.str bk)) x4 x5 none none ∧ grpG (ownerM rows) (fun s : Stp => s.b) ys bk = bkO rows ∧ (bk.length + ys.length < 1000 ∧ ∀ o, (lookG bk o).length + ys.length < 1000) ∧ ∀ y ∈ ys, y ∈ rows) (fun ys env hp => by obtain ⟨_, _, _, rfl, _⟩ := hp; simp) (fun y ys env hp => by
    obtain ⟨bk, x4, x5, rfl, e1, ⟨e2, e3⟩, e4⟩ := hp
    have hm := e4 y List.mem_cons_self
    rw [List.length_cons] at e2
    refine ⟨_, .inl ?_, putG (ownerM rows y) y.b bk, some (.dat (sE y)), some (.dat (.str (ownerM rows y))), rfl, e1, ⟨?_, fun o => ?_⟩, fun z hz => e4 z (List.mem_cons_of_mem _ hz)⟩
    · have a1 := sda_bkG PyData.str (i0 := 3) (env := lE ns (dL rows) (dL other) (some (bkT PyData.str bk)) (some (.dat (sE y))) (some (.dat (.str (ownerM rows y)))) none none) (ek := evLoc 5) (ev := evLeaf (evIdx (ev2 (evLoc 4) (evC (.int 1))))) (bk := bk) (o := ownerM rows y) (x := y.b) rfl (by simp) (by simp) (by omega) (by have := e3 (ownerM rows y); omega)
      have a2 : st_law_9 (lE ns (dL rows) (dL other) (some (bkT PyData.str bk)) (some (.dat (sE y))) (some (.dat (.str (ownerM rows y)))) none none) = .next (lE ns (dL rows) (dL other) (some (bkT PyData.str (putG (ownerM rows y) y.b bk))) (some (.dat (sE y))) (some (.dat (.str (ownerM rows y)))) none none) := by
        unfold st_law_9
        exact drop_ok a1
      show lb_law_1 (lE ns (dL rows) (dL other) (some (bkT PyData.str bk)) (some (.dat (sE y))) x5 none none) = _
      unfold lb_law_1
      rw [seq_next (s6_ok k ns _ _ hm), seq_next (s7_ok k ns _ hm), seq_next (s8_ok k ns _ hm), seq_next a2, seq_next (s10_ok k ns _ hm)]
    · have := putG_len (ownerM rows y) y.b bk
      omega
    · have := e3 o
      have h5 := e3 (ownerM rows y)
      rw [List.length_cons] at this h5
      rw [lookG_put]
      split
      · rw [List.length_append, List.length_singleton]
        omega
      · omega) (srt (ded rows)) (lE ns (dL rows) (dL other) (some (bkT PyData.str [])) none none none none) ⟨[], none, none, rfl, rfl, ⟨by simp; omega, fun o => by simp [lookG]; omega⟩, fun y hy => by rw [mem_srt, mem_ded] at hy; exact hy⟩
  refine ⟨x4, x5, ?_⟩
  unfold st_law_5
  rw [forS_fix (fix_ok (call1 (i := 1) (env := lE ns (dL rows) (dL other) (some (bkT PyData.str [])) none none none none) rfl i1) (fixOf_tl _)), h1]
  have e : grpG (ownerM rows) (fun s : Stp => s.b) [] bk = bk := rfl
  rw [← h2, e]
include k in
theorem bkO_len : (bkO rows).length < 64 := by
  have := grpG_len (ownerM rows) (fun s : Stp => s.b) (srt (ded rows)) []
  have h2 := ded_len rows
  have h3 := k.n
  rw [srt_len] at this
  unfold bkO
  simp at this
  omega
include k in
theorem s11_ok (s o : Option T) : st_law_11 (lE ns (dL rows) (dL other) (some (bkT PyData.str (bkO rows))) s o none none) = .next (lE ns (dL rows) (dL other) (some (bkT PyData.str (bkO rows))) s o none none) := by
  have o1 := owners_eq1 rows k.n k.s
  have hs := srd_bkG PyData.str (bkO rows) (bkO_len k)
  rw [bkO_own] at hs
  unfold st_law_11
  have t1 := tst_ok (cmp_ok (o := .NotEq) (b1_ok (evLoc_some 3 (lE ns (dL rows) (dL other) (some (bkT PyData.str (bkO rows))) s o none none) _ rfl) hs) (call1 (i := 1) (env := lE ns (dL rows) (dL other) (some (bkT PyData.str (bkO rows))) s o none none) rfl o1) (ne_of (eq_strs _)))
  rw [if_ok t1]
  rfl
include k in
theorem s13_ok (s : Option T) (o : Str) : st_law_13 (lE ns (dL rows) (dL other) (some (bkT PyData.str (bkO rows))) s (some (.dat (.str o))) none none) = .next (lE ns (dL rows) (dL other) (some (bkT PyData.str (bkO rows))) s (some (.dat (.str o))) none none) := by
  have d1 := devices_of_eq other o k.n2 k.s2
  rw [bkO_dev k.p] at d1
  have hl : (lookG (bkO rows) o).length < 64 := by
    unfold bkO
    rw [grpG_look]
    have := List.length_filter_le (fun s => decide (ownerM rows s = o)) (srt (ded rows))
    have h2 := ded_len rows
    have h3 := k.n
    rw [srt_len] at this
    simp [lookG]
    omega
  have g1 := get_bkG PyData.str (i0 := 3) (env := lE ns (dL rows) (dL other) (some (bkT PyData.str (bkO rows))) s (some (.dat (.str o))) none none) (ek := evLoc 5) (ef := evLst evNil) (o := o) rfl (evLoc_some 5 _ _ rfl) rfl
  unfold st_law_13
  have t1 := tst_ok (cmp_ok (o := .NotEq) (call2 (i := 2) (j := 5) (env := lE ns (dL rows) (dL other) (some (bkT PyData.str (bkO rows))) s (some (.dat (.str o))) none none) rfl rfl d1) (b1_ok g1 (str_room _ hl)) (ne_of (eq_strs _)))
  rw [if_ok t1]
  rfl
include k in
theorem s12_ok (s o : Option T) : ∃ o', st_law_12 (lE ns (dL rows) (dL other) (some (bkT PyData.str (bkO rows))) s o none none) = .next (lE ns (dL rows) (dL other) (some (bkT PyData.str (bkO rows))) s o' none none) := by
  have o1 := owners_eq1 rows k.n k.s
  have hnb : sliT (.dat (.str "nobody")) none (some 4) = some (.dat (.str "nobo")) := by kernel_rfl
  have hl : (ownAllM rows).length < 64 := by
    unfold ownAllM
    rw [srt_len]
    have := ded_len (rows.map fun s => ownerM rows s)
    rw [List.length_map] at this
    have := k.n
    omega
  have hadd := add_tl ((ownAllM rows).map PyData.str) [PyData.str "nobo"] (by rw [List.length_map, sizeLine_eq]; simp; omega)
  have e1 : (ownAllM rows).map PyData.str ++ [PyData.str "nobo"] = (ownAllM rows ++ (["nobo"] : List Str)).map PyData.str := by rw [List.map_append]; rfl
  rw [e1] at hadd
  have hsrc : evFix (evBin .Add (ev2 (evCall F_owners (arTmp (evTake 1) arNil)) (evLst (evCons (evSli (evC (.str "nobody")) none (some (evC (.int 4)))) evNil)))) (lE ns (dL rows) (dL other) (some (bkT PyData.str (bkO rows))) s o none none) = .ok (.fix ((ownAllM rows ++ (["nobo"] : List Str)).map PyData.str)) (lE ns (dL rows) (dL other) (some (bkT PyData.str (bkO rows))) s o none none) := by
    refine fix_ok (t := tl ((ownAllM rows ++ (["nobo"] : List Str)).map PyData.str)) ?_ (fixOf_tl _)
    have hc := call1 (i := 1) (env := lE ns (dL rows) (dL other) (some (bkT PyData.str (bkO rows))) s o none none) rfl o1
    have hsl : (evLst (evCons (evSli (evC (.str "nobody")) none (some (evC (.int 4)))) evNil)) (lE ns (dL rows) (dL other) (some (bkT PyData.str (bkO rows))) s o none none) = .ok (tl [.str "nobo"]) (lE ns (dL rows) (dL other) (some (bkT PyData.str (bkO rows))) s o none none) := by
      have z1 : (1 : Nat) ≤ sizeLine := by decide
      simp [hnb, z1, tl]
    rw [evBin_ap, ev2_ap, hc, bind_ok, hsl, bind_ok, bind_ok, hadd]
    rfl
  obtain ⟨env2, h1, x5, rfl⟩ := for_one PyData.str (i := 5) (body := lb_law_2) ((ownAllM rows ++ (["nobo"] : List Str)).map PyData.str) (fun ys env => ∃ x5 : Option T, env = lE ns (dL rows) (dL other) (some (bkT PyData.str (bkO rows))) s x5 none none) (fun ys env hp => by obtain ⟨_, rfl⟩ := hp; simp) (fun y ys env hp => by
    obtain ⟨x5, rfl⟩ := hp
    refine ⟨_, .inl ?_, some (.dat (.str y)), rfl⟩
    show lb_law_2 (lE ns (dL rows) (dL other) (some (bkT PyData.str (bkO rows))) s (some (.dat (.str y))) none none) = _
    unfold lb_law_2
    rw [seq_next (s13_ok k ns s y)]) (ownAllM rows ++ (["nobo"] : List Str)) (lE ns (dL rows) (dL other) (some (bkT PyData.str (bkO rows))) s o none none) ⟨_, rfl⟩
  refine ⟨x5, ?_⟩
  unfold st_law_12
  rw [forS_fix hsrc, h1]
abbrev mE (ns : List Int) (R O : T) (B s o m d v c : Option T) : Envt := [some (.dat (nsD ns)), some R, some O, B, s, o, m, d, v, c]
include k in
theorem c2_ok (s o : Option T) (t3 : T) (h3 : t3 = bkT PyData.str (bkO rows) ∨ t3 = fdG PyData.str (bkO rows)) (d : Str) : cp_law_2 (mE ns (dL rows) (dL other) (some t3) s o none none (some (.dat (.str d))) none) = .ok (tl ((((bkO rows).map (·.1)).filter fun o => decide (d ∈ lookG (bkO rows) o)).map PyData.str)) (mE ns (dL rows) (dL other) (some (fdG PyData.str (bkO rows))) s o none none (some (.dat (.str d))) none) := by
  have hk : evKeys 3 (mE ns (dL rows) (dL other) (some t3) s o none none (some (.dat (.str d))) none) = .ok (.fix (((bkO rows).map (·.1)).map PyData.str)) (mE ns (dL rows) (dL other) (some (fdG PyData.str (bkO rows))) s o none none (some (.dat (.str d))) none) := by
    rcases h3 with rfl | rfl
    · exact keys_bkA PyData.str rfl
    · exact keys_fdA PyData.str rfl
  unfold cp_law_2
  refine comp_t PyData.str (si := evKeys 3) (i := 5) (tc := (evTst (evCmp .In (ev2 (evLoc 8) (evIdx (ev2 (evLoc 3) (evLoc 5))))))) (ev := evTake 5) (env0 := mE ns (dL rows) (dL other) (some t3) s o none none (some (.dat (.str d))) none) (env := mE ns (dL rows) (dL other) (some (fdG PyData.str (bkO rows))) s o none none (some (.dat (.str d))) none) ((bkO rows).map (·.1)) (fun o => decide (d ∈ lookG (bkO rows) o)) PyData.str hk (by simp) (by rw [List.length_map, sizeLine_eq]; have := bkO_len k; omega) fun y hy => ⟨?_, fun _ => by simp⟩
  have hi := idx_fdG PyData.str (bkO rows) y hy
  have hn : inT (.dat (.str d)) (.dat (.list ((lookG (bkO rows) y).map PyData.str))) = some (decide (d ∈ lookG (bkO rows) y)) := in_list (α := Str) (by decide) d _
  generalize (lookG (bkO rows) y).map PyData.str = LL at hi hn
  generalize decide (d ∈ lookG (bkO rows) y) = b at hn ⊢
  generalize fdG PyData.str (bkO rows) = FD at hi ⊢
  generalize dL rows = R
  generalize dL other = O
  simp [hi, hn]
include k in
theorem s14_ok (s o : Option T) : ∃ t3, st_law_14 (mE ns (dL rows) (dL other) (some (bkT PyData.str (bkO rows))) s o none none none none) = .next (mE ns (dL rows) (dL other) (some t3) s o (some (tl (((["a", "b", "cd"] : List Str).map fun d => (cntO rows d : Int)).map PyData.int))) none none none) := by
  have hf : evFix (evTup (evCons (evC (.str "a")) (evCons (evC (.str "b")) (evCons (evC (.str "cd")) evNil)))) (mE ns (dL rows) (dL other) (some (bkT PyData.str (bkO rows))) s o none none none none) = .ok (.fix ((["a", "b", "cd"] : List Str).map PyData.str)) (mE ns (dL rows) (dL other) (some (bkT PyData.str (bkO rows))) s o none none none none) := by
    refine fix_ok (t := .dat (.tuple [.str "a", .str "b", .str "cd"])) ?_ rfl
    have z3 : (3 : Nat) ≤ sizeLine := by decide
    simp [z3]
  obtain ⟨e', ⟨t3, h3, rfl⟩, hc⟩ := comp_i PyData.str (si := evFix (evTup (evCons (evC (.str "a")) (evCons (evC (.str "b")) (evCons (evC (.str "cd")) evNil))))) (t := .one 8) (vs := [8]) (tc := fun env => .ok true env) (ev := evB1 lenT cp_law_2) (env0 := mE ns (dL rows) (dL other) (some (bkT PyData.str (bkO rows))) s o none none none none) (env := mE ns (dL rows) (dL other) (some (bkT PyData.str (bkO rows))) s o none none none none) (fun e => ∃ t3, (t3 = bkT PyData.str (bkO rows) ∨ t3 = fdG PyData.str (bkO rows)) ∧ e = mE ns (dL rows) (dL other) (some t3) s o none none none none) (["a", "b", "cd"] : List Str) (fun _ => true) (fun d => .int (cntO rows d : Int)) hf ⟨_, .inl rfl, rfl⟩ (by rw [sizeLine_eq]; simp) fun d hd e he => by
      obtain ⟨t3, h3, rfl⟩ := he
      have hl := lenT_tl ((((bkO rows).map (·.1)).filter fun o => decide (d ∈ lookG (bkO rows) o)).map PyData.str)
      rw [List.length_map] at hl
      refine ⟨mE ns (dL rows) (dL other) (some t3) s o none none (some (.dat (.str d))) none, mE ns (dL rows) (dL other) (some (fdG PyData.str (bkO rows))) s o none none (some (.dat (.str d))) none, rfl, rfl, fun _ => ⟨b1_ok (c2_ok k ns s o t3 h3 d) hl, _, .inr rfl, rfl⟩, fun z => by cases z⟩
  rw [filter_true] at hc
  refine ⟨t3, ?_⟩
  unfold st_law_14 cp_law_1
  exact set_ok hc (by simp [back])
end
end VW

namespace VW
open PySem PySem.Spec PyProof.Rows L2 VR
open PySem.W (Datum DatumOrd T3 T4 Tup)
theorem in_order_tl (ss : List Stp) (hn : ss.length < 64) (hs : ∀ s ∈ ss, OkStp s) : F_in_order [tl (ss.map sE)] = .ok (tl ((srt (ded ss)).map sE)) [.dat (.list (ss.map sE))] := by
  have hss : ssT (.dat (.list (ss.map sE))) = some (tl ((srt (ded ss)).map sE)) := ssT_map false false _ ss rfl step_key hn
  have lk := look_ok hn hs
  unfold F_in_order
  rw [nm_in_order]
  refine (evFn_ap 1 1 _ _ ⟨rfl, by decide⟩).trans ?_
  show SRs.fin 1 (evSeq _ _ [some (tl (ss.map sE))]) = _
  have a1 : st_in_order_1 [some (tl (ss.map sE))] = .next [some (.dat (.list (ss.map sE)))] := by
    unfold st_in_order_1
    exact drop_ok (call1t (i := 0) (env := [some (tl (ss.map sE))]) rfl lk)
  have a2 : st_in_order_2 [some (.dat (.list (ss.map sE)))] = .ret (tl ((srt (ded ss)).map sE)) [some (.dat (.list (ss.map sE)))] := by
    unfold st_in_order_2
    rw [evRet_ap, b1_ok (evLoc_some 0 _ _ rfl) hss]
    rfl
  rw [seq_next a1, seq_ret a2]
  rfl
section
variable {rows other : List Stp} (k : Kn rows other) (ns : List Int)
abbrev devs : List Str := ["a", "b", "cd"]
abbrev dueM (rows : List Stp) : List Str := devs.filter fun d => decide (1 < cntO rows d)
include k in
theorem s15_ok (t3 : T) (s o : Option T) : st_law_15 (mE ns (dL rows) (dL other) (some t3) s o (some (tl ((devs.map fun d => (cntO rows d : Int)).map PyData.int))) none none none) = .next (mE ns (dL rows) (dL other) (some t3) s o (some (.dat (.list ((devs.map fun d => (cntO rows d : Int)).map PyData.int)))) (some (tl ((dueM rows).map PyData.str))) none none) := by
  have hz : evZipX (evCons (evTup (evCons (evC (.str "a")) (evCons (evC (.str "b")) (evCons (evC (.str "cd")) evNil)))) (evCons (evTake 6) evNil)) (mE ns (dL rows) (dL other) (some t3) s o (some (tl ((devs.map fun d => (cntO rows d : Int)).map PyData.int))) none none none) = .ok (.fix (devs.map fun d => PyData.tuple [.str d, .int (cntO rows d : Int)])) (mE ns (dL rows) (dL other) (some t3) s o (some (.dat (.list ((devs.map fun d => (cntO rows d : Int)).map PyData.int)))) none none none) := by
    have z3 : (3 : Nat) ≤ sizeLine := by decide
    have h1 : evTup (evCons (evC (.str "a")) (evCons (evC (.str "b")) (evCons (evC (.str "cd")) evNil))) (mE ns (dL rows) (dL other) (some t3) s o (some (tl ((devs.map fun d => (cntO rows d : Int)).map PyData.int))) none none none) = .ok (.dat (.tuple [.str "a", .str "b", .str "cd"])) (mE ns (dL rows) (dL other) (some t3) s o (some (tl ((devs.map fun d => (cntO rows d : Int)).map PyData.int))) none none none) := by
      generalize (devs.map fun d => (cntO rows d : Int)).map PyData.int = LL
      simp [z3]
    have h2 := evTake_tl 6 (mE ns (dL rows) (dL other) (some t3) s o (some (tl ((devs.map fun d => (cntO rows d : Int)).map PyData.int))) none none none) ((devs.map fun d => (cntO rows d : Int)).map PyData.int) rfl
    unfold evZipX
    rw [evCons_ap, h1, bind_ok, evCons_ap, h2, bind_ok, evNil_ap, bind_ok, bind_ok, bind_ok]
    rfl
  unfold st_law_15 cp_law_3
  refine set_ok (comp_g (fun d : Str => PyData.tuple [.str d, .int (cntO rows d : Int)]) devs (fun d => decide (1 < cntO rows d)) PyData.str hz rfl (by rw [sizeLine_eq]; simp) fun d hd => ⟨mE ns (dL rows) (dL other) (some t3) s o (some (.dat (.list ((devs.map fun d => (cntO rows d : Int)).map PyData.int)))) none (some (.dat (.str d))) (some (.dat (.int (cntO rows d : Int)))), rfl, ?_, rfl, fun _ => ?_⟩) (by simp)
  · generalize (devs.map fun d => (cntO rows d : Int)).map PyData.int = LL
    generalize cntO rows d = m
    have e9 : decide ((1 : Int) < (m : Int)) = decide (1 < m) := decide_eq_decide.mpr (by omega)
    simp [e9]
  · exact evTake_dat 8 _ _ rfl
include k in
theorem s16_ok (t3 : T) (s o m : Option T) : st_law_16 (mE ns (dL rows) (dL other) (some t3) s o m (some (tl ((dueM rows).map PyData.str))) none none) = .ret (.dat (.bool true)) (mE ns (dL rows) (dL other) (some t3) s o m (some (tl ((dueM rows).map PyData.str))) none none) := by
  have h1 := shared_eq rows k.n k.s
  rw [shared_due rows k.r] at h1
  have l1 := late_eq rows k.n k.s
  have l2 := late_eq other k.n2 k.s2
  rw [← late_perm k.p] at l2
  have hr : Rise ((srt (ded rows)).filter (lateM rows)) := filter_rise (srt_rise (nodup_ded _)) _
  have hz : (srt (ded rows)).length ≤ 63 := by rw [srt_len]; have := ded_len rows; have := k.n; omega
  have l3 := in_order_tl ((srt (ded rows)).filter (lateM rows)) (by have := List.length_filter_le (lateM rows) (srt (ded rows)); omega) (fun s h => k.s s (by have := (List.mem_filter.mp h).1; rw [mem_srt, mem_ded] at this; exact this))
  rw [srt_ded_self hr] at l3
  have c1 := cmp_ok (o := .Eq) (call1 (i := 1) (env := mE ns (dL rows) (dL other) (some t3) s o m (some (tl ((dueM rows).map PyData.str))) none none) rfl h1) (evLoc_some 7 (mE ns (dL rows) (dL other) (some t3) s o m (some (tl ((dueM rows).map PyData.str))) none none) _ rfl) (eq_strs _)
  have k1 := call1 (i := 1) (env := mE ns (dL rows) (dL other) (some t3) s o m (some (tl ((dueM rows).map PyData.str))) none none) rfl l1
  have c2 := cmp_ok (o := .Eq) k1 (call1 (i := 2) (env := mE ns (dL rows) (dL other) (some t3) s o m (some (tl ((dueM rows).map PyData.str))) none none) rfl l2) (eq_stps _)
  have k3 : evCall F_in_order (arTmp (evCall F_late (arTmp (evTake 1) arNil)) arNil) (mE ns (dL rows) (dL other) (some t3) s o m (some (tl ((dueM rows).map PyData.str))) none none) = .ok (tl (((srt (ded rows)).filter (lateM rows)).map sE)) (mE ns (dL rows) (dL other) (some t3) s o m (some (tl ((dueM rows).map PyData.str))) none none) := by
    rw [evCall_ap, arTmp_ap, k1, bind_ok, arNil_ap, bind_ok, bind_ok]
    show (if _ then callK F_in_order (some [tl (((srt (ded rows)).filter (lateM rows)).map sE)]) _ _ else _) = _
    rw [if_pos (by simp), callK_some, l3, giv_ok]
    rfl
  have c3 := cmp_ok (o := .Eq) k1 k3 (eq_stps _)
  unfold st_law_16
  rw [evRet_ap, and_ok c1, and_ok c2, c3]
  rfl
end
theorem law_true (ns : List Int) : F_law [.dat (nsD ns)] = .ok (.dat (.bool true)) [.dat (nsD ns)] := by
  obtain ⟨rows, hn, hr, e1⟩ := rows_eqR ns 10 10 (by decide)
  have ho : okL (rows.map sE) := okL_toD (α := Stp) (by decide) rows
  obtain ⟨es, hp, e2⟩ := turned_eq ns 200 (rows.map sE) (by rw [List.length_map]; omega) ho
  obtain ⟨other, hp2, rfl⟩ := perm_of_map hp rows rfl
  have k : Kn rows other := ⟨hp2.symm, by omega, hr⟩
  unfold F_law
  rw [nm_law]
  refine (evFn_ap 10 1 _ _ ⟨rfl, by decide⟩).trans ?_
  show SRs.fin 1 (evSeq _ _ [some (.dat (nsD ns)), none, none, none, none, none, none, none, none, none]) = _
  have a1 : st_law_1 [some (.dat (nsD ns)), none, none, none, none, none, none, none, none, none] = .next [some (.dat (nsD ns)), some (tl (rows.map sE)), none, none, none, none, none, none, none, none] := by
    unfold st_law_1
    refine set_ok (t := tl (rows.map sE)) (env' := [some (.dat (nsD ns)), none, none, none, none, none, none, none, none, none]) ?_ (by simp)
    have e1' : F__law_rows [.dat (nsD ns), .dat (.int 10), .dat (.int 10)] = .ok (tl (rows.map sE)) [.dat (nsD ns), .dat (.int 10), .dat (.int 10)] := e1
    generalize nsD ns = N at e1' ⊢
    generalize rows.map sE = RR at e1' ⊢
    simp [e1']
  have a2 : st_law_2 [some (.dat (nsD ns)), some (tl (rows.map sE)), none, none, none, none, none, none, none, none] = .next (lE ns (dL rows) (tl (other.map sE)) none none none none none) := by
    unfold st_law_2
    refine set_ok (t := tl (other.map sE)) (env' := [some (.dat (nsD ns)), some (dL rows), none, none, none, none, none, none, none, none]) ?_ (by simp)
    have e2' : F__law_turned [.dat (nsD ns), .dat (.int 200), .dat (.list (rows.map sE))] = .ok (tl (other.map sE)) [.dat (nsD ns), .dat (.int 200), .dat (.list (rows.map sE))] := e2
    generalize nsD ns = N at e2' ⊢
    generalize other.map sE = OO at e2' ⊢
    have q := evTake_tl 1 [some (.dat N), some (tl (rows.map sE)), none, none, none, none, none, none, none, none] (rows.map sE) rfl
    show _ = R.ok (tl OO) [some (.dat N), some (.dat (.list (rows.map sE))), none, none, none, none, none, none, none, none]
    generalize rows.map sE = RR at e2' q ⊢
    simp only [List.set_cons_succ, List.set_cons_zero] at q
    simp [e2', q]
  have a4 : st_law_4 (lE ns (dL rows) (dL other) none none none none none) = .next (lE ns (dL rows) (dL other) (some (bkT PyData.str [])) none none none none) := by
    unfold st_law_4
    exact set_ok (t := bkT PyData.str []) rfl (by simp)
  obtain ⟨s, o, a5⟩ := s5_ok k ns
  obtain ⟨o', a12⟩ := s12_ok k ns s o
  obtain ⟨t3, a14⟩ := s14_ok k ns s o'
  rw [seq_next a1, seq_next a2, seq_next (s3_ok k ns), seq_next a4, seq_next a5, seq_next (s11_ok k ns s o), seq_next a12, seq_next a14, seq_next (s15_ok k ns t3 s o'), seq_ret (s16_ok k ns t3 s o' _)]
  rfl
end VW

namespace VW
open PySem PySem.Spec PyProof.Rows L2 VR
def d0 : He.DefD := ⟨("is_whole", none), "is_whole", "is_whole", defArgs (top 7), defBody (top 7), defScope (top 7), [], []⟩
def d1 : He.DefD := ⟨("is_name", none), "is_name", "is_name", defArgs (top 8), defBody (top 8), defScope (top 8), [], []⟩
def d2 : He.DefD := ⟨("is_step", none), "is_step", "is_step", defArgs (top 9), defBody (top 9), defScope (top 9), [], []⟩
def d3 : He.DefD := ⟨("look_steps", none), "look_steps", "look_steps", defArgs (top 10), defBody (top 10), defScope (top 10), [], []⟩
def d4 : He.DefD := ⟨("in_order", none), "in_order", "in_order", defArgs (top 11), defBody (top 11), defScope (top 11), [], []⟩
def d5 : He.DefD := ⟨("signs_at", none), "signs_at", "signs_at", defArgs (top 12), defBody (top 12), defScope (top 12), [], []⟩
def d6 : He.DefD := ⟨("owner_in", none), "owner_in", "owner_in", defArgs (top 13), defBody (top 13), defScope (top 13), [], []⟩
def d7 : He.DefD := ⟨("whose", none), "whose", "whose", defArgs (top 14), defBody (top 14), defScope (top 14), [], []⟩
def d8 : He.DefD := ⟨("owners", none), "owners", "owners", defArgs (top 15), defBody (top 15), defScope (top 15), [], []⟩
def d9 : He.DefD := ⟨("devices_of", none), "devices_of", "devices_of", defArgs (top 16), defBody (top 16), defScope (top 16), [], []⟩
def d10 : He.DefD := ⟨("shared", none), "shared", "shared", defArgs (top 17), defBody (top 17), defScope (top 17), [], []⟩
def d11 : He.DefD := ⟨("is_late", none), "is_late", "is_late", defArgs (top 18), defBody (top 18), defScope (top 18), [], []⟩
def d12 : He.DefD := ⟨("late", none), "late", "late", defArgs (top 19), defBody (top 19), defScope (top 19), [], []⟩
def d13 : He.DefD := ⟨("_law_cell", none), "_law_cell", "_law_cell", defArgs (top 21), defBody (top 21), defScope (top 21), [], []⟩
def d14 : He.DefD := ⟨("_law_pick", none), "_law_pick", "_law_pick", defArgs (top 22), defBody (top 22), defScope (top 22), [], []⟩
def d15 : He.DefD := ⟨("_law_rows", none), "_law_rows", "_law_rows", defArgs (top 23), defBody (top 23), defScope (top 23), [], []⟩
def d16 : He.DefD := ⟨("_law_turned", none), "_law_turned", "_law_turned", defArgs (top 24), defBody (top 24), defScope (top 24), [], []⟩
def d17 : He.DefD := ⟨("law", none), "law", "law", defArgs (top 25), defBody (top 25), defScope (top 25), [], []⟩
def fn : List He.DefD := [d0, d1, d2, d3, d4, d5, d6, d7, d8, d9, d10, d11, d12, d13, d14, d15, d16, d17]
def fa : List He.Fa := [.glo "is_whole", .glo "is_name", .glo "is_step", .glo "look_steps", .glo "in_order", .glo "signs_at", .glo "owner_in", .glo "whose", .glo "owners", .glo "devices_of", .glo "shared", .glo "is_late", .glo "late", .glo "_law_cell", .glo "_law_pick", .glo "_law_rows", .glo "_law_turned", .glo "law", .free "isinstance", .free "int", .free "bool", .free "str", .free "len", .int "LONGEST" 4, .str "SMALL" "abcdefghijklmnopqrstuvwxyz", .free "all", .free "tuple", .int "LAST" 9999, .free "list", .exc "NoStep", .glo "NoStep", .free "sorted", .free "set", .free "range", .free "zip"]
def loose : List Str := (["VisitError", "NoStep", "LAST", "LONGEST", "SMALL", "is_whole", "is_name", "is_step", "look_steps", "in_order", "signs_at", "owner_in", "whose", "owners", "devices_of", "shared", "is_late", "late", "_law_cell", "_law_pick", "_law_rows", "_law_turned"] : List Str)
abbrev hk : PySem.W.Hook := He.hookD 4 fa fn
def ob (s : PySem.W.SharedT) : He.AlD := He.obsDG 4 fa fn (HandSHeadRun.getT s)
theorem ob_eq (s : PySem.W.SharedT) : ob s = hk.obs s.abs := He.obsDG_eq (HandSHeadRun.getT_eq s)
theorem run (w : World) : HandSHeadRun.RunEq (PySem.W.OpenLaw.row PySem.Challenge.rw_visitrows_k91_whole_owners_held) (PySem.W.view (PySem.W.OpenLaw.row PySem.Challenge.rw_visitrows_k91_whole_owners_held).prog [25]) hk ob 4000 loose w := by
  intro os
  kernel_rfl
theorem facts {P : Program} {w : World} {K : PySem.W.Frag} {h : Heap} {mg : Str → Option Value} {f : Addr} (X : K.In h) (G : h.Ns mainGlobals mg) (hfa : mg ("law" : Str) = some (.ref f)) (c : He.SaysD fa fn K) :
    ∃ fd : FuncData, (∀ (s : Shared) (v : Value), BindsTo s fd ⟨[v], []⟩ [("script", v)]) ∧ ∀ base : Heap, K.In base → base.Ns mainGlobals mg → FnOk P w K mg base (L2.CX P w) 6 f fd ["script"] (spEv K F_law) := by
  obtain ⟨fd_is_whole, D_is_whole⟩ := c.def_ 0 (d := d0) rfl
  have x_is_whole := He.glo_ok X G (c.fact 0 (f := .glo "is_whole") rfl)
  obtain ⟨fd_is_name, D_is_name⟩ := c.def_ 1 (d := d1) rfl
  have x_is_name := He.glo_ok X G (c.fact 1 (f := .glo "is_name") rfl)
  obtain ⟨fd_is_step, D_is_step⟩ := c.def_ 2 (d := d2) rfl
  have x_is_step := He.glo_ok X G (c.fact 2 (f := .glo "is_step") rfl)
  obtain ⟨fd_look_steps, D_look_steps⟩ := c.def_ 3 (d := d3) rfl
  have x_look_steps := He.glo_ok X G (c.fact 3 (f := .glo "look_steps") rfl)
  obtain ⟨fd_in_order, D_in_order⟩ := c.def_ 4 (d := d4) rfl
  have x_in_order := He.glo_ok X G (c.fact 4 (f := .glo "in_order") rfl)
  obtain ⟨fd_signs_at, D_signs_at⟩ := c.def_ 5 (d := d5) rfl
  have x_signs_at := He.glo_ok X G (c.fact 5 (f := .glo "signs_at") rfl)
  obtain ⟨fd_owner_in, D_owner_in⟩ := c.def_ 6 (d := d6) rfl
  have x_owner_in := He.glo_ok X G (c.fact 6 (f := .glo "owner_in") rfl)
  obtain ⟨fd_whose, D_whose⟩ := c.def_ 7 (d := d7) rfl
  have x_whose := He.glo_ok X G (c.fact 7 (f := .glo "whose") rfl)
  obtain ⟨fd_owners, D_owners⟩ := c.def_ 8 (d := d8) rfl
  have x_owners := He.glo_ok X G (c.fact 8 (f := .glo "owners") rfl)
  obtain ⟨fd_devices_of, D_devices_of⟩ := c.def_ 9 (d := d9) rfl
  have x_devices_of := He.glo_ok X G (c.fact 9 (f := .glo "devices_of") rfl)
  obtain ⟨fd_shared, D_shared⟩ := c.def_ 10 (d := d10) rfl
  have x_shared := He.glo_ok X G (c.fact 10 (f := .glo "shared") rfl)
  obtain ⟨fd_is_late, D_is_late⟩ := c.def_ 11 (d := d11) rfl
  have x_is_late := He.glo_ok X G (c.fact 11 (f := .glo "is_late") rfl)
  obtain ⟨fd_late, D_late⟩ := c.def_ 12 (d := d12) rfl
  have x_late := He.glo_ok X G (c.fact 12 (f := .glo "late") rfl)
  obtain ⟨fd__law_cell, D__law_cell⟩ := c.def_ 13 (d := d13) rfl
  have x__law_cell := He.glo_ok X G (c.fact 13 (f := .glo "_law_cell") rfl)
  obtain ⟨fd__law_pick, D__law_pick⟩ := c.def_ 14 (d := d14) rfl
  have x__law_pick := He.glo_ok X G (c.fact 14 (f := .glo "_law_pick") rfl)
  obtain ⟨fd__law_rows, D__law_rows⟩ := c.def_ 15 (d := d15) rfl
  have x__law_rows := He.glo_ok X G (c.fact 15 (f := .glo "_law_rows") rfl)
  obtain ⟨fd__law_turned, D__law_turned⟩ := c.def_ 16 (d := d16) rfl
  have x__law_turned := He.glo_ok X G (c.fact 16 (f := .glo "_law_turned") rfl)
  obtain ⟨fd_law, D_law⟩ := c.def_ 17 (d := d17) rfl
  have x_law := He.glo_ok X G (c.fact 17 (f := .glo "law") rfl)
  have b_isinstance := He.free_ok X G (c.fact 18 (f := .free "isinstance") rfl)
  have b_int := He.free_ok X G (c.fact 19 (f := .free "int") rfl)
  have b_bool := He.free_ok X G (c.fact 20 (f := .free "bool") rfl)
  have b_str := He.free_ok X G (c.fact 21 (f := .free "str") rfl)
  have b_len := He.free_ok X G (c.fact 22 (f := .free "len") rfl)
  have i_LONGEST : GI mg "LONGEST" 4 := He.int_ok X G (c.fact 23 (f := .int "LONGEST" 4) rfl)
  have s_SMALL : GS mg "SMALL" "abcdefghijklmnopqrstuvwxyz" := He.str_ok X G (c.fact 24 (f := .str "SMALL" "abcdefghijklmnopqrstuvwxyz") rfl)
  have b_all := He.free_ok X G (c.fact 25 (f := .free "all") rfl)
  have b_tuple := He.free_ok X G (c.fact 26 (f := .free "tuple") rfl)
  have i_LAST : GI mg "LAST" 9999 := He.int_ok X G (c.fact 27 (f := .int "LAST" 9999) rfl)
  have b_list := He.free_ok X G (c.fact 28 (f := .free "list") rfl)
  have x_NoStep : GE mg K "NoStep" := by
    have q1 := He.exc_ok (c.fact 29 (f := .exc "NoStep") rfl)
    exact ⟨_, _, _, _, PySem.F.excBase_ValueError, q1.1, He.glo_ok X G (c.fact 30 (f := .glo "NoStep") rfl), q1.2.1, q1.2.2.1, q1.2.2.2⟩
  have b_sorted := He.free_ok X G (c.fact 31 (f := .free "sorted") rfl)
  have b_set := He.free_ok X G (c.fact 32 (f := .free "set") rfl)
  have b_range := He.free_ok X G (c.fact 33 (f := .free "range") rfl)
  have b_zip := He.free_ok X G (c.fact 34 (f := .free "zip") rfl)
  have e := hfa.symm.trans x_law
  cases e
  have b := FunD.bindsA (ps := ["script"]) D_law fun _ _ _ _ _ _ us hl => match us, hl with | [_], _ => rfl
  refine ⟨fd_law, fun s v => b s [v] rfl, fun base _ _ => ?_⟩
  have h_signs_at : FnH P w K mg base 1 "signs_at" ["steps", "device"] F_signs_at := ok_signs_at D_signs_at x_signs_at b_sorted
  have h_owner_in : FnH P w K mg base 2 "owner_in" ["steps", "step"] F_owner_in := ok_owner_in D_owner_in x_owner_in h_signs_at
  have h_is_name : FnH P w K mg base 1 "is_name" ["thing"] F_is_name := ok_is_name D_is_name x_is_name b_isinstance b_str b_len i_LONGEST s_SMALL b_all
  have h_is_whole : FnH P w K mg base 1 "is_whole" ["thing", "low", "high"] F_is_whole := ok_is_whole D_is_whole x_is_whole b_isinstance b_int b_bool
  have h_is_step : FnH P w K mg base 2 "is_step" ["thing"] F_is_step := ok_is_step D_is_step x_is_step h_is_name b_isinstance b_str b_tuple b_len i_LAST h_is_whole
  have h_look_steps : FnH P w K mg base 3 "look_steps" ["steps"] F_look_steps := ok_look_steps D_look_steps x_look_steps b_isinstance b_list b_tuple h_is_step b_all x_NoStep
  have h_shared : FnH P w K mg base 4 "shared" ["steps"] F_shared := ok_shared D_shared x_shared b_len b_set b_sorted h_owner_in h_look_steps
  have h_in_order : FnH P w K mg base 4 "in_order" ["steps"] F_in_order := ok_in_order D_in_order x_in_order b_sorted b_set h_look_steps
  have h_is_late : FnH P w K mg base 2 "is_late" ["steps", "step"] F_is_late := ok_is_late D_is_late x_is_late h_signs_at
  have h_late : FnH P w K mg base 5 "late" ["steps"] F_late := ok_late D_late x_late h_in_order h_is_late
  have h_owners : FnH P w K mg base 4 "owners" ["steps"] F_owners := ok_owners D_owners x_owners h_owner_in b_sorted b_set h_look_steps
  have h_devices_of : FnH P w K mg base 4 "devices_of" ["steps", "owner"] F_devices_of := ok_devices_of D_devices_of x_devices_of h_owner_in b_sorted b_set h_look_steps
  have h_whose : FnH P w K mg base 4 "whose" ["steps", "step"] F_whose := ok_whose D_whose x_whose h_owner_in h_is_step x_NoStep h_look_steps
  have h__law_cell : FnH P w K mg base 1 "_law_cell" ["script", "k"] F__law_cell := ok__law_cell D__law_cell x__law_cell b_len
  have h__law_pick : FnH P w K mg base 2 "_law_pick" ["script", "k", "many"] F__law_pick := ok__law_pick D__law_pick x__law_pick h__law_cell
  have h__law_turned : FnH P w K mg base 3 "_law_turned" ["script", "at", "rows"] F__law_turned := ok__law_turned D__law_turned x__law_turned b_len h__law_pick b_list
  have h__law_rows : FnH P w K mg base 3 "_law_rows" ["script", "at", "most"] F__law_rows := ok__law_rows D__law_rows x__law_rows b_range h__law_pick b_len
  exact (okf_law (P := P) (w := w) D_law x_law h_shared h_late h_in_order b_zip b_len h_owners b_sorted b_set h_devices_of b_tuple h_whose h__law_turned h__law_rows).1
theorem sp_law {K : PySem.W.Frag} {H : Hp} {a : Addr} {ns : List Int} (hS : SqL K H a (ns.map V.int)) (t : F_law [.dat (nsD ns)] = .ok (.dat (.bool true)) [.dat (nsD ns)]) : spEv K F_law [.ref a] H (fun v _ => v = .bl true) (fun _ _ _ => False) := by
  have hd : ∀ l : List Int, DqAll K H (l.map V.int) (l.map PyData.int) := by
    intro l
    induction l with
    | nil => exact .nil
    | cons i l ih => exact .cons (.int i) ih
  refine ⟨H, [.dat (nsD ns)], fun _ => none, fun _ _ z => z, ownL_dat (ds := [nsD ns]) (.cons (.lst hS (hd ns)) .nil), ?_⟩
  rw [t]
  intro v G' H' τ' S _ _ _ hv _ _
  cases hv with
  | dat h _ =>
    cases h
    rfl
/-- a law's end: what may fly is told of each world -/
theorem endW {l : PySem.W.OpenLaw} {q : Program} {lo : List Str} {XP : (Str → Option Value) → Heap → Prop} {YP : World → Heap → Prop} {d : DefRec} {lv : Nat}
    (h63 : l.most = some 63) (hdf : d.params.defaults = []) (hroom : Room lv callerA)
    (hF : ∀ (w : World) (g : Str → Option Value) (ad : Addr) (hp : Heap), YP w hp → hp.Ns mainGlobals g → g d.name = some (.ref ad) →
      ∃ (K : PySem.W.Frag) (fd : FuncData), K.In hp ∧ (∀ (s : Shared) (u : Value), BindsTo s fd ⟨[u], []⟩ [("script", u)]) ∧ ∀ base : Heap, K.In base → base.Ns mainGlobals g → FnOk l.prog w K g base (L2.CX l.prog w) lv ad fd ["script"] (spEv K F_law))
    (ht : ∀ ns : List Int, ns.length ≤ 63 → F_law [.dat (nsD ns)] = .ok (.dat (.bool true)) [.dat (nsD ns)]) : PySem.W.WalkO q lo XP YP l.row.toRowW d [] (fun f vs => PySem.call f vs) := by
  refine Att.attach_call h63 hdf ?_
  intro w _ _ g _ ad _ _ _ _ adr _ ns G Y _ _ _ hg hob hin hlen hgens
  obtain ⟨K, fd, KX, hbd, hok⟩ := hF w g ad _ Y G.T.g hg
  refine law_call KX G.T.g G.T.b G.T.builtins G.T.nolimit hgens hob hin (Nat.le_trans hlen (by decide)) hroom hok hbd (fun H _ hS => sp_law hS (ht ns hlen)) ?_
  rintro H e s' ⟨_, _, _, _, _, _, _, _, _, _, _, _, z⟩
  exact z
end VW
open PySem PySem.W PySem.Calls PyProof.Rows
theorem PySem.Challenge.cw_visitrows_k91_whole_owners_held_holds : PySem.Challenge.rw_visitrows_k91_whole_owners_held.Holds := by
  w_on; o_law
  refine HandSHeadRun.head_any (r := OpenLaw.row PySem.Challenge.rw_visitrows_k91_whole_owners_held) (q := view (OpenLaw.row PySem.Challenge.rw_visitrows_k91_whole_owners_held).prog [25]) (H := VW.hk) (ob := VW.ob) (M := 4000) (loose := VW.loose) (d := HandSHeadRun.topDef (OpenLaw.row PySem.Challenge.rw_visitrows_k91_whole_owners_held).prog 25) (kwd := []) VW.ob_eq
    (by kernel_rfl) (fun s => by kernel_rfl) VW.run (by kernel_rfl) (by kernel_rfl) (by kernel_rfl) (by rfl) (by first | assumption | decide +kernel) (by decide +kernel) ⟨rfl, rfl, rfl, rfl, rfl, by decide +kernel⟩ ?hw ?hc
  case hw => w_witness2
  case hc =>
    refine VW.endW (l := PySem.Challenge.rw_visitrows_k91_whole_owners_held) (lv := 6) rfl (by kernel_rfl) ⟨rfl, by decide, by decide⟩ ?F fun ns _ => VW.law_true ns
    intro w mg fa h Y G hmg0
    obtain ⟨K, KX, c⟩ := Y
    have hmg : mg ("law" : PySem.Str) = some (.ref fa) := by
      have e : (HandSHeadRun.topDef (OpenLaw.row PySem.Challenge.rw_visitrows_k91_whole_owners_held).prog 25).name = ("law" : PySem.Str) := by kernel_rfl
      rw [← e]
      exact hmg0
    obtain ⟨fd, hb, hF⟩ := VW.facts (P := (PySem.Challenge.rw_visitrows_k91_whole_owners_held).prog) (w := w) KX G hmg c
    exact ⟨K, fd, KX, hb, hF⟩

