import PyProof.Rows.All
import Wide.All
import OpenK.AllK
import Wide.FinOn
import KE.KStateDown
import KE.KLam
import HandS.ForMost
import HandS.Exc
import HandS.ExcInit
import HandS.ExcField
import HandS.TryMany
import HandS.TryOnly
import HandS.WordsExc
import HandS.Defaults
import HandS.IsInst
import HandS.Wide
import HandS.Lambda
import HandS.EndTab
import HandS.HeadWalk
import HandS.Zip
import HandS.TupMul
import HandS.TupLe
import HandS.TupAny
import HandS.Head0
import HandS.Head1
import HandS.Head2
import HandS.HeadEnd
import HandS.HeadHook1
import HandS.HeadHook2
import HandS.HeadHook3
import HandS.HeadHook4
import KE.GoesMore
import PySem.Challenge.RW_lagworks_k02_sums_added_and_multiplied
set_option Elab.async false
set_option linter.all false
set_option maxRecDepth 100000
set_option maxHeartbeats 0
set_option Elab.async false
set_option linter.all false
set_option maxRecDepth 100000
set_option maxHeartbeats 2000000
/-! DL: a layer of data over HandS -/
namespace DL
open PySem PySem.Spec PyProof.Rows L2

abbrev D := PyData
/-- an exception by its class's name and its fields -/
abbrev Exc := Str × List (Str × D)

structure Pm where
  K : PySem.W.Frag
  mg : Str → Option Value
  B : Option Addr
  T : List (Addr × Str)

def BagOk (K : PySem.W.Frag) (G H : Hp) (b : Addr) : Prop := ∃ (c : Addr) (ns : List Int) (i j s t : Int),
  H b = some (.lst [.ref c, .int i, .int j, .int s, .int t]) ∧ G c = some (.lst (ns.map V.int)) ∧ ns.length ≤ 63 ∧
    0 ≤ i ∧ i ≤ ns.length ∧ 0 ≤ j ∧ 0 ≤ s ∧ s < 2147483563 ∧ 0 ≤ t

/-- F: what is fixed and no data; G: the ground of data; H: all -/
structure St0 (m : Pm) (F G H : Hp) : Prop where
  fr : ∀ a o, F a = some o → H a = some o ∧ G a = none
  bag : ∀ b, m.B = some b → BagOk m.K G H b ∧ G b = none ∧ F b = none
  tab : ∀ p ∈ m.T, LamX.TabS H p.1 p.2 ∧ G p.1 = none ∧ F p.1 = none
  rest : ∀ a, F a = none → m.B ≠ some a → (∀ p ∈ m.T, p.1 ≠ a) → H a = G a ∨ ((∃ ps, H a = some (.tbl ps)) ∧ G a = none)
  ntG : ∀ a ps, G a ≠ some (.tbl ps)
  ntF : ∀ a ps, F a ≠ some (.tbl ps)

inductive En where
  | un
  | dat (d : D)
  | bag
  | own (ds : List D)

def EnOk (m : Pm) (F G : Hp) (a : Addr) (x : Option (Option V)) : En → Prop
  | .un => True
  | .dat d => ∃ v, x = some (some v) ∧ Dp m.K G v d
  | .bag => ∃ b, m.B = some b ∧ x = some (some (.ref b))
  | .own ds => x = some (some (.ref a)) ∧ ∃ vs, F a = some (.lst vs) ∧ DpAll m.K G vs ds

structure Slots (m : Pm) (F0 F : Hp) (ow : Nat → Addr) (ρ : List En) (σ : L2.St) (G : Hp) : Prop where
  len : σ.length = ρ.length
  ok : ∀ i en, ρ[i]? = some en → EnOk m F G (ow i) σ[i]? en
  inj : ∀ i j ds es, ρ[i]? = some (.own ds) → ρ[j]? = some (.own es) → ow i = ow j → i = j
  sub : ∀ a o, F0 a = some o → F a = some o
  new : ∀ i ds, ρ[i]? = some (.own ds) → F0 (ow i) = none

/-! ### heaps -/
theorem same_rd {H H' : Hp} {a : Addr} {u : HO} (e : Same H H') (h : Rd H a u) : Rd H' a u := by
  rcases h with h | ⟨o, h⟩
  · exact .inl (e a _ h)
  · exact .inr ⟨o, e a _ h⟩
theorem same_l {K : PySem.W.Frag} {H H' : Hp} {a : Addr} {xs : List V} (e : Same H H') (h : SqL K H a xs) : SqL K H' a xs := by
  rcases h with h | h
  · exact .inl (same_rd e h)
  · exact .inr h
theorem same_t {K : PySem.W.Frag} {H H' : Hp} {a : Addr} {xs : List V} (e : Same H H') (h : SqT K H a xs) : SqT K H' a xs := by
  rcases h with h | h
  · exact .inl (same_rd e h)
  · exact .inr h
mutual
theorem dp_mono {K : PySem.W.Frag} {H H' : Hp} (e : Same H H') : ∀ {d : D} {v : V}, Dp K H v d → Dp K H' v d
  | _, _, .non => .non
  | _, _, .bl b => .bl b
  | _, _, .int i => .int i
  | _, _, .str x => .str x
  | _, _, .lst h a => .lst (same_l e h) (dps_mono e a)
  | _, _, .tup h a => .tup (same_t e h) (dps_mono e a)
theorem dps_mono {K : PySem.W.Frag} {H H' : Hp} (e : Same H H') : ∀ {ds : List D} {vs : List V}, DpAll K H vs ds → DpAll K H' vs ds
  | _, _, .nil => .nil
  | _, _, .cons h r => .cons (dp_mono e h) (dps_mono e r)
end
theorem same_upd {H : Hp} {p : Addr} {o : HO} (h : H p = none) : Same H (upd H p o) := fun b x e => by
  rw [upd_ne (ne_of_none e h)]
  exact e
theorem dps_len {K : PySem.W.Frag} {H : Hp} : ∀ {ds : List D} {vs : List V}, DpAll K H vs ds → vs.length = ds.length
  | _, _, .nil => rfl
  | _, _, .cons _ r => congrArg (· + 1) (dps_len r)
theorem dps_get {K : PySem.W.Frag} {H : Hp} : ∀ {ds : List D} {vs : List V} {i : Nat} {d : D}, DpAll K H vs ds → ds[i]? = some d → ∃ v, vs[i]? = some v ∧ Dp K H v d
  | _, _, _, _, .nil, h => by simp at h
  | _, _, 0, _, .cons h _, e => by simp at e; subst e; exact ⟨_, rfl, h⟩
  | _, _, i + 1, _, .cons _ r, e => by
    obtain ⟨v, h1, h2⟩ := dps_get (i := i) r (by simpa using e)
    exact ⟨v, by simpa using h1, h2⟩
theorem dps_getV {K : PySem.W.Frag} {H : Hp} : ∀ {ds : List D} {vs : List V} {i : Nat} {v : V}, DpAll K H vs ds → vs[i]? = some v → ∃ d, ds[i]? = some d ∧ Dp K H v d
  | _, _, _, _, .nil, h => by simp at h
  | _, _, 0, _, .cons h _, e => by simp at e; subst e; exact ⟨_, rfl, h⟩
  | _, _, i + 1, _, .cons _ r, e => by
    obtain ⟨d, h1, h2⟩ := dps_getV (i := i) r (by simpa using e)
    exact ⟨d, by simpa using h1, h2⟩
theorem dps_app {K : PySem.W.Frag} {H : Hp} : ∀ {ds es : List D} {vs ws : List V}, DpAll K H vs ds → DpAll K H ws es → DpAll K H (vs ++ ws) (ds ++ es)
  | _, _, _, _, .nil, s => s
  | _, _, _, _, .cons h r, s => .cons h (dps_app r s)
theorem dps_set {K : PySem.W.Frag} {H : Hp} {v : V} {d : D} (hd : Dp K H v d) : ∀ {ds : List D} {vs : List V} (i : Nat), DpAll K H vs ds → DpAll K H (vs.set i v) (ds.set i d)
  | _, _, _, .nil => .nil
  | _, _, 0, .cons _ r => .cons hd r
  | _, _, i + 1, .cons h r => .cons h (dps_set hd i r)
theorem dps_take {K : PySem.W.Frag} {H : Hp} : ∀ {ds : List D} {vs : List V} (n : Nat), DpAll K H vs ds → DpAll K H (vs.take n) (ds.take n)
  | _, _, 0, _ => .nil
  | _, _, _ + 1, .nil => .nil
  | _, _, n + 1, .cons h r => .cons h (dps_take n r)
theorem dps_drop {K : PySem.W.Frag} {H : Hp} : ∀ {ds : List D} {vs : List V} (n : Nat), DpAll K H vs ds → DpAll K H (vs.drop n) (ds.drop n)
  | _, _, 0, r => r
  | _, _, _ + 1, .nil => .nil
  | _, _, n + 1, .cons _ r => dps_drop n r
theorem dps_rep {K : PySem.W.Frag} {H : Hp} {v : V} {d : D} (h : Dp K H v d) : ∀ n : Nat, DpAll K H (List.replicate n v) (List.replicate n d)
  | 0 => .nil
  | n + 1 => .cons h (dps_rep h n)
theorem dps_ints {K : PySem.W.Frag} {H : Hp} : ∀ ns : List Int, DpAll K H (ns.map V.int) (ns.map PyData.int)
  | [] => .nil
  | n :: r => .cons (.int n) (dps_ints r)
theorem dps_bls {K : PySem.W.Frag} {H : Hp} : ∀ ns : List Bool, DpAll K H (ns.map V.bl) (ns.map PyData.bool)
  | [] => .nil
  | n :: r => .cons (.bl n) (dps_bls r)
theorem dps_ints_inv {K : PySem.W.Frag} {H : Hp} : ∀ {ns : List Int} {vs : List V}, DpAll K H vs (ns.map PyData.int) → vs = ns.map V.int
  | [], _, .nil => rfl
  | _ :: _, _, .cons (.int _) r => by rw [dps_ints_inv r]; rfl
theorem dps_bls_inv {K : PySem.W.Frag} {H : Hp} : ∀ {ns : List Bool} {vs : List V}, DpAll K H vs (ns.map PyData.bool) → vs = ns.map V.bl
  | [], _, .nil => rfl
  | _ :: _, _, .cons (.bl _) r => by rw [dps_bls_inv r]; rfl

section
variable {m : Pm} {F G H : Hp} {p : Addr} {o : HO}
theorem St0.same (s : St0 m F G H) : Same G H := fun a o e => by
  have hF : F a = none := by
    cases q : F a with
    | none => rfl
    | some u => rw [(s.fr a u q).2] at e; cases e
  rcases s.rest a hF (fun z => by rw [(s.bag a z).2.1] at e; cases e) (fun p hp z => by rw [← z, (s.tab p hp).2.1] at e; cases e) with z | ⟨_, z⟩
  · rw [z]
    exact e
  · rw [z] at e
    cases e
theorem St0.freshF (s : St0 m F G H) (h : H p = none) : F p = none := by
  cases q : F p with
  | none => rfl
  | some u => rw [(s.fr p u q).1] at h; cases h
theorem St0.freshG (s : St0 m F G H) (h : H p = none) : G p = none := s.same.free h
theorem St0.freshB (s : St0 m F G H) (h : H p = none) : m.B ≠ some p := fun z => by
  obtain ⟨⟨c, ns, i, j, q, t, e, _⟩, _⟩ := s.bag p z
  rw [h] at e; cases e
theorem St0.freshT (s : St0 m F G H) (h : H p = none) : ∀ q ∈ m.T, q.1 ≠ p := fun q hq z => by
  obtain ⟨⟨ps, e, _⟩, _⟩ := s.tab q hq
  rw [z, h] at e; cases e
theorem bag_mono {K : PySem.W.Frag} {G G' H H' : Hp} {b : Addr} (e : Same G G') (eb : ∀ o, H b = some o → H' b = some o) (h : BagOk K G H b) : BagOk K G' H' b := by
  obtain ⟨c, ns, i, j, s, t, h1, h2, h3⟩ := h
  exact ⟨c, ns, i, j, s, t, eb _ h1, e _ _ h2, h3⟩
/-- a new object is data -/
theorem St0.alloc (s : St0 m F G H) (h : H p = none) (ho : ∀ ps, o ≠ .tbl ps := by intro _ z; cases z) : St0 m F (upd G p o) (upd H p o) := by
  have hs : Same H (upd H p o) := same_upd h
  have hF := s.freshF h
  refine ⟨fun a u e => ?_, fun b e => ?_, fun q hq => ?_, fun a h1 h2 h3 => ?_, fun a ps e => ?_, s.ntF⟩
  · have ne : a ≠ p := fun z => by rw [z, hF] at e; cases e
    exact ⟨hs _ _ (s.fr a u e).1, by rw [upd_ne ne]; exact (s.fr a u e).2⟩
  · obtain ⟨x1, x2, x3⟩ := s.bag b e
    exact ⟨bag_mono (same_upd (s.freshG h)) (fun u q => hs _ _ q) x1, by rw [upd_ne (fun z => s.freshB h (by rw [← z]; exact e))]; exact x2, x3⟩
  · obtain ⟨x1, x2, x3⟩ := s.tab q hq
    exact ⟨x1.ext hs, by rw [upd_ne (s.freshT h q hq)]; exact x2, x3⟩
  · by_cases e : a = p
    · rw [e, upd_same, upd_same]
      exact .inl rfl
    · rw [upd_ne e, upd_ne e]
      exact s.rest a h1 h2 h3
  · by_cases z : a = p
    · rw [z, upd_same] at e
      exact ho ps (Option.some.inj e)
    · rw [upd_ne z] at e
      exact s.ntG a ps e
/-- a new object is owned -/
theorem St0.allocF (s : St0 m F G H) (h : H p = none) (ho : ∀ ps, o ≠ .tbl ps := by intro _ z; cases z) : St0 m (upd F p o) G (upd H p o) := by
  have hs : Same H (upd H p o) := same_upd h
  refine ⟨fun a u e => ?_, fun b e => ?_, fun q hq => ?_, fun a h1 h2 h3 => ?_, s.ntG, fun a ps e => ?_⟩
  · by_cases z : a = p
    · subst z
      rw [upd_same] at e
      cases e
      exact ⟨upd_same, s.freshG h⟩
    · rw [upd_ne z] at e
      exact ⟨hs _ _ (s.fr a u e).1, (s.fr a u e).2⟩
  · obtain ⟨x1, x2, x3⟩ := s.bag b e
    exact ⟨bag_mono (Same.refl _) (fun u q => hs _ _ q) x1, x2, by rw [upd_ne (fun z => s.freshB h (by rw [← z]; exact e))]; exact x3⟩
  · obtain ⟨x1, x2, x3⟩ := s.tab q hq
    exact ⟨x1.ext hs, x2, by rw [upd_ne (s.freshT h q hq)]; exact x3⟩
  · by_cases e : a = p
    · rw [e, upd_same] at h1
      cases h1
    · rw [upd_ne e] at h1 ⊢
      exact s.rest a h1 h2 h3
  · by_cases z : a = p
    · rw [z, upd_same] at e
      exact ho ps (Option.some.inj e)
    · rw [upd_ne z] at e
      exact s.ntF a ps e
/-- an owned object becomes data -/
theorem St0.freeze (s : St0 m (upd F p o) G H) (hF : F p = none) : St0 m F (upd G p o) H := by
  have hp := s.fr p o upd_same
  have hs : Same G (upd G p o) := same_upd hp.2
  refine ⟨fun a u e => ?_, fun b e => ?_, fun q hq => ?_, fun a h1 h2 h3 => ?_, fun a ps e => ?_, fun a ps e => ?_⟩
  · have ne : a ≠ p := fun z => by rw [z, hF] at e; cases e
    have q := s.fr a u (by rw [upd_ne ne]; exact e)
    exact ⟨q.1, by rw [upd_ne ne]; exact q.2⟩
  · obtain ⟨x1, x2, x3⟩ := s.bag b e
    have ne : b ≠ p := fun z => by rw [z, upd_same] at x3; cases x3
    rw [upd_ne ne] at x3
    exact ⟨bag_mono hs (fun u q => q) x1, by rw [upd_ne ne]; exact x2, x3⟩
  · obtain ⟨x1, x2, x3⟩ := s.tab q hq
    have ne : q.1 ≠ p := fun z => by rw [z, upd_same] at x3; cases x3
    rw [upd_ne ne] at x3
    exact ⟨x1, by rw [upd_ne ne]; exact x2, x3⟩
  · by_cases e : a = p
    · rw [e, upd_same]
      exact .inl hp.1
    · rw [upd_ne e]
      exact s.rest a (by rw [upd_ne e]; exact h1) h2 h3
  · by_cases z : a = p
    · rw [z, upd_same] at e
      have q := Option.some.inj e
      exact s.ntF p ps (by rw [upd_same, q])
    · rw [upd_ne z] at e
      exact s.ntG a ps e
  · have ne : a ≠ p := fun z => by rw [z, hF] at e; cases e
    exact s.ntF a ps (by rw [upd_ne ne]; exact e)
/-- an owned object is written -/
theorem St0.write (s : St0 m F G H) {u : HO} (hp : F p = some u) (nt : ∀ ps, u ≠ .tbl ps) (ne : ∀ c q, u ≠ LamX.CodeO c q) (ho : ∀ ps, o ≠ .tbl ps := by intro _ z; cases z) : St0 m (upd F p o) G (upd H p o) := by
  have hH := s.fr p u hp
  refine ⟨fun a v e => ?_, fun b e => ?_, fun q hq => ?_, fun a h1 h2 h3 => ?_, s.ntG, fun a ps e => ?_⟩
  · by_cases z : a = p
    · subst z
      rw [upd_same] at e
      cases e
      exact ⟨upd_same, hH.2⟩
    · rw [upd_ne z] at e ⊢
      exact s.fr a v e
  · obtain ⟨x1, x2, x3⟩ := s.bag b e
    have nb : b ≠ p := fun z => by rw [z, hp] at x3; cases x3
    exact ⟨bag_mono (Same.refl _) (fun u q => by rw [upd_ne nb]; exact q) x1, x2, by rw [upd_ne nb]; exact x3⟩
  · obtain ⟨⟨ps, h1, h2, h3⟩, x2, x3⟩ := s.tab q hq
    have nb : q.1 ≠ p := fun z => by rw [z, hp] at x3; cases x3
    refine ⟨⟨ps, by rw [upd_ne nb]; exact h1, h2, fun pos cv hc => ?_⟩, x2, by rw [upd_ne nb]; exact x3⟩
    obtain ⟨c, e1, e2⟩ := h3 pos cv hc
    refine ⟨c, e1, ?_⟩
    rw [upd_ne (fun z => by
      rw [z, hH.1] at e2
      exact ne _ _ (Option.some.inj e2))]
    exact e2
  · by_cases e : a = p
    · rw [e, upd_same] at h1
      cases h1
    · rw [upd_ne e] at h1 ⊢
      exact s.rest a h1 h2 h3
  · by_cases z : a = p
    · rw [z, upd_same] at e
      exact ho ps (Option.some.inj e)
    · rw [upd_ne z] at e
      exact s.ntF a ps e
theorem lst_tbl {xs : List V} : ∀ ps, HO.lst xs ≠ .tbl ps := fun _ z => by cases z
theorem lst_code {xs : List V} : ∀ c q, HO.lst xs ≠ LamX.CodeO c q := fun _ _ z => by
  have z' : HO.lst xs = HO.ext _ := z
  cases z'
/-- back to a smaller frame: what is left over becomes data; p stays apart (pass p out of all for none) -/
theorem St0.back {F' : Hp} (s : St0 m F' G H) (hs : ∀ a o, F a = some o → F' a = some o) : ∃ G', Same G G' ∧ St0 m F G' H ∧ (∀ a o, F' a = some o → F a = none → G' a = some o) := by
  refine ⟨fun a => match F a with
    | some _ => G a
    | none => (match F' a with
      | some o => some o
      | none => G a), fun a o e => ?_, ?_, fun a o e n => ?_⟩
  · have hF' : F' a = none := by
      cases q : F' a with
      | none => rfl
      | some u => rw [(s.fr a u q).2] at e; cases e
    try dsimp only
    rw [hF']
    cases F a <;> exact e
  · refine ⟨fun a o e => ?_, fun b e => ?_, fun q hq => ?_, fun a h1 h2 h3 => ?_, fun a ps e => ?_, fun a ps e => s.ntF a ps (hs a _ e)⟩
    · have q := s.fr a o (hs a o e)
      try dsimp only
      rw [e]
      exact q
    · obtain ⟨x1, x2, x3⟩ := s.bag b e
      have xF : F b = none := by
        cases q : F b with
        | none => rfl
        | some u => rw [hs b u q] at x3; cases x3
      refine ⟨bag_mono (fun a o e => ?_) (fun u q => q) x1, ?_, xF⟩
      · have hF' : F' a = none := by
          cases q : F' a with
          | none => rfl
          | some u => rw [(s.fr a u q).2] at e; cases e
        try dsimp only
        rw [hF']
        cases F a <;> exact e
      · try dsimp only
        rw [xF, x3]
        exact x2
    · obtain ⟨x1, x2, x3⟩ := s.tab q hq
      have xF : F q.1 = none := by
        cases z : F q.1 with
        | none => rfl
        | some u => rw [hs q.1 u z] at x3; cases x3
      refine ⟨x1, ?_, xF⟩
      try dsimp only
      rw [xF, x3]
      exact x2
    · try dsimp only
      rw [h1]
      cases q : F' a with
      | none => exact s.rest a q h2 h3
      | some u => exact .inl (s.fr a u q).1
    · cases q1 : F a with
      | some u =>
        rw [q1] at e
        exact s.ntG a ps e
      | none =>
        rw [q1] at e
        cases q2 : F' a with
        | some u =>
          rw [q2] at e
          exact s.ntF a ps (by rw [q2]; exact e)
        | none =>
          rw [q2] at e
          exact s.ntG a ps e
  · try dsimp only
    rw [n, e]
end
end DL

namespace DL
open PySem PySem.Spec PyProof.Rows L2

def ExcPost (m : Pm) (F0 G0 : Hp) (Ψ : Exc → Prop) (cls : Value) (d : Option Addr) (H' : Hp) : Prop :=
  ∃ (x : Exc) (G' : Hp) (dd : Addr) (fs : List (Str × V)), Ψ x ∧ m.mg x.1 = some cls ∧ d = some dd ∧ Same G0 G' ∧ St0 m F0 G' H' ∧ G' dd = some (.xd fs) ∧ fs.map (·.1) = x.2.map (·.1) ∧ DpAll m.K G' (fs.map (·.2)) (x.2.map (·.2))

structure XOk (T : List (Addr × Str)) (X : Cx) (m : Pm) (F0 G0 : Hp) (Ψ : Exc → Prop) : Prop where
  K : m.K = X.K
  mg : m.mg = X.mg
  T : m.T = T
  nd : X.N.Nodup
  calm : X.calm = true
  po : PassesOwn (model X.prog X.w) X.A X.env X.xe
  tk : Takes X (fun cls d _ H' => ExcPost m F0 G0 Ψ cls d H')

/-- the module's facts -/
structure Gm where
  P : Program
  w : World
  K : PySem.W.Frag
  mg : Str → Option Value
  base : Heap
  T : List (Addr × Str)
/-- a frame's: its names, scope, room; a def's own (not a comprehension's block) -/
structure Ctx where
  g : Gm
  N : List Str
  sc : Scope
  k : Nat
  top : Bool
  lam : Option (Addr × Addr × Str)
structure Fr (Γ : Ctx) (X : Cx) : Prop where
  prog : X.prog = Γ.g.P
  w : X.w = Γ.g.w
  K : X.K = Γ.g.K
  mg : X.mg = Γ.g.mg
  base : X.base = Γ.g.base
  N : X.N = Γ.N
  sc : X.env.scope = Γ.sc
  room : Room Γ.k X.A
  fn : Γ.top = true → ∀ x, X.fn x = true
  stk : Γ.top = true → X.stack = X.env :: X.outer ∧ X.env.frame = some X.env.locals
  lam : ∀ c P q, Γ.lam = some (c, P, q) → X.env.code = .ref c ∧ LamX.TabB X.base X.mg c P ∧ X.env.qual ++ "<lambda>" = q
def visB (sc : Scope) (x : Str) : Bool := match sc.names.lookup x with
  | some .local => true
  | some .cell => true
  | some .free => true
  | _ => false
theorem visB_ok {sc : Scope} {x : Str} (h : visB sc x = true) : Vis sc x := by
  unfold visB at h
  unfold Vis
  split at h
  · rename_i e; exact .inl e
  · rename_i e; exact .inr (.inl e)
  · rename_i e; exact .inr (.inr e)
  · cases h
def glB (sc : Scope) (x : Str) : Bool := match sc.names.lookup x with
  | some .globalImplicit => true
  | _ => false
theorem glB_ok {sc : Scope} {x : Str} (h : glB sc x = true) : sc.names.lookup x = some .globalImplicit := by
  unfold glB at h
  split at h
  · rename_i e; exact e
  · cases h
/-- a name that may be stored -/
def locB (sc : Scope) (top : Bool) (x : Str) : Bool := match sc.names.lookup x with
  | some .local => true
  | some .cell => top
  | _ => false
theorem Fr.gl {Γ : Ctx} {X : Cx} (f : Fr Γ X) {x : Str} (h : glB Γ.sc x = true) : Gl X x := by
  show X.env.scope.names.lookup x = _
  rw [f.sc]
  exact glB_ok h
theorem Fr.vis {Γ : Ctx} {X : Cx} (f : Fr Γ X) {x : Str} (h : visB Γ.sc x = true) : Vis X.env.scope x := by
  rw [f.sc]
  exact visB_ok h
theorem Fr.loc {Γ : Ctx} {X : Cx} (f : Fr Γ X) {x : Str} (h : locB Γ.sc Γ.top x = true) : Loc X.env.scope x ∧ (X.fn x = true ∨ X.env.scope.names.lookup x = some .local) := by
  unfold locB at h
  rw [f.sc]
  split at h
  · rename_i e; exact ⟨.inl e, .inr e⟩
  · rename_i e; exact ⟨.inr e, .inl (f.fn h x)⟩
  · cases h
theorem Fr.nth {Γ : Ctx} {X : Cx} (f : Fr Γ X) {i : Nat} {x : Str} (h : Γ.N[i]? = some x) : X.N[i]? = some x := by
  rw [f.N]
  exact h

structure Stt (Γ : Ctx) (X : Cx) (Ψ : Exc → Prop) (ρ : List En) (m : Pm) (F0 G0 F : Hp) (ow : Nat → Addr) (σ : L2.St) (G H : Hp) : Prop where
  f : Fr Γ X
  x : XOk Γ.g.T X m F0 G0 Ψ
  s0 : Same G0 G
  sl : Slots m F0 F ow ρ σ G
  st : St0 m F G H

theorem EnOk.mono {m : Pm} {F G G2 : Hp} {a : Addr} {x : Option (Option V)} (e : Same G G2) : ∀ {en : En}, EnOk m F G a x en → EnOk m F G2 a x en
  | .un, _ => True.intro
  | .dat _, ⟨v, h, q⟩ => ⟨v, h, dp_mono e q⟩
  | .bag, h => h
  | .own _, ⟨h, vs, f, q⟩ => ⟨h, vs, f, dps_mono e q⟩
theorem Slots.mono {m : Pm} {F0 F G G2 : Hp} {ow : Nat → Addr} {ρ : List En} {σ : L2.St} (e : Same G G2) (s : Slots m F0 F ow ρ σ G) : Slots m F0 F ow ρ σ G2 :=
  ⟨s.len, fun i en h => (s.ok i en h).mono e, s.inj, s.sub, s.new⟩
section
variable {Γ : Ctx} {X : Cx} {Ψ : Exc → Prop} {ρ : List En} {m : Pm} {F0 G0 F G G2 H H2 : Hp} {ow : Nat → Addr} {σ : L2.St}
theorem Stt.K (s : Stt Γ X Ψ ρ m F0 G0 F ow σ G H) : m.K = Γ.g.K := s.x.K.trans s.f.K
theorem Stt.mg (s : Stt Γ X Ψ ρ m F0 G0 F ow σ G H) : m.mg = Γ.g.mg := s.x.mg.trans s.f.mg
theorem Stt.next (s : Stt Γ X Ψ ρ m F0 G0 F ow σ G H) (e : Same G G2) (t : St0 m F G2 H2) : Stt Γ X Ψ ρ m F0 G0 F ow σ G2 H2 := ⟨s.f, s.x, s.s0.trans e, s.sl.mono e, t⟩
end

/-! ### the canonical readings -/
def wE (X : Cx) (e : Expr) : TE := fun σ H Q => ∃ t, PE X e t ∧ t σ H Q
def wT (X : Cx) (e : Expr) : TT := fun σ H Q => ∃ t, PT X e t ∧ t σ H Q
def wA (X : Cx) (es : List Expr) : TA := fun σ H Q => ∃ t, PA X es t ∧ t σ H Q
def wS (X : Cx) (st : Stmt) : TS := fun D σ H => ∃ t, PS X st t ∧ t D σ H
def wSs (X : Cx) (sts : List Stmt) : TS := fun D σ H => ∃ t, PSs X sts t ∧ t D σ H
section
variable {X : Cx}
theorem pe_w {e : Expr} : PE X e (wE X e) := ⟨fun pins s σ H Q I h => by
  obtain ⟨t, h, q⟩ := h
  exact h.run pins s σ H Q I q⟩
theorem pt_w {e : Expr} : PT X e (wT X e) := ⟨fun pins s σ H Q I h => by
  obtain ⟨t, h, q⟩ := h
  exact h.run pins s σ H Q I q⟩
theorem pa_w {es : List Expr} : PA X es (wA X es) := ⟨fun pos pins s σ H Q I h => by
  obtain ⟨t, h, q⟩ := h
  exact h.run pos pins s σ H Q I q⟩
theorem ps_w {st : Stmt} : PS X st (wS X st) := ⟨fun pins s σ H Q I h => by
  obtain ⟨t, h, q⟩ := h
  exact h.run pins s σ H Q I q⟩
theorem pss_w {sts : List Stmt} : PSs X sts (wSs X sts) := ⟨fun pins s σ H Q I h => by
  obtain ⟨t, h, q⟩ := h
  exact h.run pins s σ H Q I q⟩
end

/-! ### the judgements over data -/
structure EV (Γ : Ctx) (Ψ : Exc → Prop) (ρ : List En) (e : Expr) (Φ : D → Prop) : Prop where
  run : ∀ {X : Cx} {m : Pm} {F0 G0 F : Hp} {ow : Nat → Addr} {σ : L2.St} {G H : Hp}, Stt Γ X Ψ ρ m F0 G0 F ow σ G H →
    ∀ Q : VK, (∀ d v G2 H2, Φ d → Same G G2 → St0 m F G2 H2 → Dp m.K G2 v d → Q v H2) → wE X e σ H Q
/-- a new list -/
structure EVN (Γ : Ctx) (Ψ : Exc → Prop) (ρ : List En) (e : Expr) (Φ : List D → Prop) : Prop where
  run : ∀ {X : Cx} {m : Pm} {F0 G0 F : Hp} {ow : Nat → Addr} {σ : L2.St} {G H : Hp}, Stt Γ X Ψ ρ m F0 G0 F ow σ G H →
    ∀ Q : VK, (∀ ds p vs G2 H2, Φ ds → Same G G2 → F p = none → St0 m (upd F p (.lst vs)) G2 H2 → DpAll m.K G2 vs ds → Q (.ref p) H2) → wE X e σ H Q
structure EVT (Γ : Ctx) (Ψ : Exc → Prop) (ρ : List En) (e : Expr) (Φ : Bool → Prop) : Prop where
  run : ∀ {X : Cx} {m : Pm} {F0 G0 F : Hp} {ow : Nat → Addr} {σ : L2.St} {G H : Hp}, Stt Γ X Ψ ρ m F0 G0 F ow σ G H →
    ∀ Q : Bool → Hp → Prop, (∀ b G2 H2, Φ b → Same G G2 → St0 m F G2 H2 → Q b H2) → wT X e σ H Q
def ArgOk (m : Pm) (G : Hp) (v : V) : En → Prop
  | .dat d => Dp m.K G v d
  | .bag => ∃ b, m.B = some b ∧ v = .ref b
  | _ => False
inductive Args (m : Pm) (G : Hp) : List V → List En → Prop
  | nil : Args m G [] []
  | cons {v : V} {vs : List V} {a : En} {as : List En} : ArgOk m G v a → Args m G vs as → Args m G (v :: vs) (a :: as)
theorem ArgOk.mono {m : Pm} {G G2 : Hp} {v : V} (e : Same G G2) : ∀ {a : En}, ArgOk m G v a → ArgOk m G2 v a
  | .un, h => h
  | .dat _, h => dp_mono e h
  | .bag, h => h
  | .own _, h => h
theorem Args.mono {m : Pm} {G G2 : Hp} (e : Same G G2) : ∀ {vs : List V} {as : List En}, Args m G vs as → Args m G2 vs as
  | _, _, .nil => .nil
  | _, _, .cons h r => .cons (h.mono e) (r.mono e)
theorem Args.len {m : Pm} {G : Hp} : ∀ {vs : List V} {as : List En}, Args m G vs as → vs.length = as.length
  | _, _, .nil => rfl
  | _, _, .cons _ r => congrArg (· + 1) r.len
theorem Args.data {m : Pm} {G : Hp} : ∀ {vs : List V} {ds : List D}, Args m G vs (ds.map .dat) → DpAll m.K G vs ds
  | _, [], .nil => .nil
  | _, _ :: _, .cons h r => .cons h (Args.data r)
theorem Args.ofData {m : Pm} {G : Hp} : ∀ {vs : List V} {ds : List D}, DpAll m.K G vs ds → Args m G vs (ds.map .dat)
  | _, _, .nil => .nil
  | _, _, .cons h r => .cons h (Args.ofData r)
structure EVA (Γ : Ctx) (Ψ : Exc → Prop) (ρ : List En) (es : List Expr) (Φ : List En → Prop) : Prop where
  run : ∀ {X : Cx} {m : Pm} {F0 G0 F : Hp} {ow : Nat → Addr} {σ : L2.St} {G H : Hp}, Stt Γ X Ψ ρ m F0 G0 F ow σ G H →
    ∀ Q : List V → Hp → Prop, (∀ as vs G2 H2, Φ as → Same G G2 → St0 m F G2 H2 → Args m G2 vs as → Q vs H2) → wA X es σ H Q

section
variable {Γ : Ctx} {Ψ : Exc → Prop} {ρ : List En} {a b c e : Expr} {es : List Expr} {pos : Pos} {Φ Φ1 Φ2 Φ3 : D → Prop}
theorem EV.imp (h : EV Γ Ψ ρ e Φ) (i : ∀ d, Φ d → Φ1 d) : EV Γ Ψ ρ e Φ1 := ⟨fun s Q q => h.run s Q fun d v G2 H2 p => q d v G2 H2 (i d p)⟩
theorem EVN.imp {Φ Φ1 : List D → Prop} (h : EVN Γ Ψ ρ e Φ) (i : ∀ d, Φ d → Φ1 d) : EVN Γ Ψ ρ e Φ1 := ⟨fun s Q q => h.run s Q fun d v vs G2 H2 p => q d v vs G2 H2 (i d p)⟩
theorem EVT.imp {Φ Φ1 : Bool → Prop} (h : EVT Γ Ψ ρ e Φ) (i : ∀ d, Φ d → Φ1 d) : EVT Γ Ψ ρ e Φ1 := ⟨fun s Q q => h.run s Q fun d G2 H2 p => q d G2 H2 (i d p)⟩
theorem EVA.imp {Φ Φ1 : List En → Prop} (h : EVA Γ Ψ ρ es Φ) (i : ∀ d, Φ d → Φ1 d) : EVA Γ Ψ ρ es Φ1 := ⟨fun s Q q => h.run s Q fun d v G2 H2 p => q d v G2 H2 (i d p)⟩
/-- a new list as data -/
theorem EVN.ev {Φ : List D → Prop} (h : EVN Γ Ψ ρ e Φ) : EV Γ Ψ ρ e (fun d => ∃ ds, d = .list ds ∧ Φ ds) := ⟨fun s Q q =>
  h.run s Q fun ds p vs G2 H2 p1 e hF st dp => by
    have hG := (st.fr p _ upd_same).2
    exact q _ _ (upd G2 p (.lst vs)) H2 ⟨ds, rfl, p1⟩ (e.trans (same_upd hG)) (st.freeze hF) (.lst (SqL.of upd_same) (dps_mono (same_upd hG) dp))⟩
theorem EVN.ev1 {ds : List D} (h : EVN Γ Ψ ρ e (· = ds)) : EV Γ Ψ ρ e (· = .list ds) := h.ev.imp fun d ⟨es, h1, h2⟩ => by rw [h1, h2]

/-! ### names and constants -/
theorem ev_name {x : Str} (i : Nat) {d : D} (hρ : ρ[i]? = some (.dat d)) (hN : Γ.N[i]? = some x) (hv : visB Γ.sc x = true) (hd : (x == ("__debug__" : Str)) = false := by kernel_rfl) (hcd : (x == ("__classdict__" : Str)) = false := by kernel_rfl) : EV Γ Ψ ρ (.Name x pos) (· = d) := ⟨fun {X m F0 G0 F ow σ G H} s Q q => by
  obtain ⟨v, h1, h2⟩ := s.sl.ok i _ hρ
  exact ⟨_, pe_var (s.f.nth hN) (s.f.vis hv) hd hcd, v, h1, q d v G H rfl (Same.refl _) s.st h2⟩⟩
theorem ev_const {t : V} {d : D} (h : ∀ X, PE X e (tC t)) (hd : ∀ K G, Dp K G t d) : EV Γ Ψ ρ e (· = d) := ⟨fun {X m F0 G0 F ow σ G H} s Q q => ⟨_, h X, q d t G H rfl (Same.refl _) s.st (hd _ _)⟩⟩
theorem ev_int {i : Int} {j : Nat} : EV Γ Ψ ρ (.Constant (.int i) j pos) (· = .int i) := ev_const (fun _ => pe_int) fun _ _ => .int i
theorem ev_bool {i : Bool} {j : Nat} : EV Γ Ψ ρ (.Constant (.bool i) j pos) (· = .bool i) := ev_const (fun _ => pe_bl) fun _ _ => .bl i
theorem ev_none {j : Nat} : EV Γ Ψ ρ (.Constant .none j pos) (· = .none) := ev_const (fun _ => pe_non) fun _ _ => .non
theorem ev_str {i : Str} {j : Nat} : EV Γ Ψ ρ (.Constant (.str i) j pos) (· = .str i) := ev_const (fun _ => pe_str) fun _ _ => .str i
/-- a module's constant -/
theorem ev_glob {x : Str} {v : V} {u : Value} {d : D} (hg : glB Γ.sc x = true) (hm : Γ.g.mg x = some u) (r : RelV v u) (hd : ∀ G, Dp Γ.g.K G v d) (hdb : (x == ("__debug__" : Str)) = false := by kernel_rfl) : EV Γ Ψ ρ (.Name x pos) (· = d) := ⟨fun {X m F0 G0 F ow σ G H} s Q q =>
  ⟨_, pe_glob (s.f.gl hg) (by rw [s.f.mg]; exact hm) r hdb, q d v G H rfl (Same.refl _) s.st (by rw [s.K]; exact hd G)⟩⟩

/-! ### operations -/
/-- an operation by values, over data -/
def RD (K : PySem.W.Frag) (r : R2) (x y : D) (Φ : D → Prop) : Prop :=
  ∀ (m : Pm) (F G H : Hp) (vx vy : V) (Q : VK), m.K = K → St0 m F G H → Dp K G vx x → Dp K G vy y → (∀ d v G2 H2, Φ d → Same G G2 → St0 m F G2 H2 → Dp K G2 v d → Q v H2) → r vx vy H Q
theorem RD.imp {K : PySem.W.Frag} {r : R2} {x y : D} (h : RD K r x y Φ) (i : ∀ d, Φ d → Φ1 d) : RD K r x y Φ1 := fun m F G H vx vy Q e s h1 h2 q => h m F G H vx vy Q e s h1 h2 fun d v G2 H2 p => q d v G2 H2 (i d p)
theorem ev2 {r : R2} {te : Cx → TE} (hp : ∀ X, Fr Γ X → PE X c (te X)) (he : ∀ X σ H Q, (wE X a σ H fun x H1 => wE X b σ H1 fun y H2 => r x y H2 Q) → te X σ H Q) (ha : EV Γ Ψ ρ a Φ1) (hb : EV Γ Ψ ρ b Φ2) (h : ∀ x y, Φ1 x → Φ2 y → RD Γ.g.K r x y Φ) : EV Γ Ψ ρ c Φ :=
  ⟨fun {X m F0 G0 F ow σ G H} s Q q => ⟨te X, hp X s.f, he _ _ _ _ (ha.run s _ fun x vx G1 H1 p1 e1 s1 d1 => hb.run (s.next e1 s1) _ fun y vy G2 H2 p2 e2 s2 d2 =>
    h x y p1 p2 m F G2 H2 vx vy Q s.K s2 (by rw [← s.K]; exact dp_mono e2 d1) (by rw [← s.K]; exact d2) fun d v G3 H3 p3 e3 s3 d3 => q d v G3 H3 p3 ((e1.trans e2).trans e3) s3 (by rw [s.K]; exact d3))⟩⟩
theorem ev_op {op : Operator} {r : R2} (ho : ∀ X, Fr Γ X → OpR X (binaryOp op) r) (ha : EV Γ Ψ ρ a Φ1) (hb : EV Γ Ψ ρ b Φ2) (h : ∀ x y, Φ1 x → Φ2 y → RD Γ.g.K r x y Φ) : EV Γ Ψ ρ (.BinOp a op b pos) Φ :=
  ev2 (fun X f => pe_op (ho X f) pe_w pe_w) (fun _ _ _ _ h => h) ha hb h
theorem ev_cmp {op : CmpOp} {r : R2} (ho : ∀ X, Fr Γ X → OpR X (compareOp op) r) (hm : behindInMarks op b = false) (ha : EV Γ Ψ ρ a Φ1) (hb : EV Γ Ψ ρ b Φ2) (h : ∀ x y, Φ1 x → Φ2 y → RD Γ.g.K r x y Φ) : EV Γ Ψ ρ (.Compare a [op] [b] pos) Φ :=
  ev2 (fun X f => pe_cmpR (ho X f) pe_w pe_w hm) (fun _ _ _ _ h => h) ha hb h
/-- the same as a test -/
theorem evt_cmp {op : CmpOp} {r : R2} {Φ : Bool → Prop} (ho : ∀ X, Fr Γ X → OpR X (compareOp op) r) (hm : behindInMarks op b = false) (ha : EV Γ Ψ ρ a Φ1) (hb : EV Γ Ψ ρ b Φ2) (h : ∀ x y, Φ1 x → Φ2 y → RD Γ.g.K r x y (fun d => ∃ k, d = .bool k ∧ Φ k)) : EVT Γ Ψ ρ (.Compare a [op] [b] pos) Φ :=
  ⟨fun {X m F0 G0 F ow σ G H} s Q q => ⟨_, pt_cmpR (ho X s.f) pe_w pe_w hm, ha.run s _ fun x vx G1 H1 p1 e1 s1 d1 => hb.run (s.next e1 s1) _ fun y vy G2 H2 p2 e2 s2 d2 =>
    h x y p1 p2 m F G2 H2 vx vy _ s.K s2 (by rw [← s.K]; exact dp_mono e2 d1) (by rw [← s.K]; exact d2) fun d v G3 H3 p3 e3 s3 d3 => by
      obtain ⟨k, rfl, hk⟩ := p3
      cases d3
      exact ⟨k, rfl, q k G3 H3 hk ((e1.trans e2).trans e3) s3⟩⟩⟩
theorem rd_I0 {K : PySem.W.Frag} {g : Int → Int → V} {i j : Int} {d : D} (h : ∀ G, Dp K G (g i j) d) : RD K (rI0 g) (.int i) (.int j) (· = d) := fun m F G H vx vy Q e s h1 h2 q => by
  cases h1
  cases h2
  exact ⟨i, j, rfl, rfl, q d _ G H rfl (Same.refl _) s (h G)⟩
theorem rd_I {K : PySem.W.Frag} {C : Int → Int → Prop} {g : Int → Int → V} {i j : Int} {d : D} (hc : C i j) (h : ∀ G, Dp K G (g i j) d) : RD K (rI C g) (.int i) (.int j) (· = d) := fun m F G H vx vy Q e s h1 h2 q => by
  cases h1
  cases h2
  exact ⟨i, j, rfl, rfl, hc, q d _ G H rfl (Same.refl _) s (h G)⟩
variable {i j : Int}
theorem ev_add (ha : EV Γ Ψ ρ a (· = .int i)) (hb : EV Γ Ψ ρ b (· = .int j)) : EV Γ Ψ ρ (.BinOp a .Add b pos) (· = .int (i + j)) := ev_op (fun _ _ => op_add) ha hb fun x y h1 h2 => by subst h1; subst h2; exact rd_I0 fun _ => .int _
theorem ev_sub (ha : EV Γ Ψ ρ a (· = .int i)) (hb : EV Γ Ψ ρ b (· = .int j)) : EV Γ Ψ ρ (.BinOp a .Sub b pos) (· = .int (i - j)) := ev_op (fun _ _ => op_sub) ha hb fun x y h1 h2 => by subst h1; subst h2; exact rd_I0 fun _ => .int _
theorem ev_mul (ha : EV Γ Ψ ρ a (· = .int i)) (hb : EV Γ Ψ ρ b (· = .int j)) (hc : CMul i j) : EV Γ Ψ ρ (.BinOp a .Mult b pos) (· = .int (i * j)) := ev_op (fun _ _ => op_mul) ha hb fun x y h1 h2 => by subst h1; subst h2; exact rd_I hc fun _ => .int _
theorem ev_mod (ha : EV Γ Ψ ρ a (· = .int i)) (hb : EV Γ Ψ ρ b (· = .int j)) (hc : 0 < j) : EV Γ Ψ ρ (.BinOp a .Mod b pos) (· = .int (i % j)) := ev_op (fun _ _ => op_mod) ha hb fun x y h1 h2 => by subst h1; subst h2; exact rd_I hc fun _ => .int _
theorem ev_fdiv (ha : EV Γ Ψ ρ a (· = .int i)) (hb : EV Γ Ψ ρ b (· = .int j)) (hc : CDiv i j) : EV Γ Ψ ρ (.BinOp a .FloorDiv b pos) (· = .int (i / j)) := ev_op (fun _ _ => op_fdiv) ha hb fun x y h1 h2 => by subst h1; subst h2; exact rd_I hc fun _ => .int _
theorem ev_pow (ha : EV Γ Ψ ρ a (· = .int i)) (hb : EV Γ Ψ ρ b (· = .int j)) (hc : CPow i j) : EV Γ Ψ ρ (.BinOp a .Pow b pos) (· = .int (i ^ j.toNat)) := ev_op (fun _ _ => op_pow) ha hb fun x y h1 h2 => by subst h1; subst h2; exact rd_I hc fun _ => .int _
theorem ev_neg (ha : EV Γ Ψ ρ a (· = .int i)) : EV Γ Ψ ρ (.UnaryOp .USub a pos) (· = .int (-i)) := ⟨fun {X m F0 G0 F ow σ G H} s Q q => ⟨_, pe_un un_neg pe_w, ha.run s _ fun x vx G1 H1 p1 e1 s1 d1 => by
  subst p1
  cases d1
  exact ⟨i, rfl, q _ _ G1 H1 rfl e1 s1 (.int _)⟩⟩⟩
theorem ev_lt (ha : EV Γ Ψ ρ a (· = .int i)) (hb : EV Γ Ψ ρ b (· = .int j)) : EV Γ Ψ ρ (.Compare a [.Lt] [b] pos) (· = .bool (decide (i < j))) := ev_cmp (fun _ _ => op_lt) (nomark _) ha hb fun x y h1 h2 => by subst h1; subst h2; exact rd_I0 fun _ => .bl _
theorem ev_le (ha : EV Γ Ψ ρ a (· = .int i)) (hb : EV Γ Ψ ρ b (· = .int j)) : EV Γ Ψ ρ (.Compare a [.LtE] [b] pos) (· = .bool (decide (i ≤ j))) := ev_cmp (fun _ _ => op_le) (nomark _) ha hb fun x y h1 h2 => by subst h1; subst h2; exact rd_I0 fun _ => .bl _
theorem ev_gt (ha : EV Γ Ψ ρ a (· = .int i)) (hb : EV Γ Ψ ρ b (· = .int j)) : EV Γ Ψ ρ (.Compare a [.Gt] [b] pos) (· = .bool (decide (j < i))) := ev_cmp (fun _ _ => op_gt) (nomark _) ha hb fun x y h1 h2 => by subst h1; subst h2; exact rd_I0 fun _ => .bl _
theorem ev_ge (ha : EV Γ Ψ ρ a (· = .int i)) (hb : EV Γ Ψ ρ b (· = .int j)) : EV Γ Ψ ρ (.Compare a [.GtE] [b] pos) (· = .bool (decide (j ≤ i))) := ev_cmp (fun _ _ => op_ge) (nomark _) ha hb fun x y h1 h2 => by subst h1; subst h2; exact rd_I0 fun _ => .bl _
/-- an equation of data becomes a test -/
theorem rd_t {K : PySem.W.Frag} {r : R2} {x y : D} {k : Bool} (h : RD K r x y (· = .bool k)) : RD K r x y (fun d => ∃ k', d = .bool k' ∧ k' = k) := h.imp fun d e => ⟨k, e, rfl⟩
theorem evt_lt (ha : EV Γ Ψ ρ a (· = .int i)) (hb : EV Γ Ψ ρ b (· = .int j)) : EVT Γ Ψ ρ (.Compare a [.Lt] [b] pos) (· = decide (i < j)) := evt_cmp (fun _ _ => op_lt) (nomark _) ha hb fun x y h1 h2 => by subst h1; subst h2; exact rd_t (rd_I0 fun _ => .bl _)
theorem evt_le (ha : EV Γ Ψ ρ a (· = .int i)) (hb : EV Γ Ψ ρ b (· = .int j)) : EVT Γ Ψ ρ (.Compare a [.LtE] [b] pos) (· = decide (i ≤ j)) := evt_cmp (fun _ _ => op_le) (nomark _) ha hb fun x y h1 h2 => by subst h1; subst h2; exact rd_t (rd_I0 fun _ => .bl _)
theorem evt_gt (ha : EV Γ Ψ ρ a (· = .int i)) (hb : EV Γ Ψ ρ b (· = .int j)) : EVT Γ Ψ ρ (.Compare a [.Gt] [b] pos) (· = decide (j < i)) := evt_cmp (fun _ _ => op_gt) (nomark _) ha hb fun x y h1 h2 => by subst h1; subst h2; exact rd_t (rd_I0 fun _ => .bl _)
theorem evt_ge (ha : EV Γ Ψ ρ a (· = .int i)) (hb : EV Γ Ψ ρ b (· = .int j)) : EVT Γ Ψ ρ (.Compare a [.GtE] [b] pos) (· = decide (j ≤ i)) := evt_cmp (fun _ _ => op_ge) (nomark _) ha hb fun x y h1 h2 => by subst h1; subst h2; exact rd_t (rd_I0 fun _ => .bl _)
/-- == and != of any data -/
theorem rd_eqD {K : PySem.W.Frag} {x y : D} (hx : SeqAt.shaped x = true) (hy : SeqAt.shaped y = true) : RD K (rEqD K) x y (· = .bool (PyData.eqv x y)) := fun m F G H vx vy Q e s h1 h2 q =>
  ⟨x, y, dp_mono s.same h1, dp_mono s.same h2, hx, hy, q _ _ G H rfl (Same.refl _) s (.bl _)⟩
theorem rd_neD {K : PySem.W.Frag} {x y : D} (hx : SeqAt.shaped x = true) (hy : SeqAt.shaped y = true) : RD K (rNeD K) x y (· = .bool (!PyData.eqv x y)) := fun m F G H vx vy Q e s h1 h2 q =>
  ⟨x, y, dp_mono s.same h1, dp_mono s.same h2, hx, hy, q _ _ G H rfl (Same.refl _) s (.bl _)⟩
theorem ev_eq {x y : D} (ha : EV Γ Ψ ρ a (· = x)) (hb : EV Γ Ψ ρ b (· = y)) (hx : SeqAt.shaped x = true) (hy : SeqAt.shaped y = true) : EV Γ Ψ ρ (.Compare a [.Eq] [b] pos) (· = .bool (PyData.eqv x y)) := ev_cmp (r := rEqD Γ.g.K) (fun X f => by rw [← f.K]; exact op_eqD f.room.units) (nomark _) ha hb fun x y h1 h2 => by subst h1; subst h2; exact rd_eqD hx hy
theorem ev_ne {x y : D} (ha : EV Γ Ψ ρ a (· = x)) (hb : EV Γ Ψ ρ b (· = y)) (hx : SeqAt.shaped x = true) (hy : SeqAt.shaped y = true) : EV Γ Ψ ρ (.Compare a [.NotEq] [b] pos) (· = .bool (!PyData.eqv x y)) := ev_cmp (r := rNeD Γ.g.K) (fun X f => by rw [← f.K]; exact op_neD f.room.units) (nomark _) ha hb fun x y h1 h2 => by subst h1; subst h2; exact rd_neD hx hy
theorem evt_eq {x y : D} (ha : EV Γ Ψ ρ a (· = x)) (hb : EV Γ Ψ ρ b (· = y)) (hx : SeqAt.shaped x = true) (hy : SeqAt.shaped y = true) : EVT Γ Ψ ρ (.Compare a [.Eq] [b] pos) (· = PyData.eqv x y) := evt_cmp (r := rEqD Γ.g.K) (fun X f => by rw [← f.K]; exact op_eqD f.room.units) (nomark _) ha hb fun x y h1 h2 => by subst h1; subst h2; exact rd_t (rd_eqD hx hy)
theorem evt_ne {x y : D} (ha : EV Γ Ψ ρ a (· = x)) (hb : EV Γ Ψ ρ b (· = y)) (hx : SeqAt.shaped x = true) (hy : SeqAt.shaped y = true) : EVT Γ Ψ ρ (.Compare a [.NotEq] [b] pos) (· = !PyData.eqv x y) := evt_cmp (r := rNeD Γ.g.K) (fun X f => by rw [← f.K]; exact op_neD f.room.units) (nomark _) ha hb fun x y h1 h2 => by subst h1; subst h2; exact rd_t (rd_neD hx hy)
/-- == and != of two ints -/
theorem evt_eqI (ha : EV Γ Ψ ρ a (· = .int i)) (hb : EV Γ Ψ ρ b (· = .int j)) : EVT Γ Ψ ρ (.Compare a [.Eq] [b] pos) (· = decide (i = j)) := evt_cmp (fun _ _ => op_eq) (nomark _) ha hb fun x y h1 h2 => by
  subst h1; subst h2
  exact rd_t fun m F G H vx vy Q e s h1 h2 q => by
    cases h1
    cases h2
    exact ⟨rfl, q _ _ G H (by simp) (Same.refl _) s (.bl _)⟩
theorem evt_neI (ha : EV Γ Ψ ρ a (· = .int i)) (hb : EV Γ Ψ ρ b (· = .int j)) : EVT Γ Ψ ρ (.Compare a [.NotEq] [b] pos) (· = !decide (i = j)) := evt_cmp (fun _ _ => op_ne) (nomark _) ha hb fun x y h1 h2 => by
  subst h1; subst h2
  exact rd_t fun m F G H vx vy Q e s h1 h2 q => by
    cases h1
    cases h2
    exact ⟨rfl, q _ _ G H (by simp) (Same.refl _) s (.bl _)⟩
theorem ev_eqI (ha : EV Γ Ψ ρ a (· = .int i)) (hb : EV Γ Ψ ρ b (· = .int j)) : EV Γ Ψ ρ (.Compare a [.Eq] [b] pos) (· = .bool (decide (i = j))) := ev_cmp (fun _ _ => op_eq) (nomark _) ha hb fun x y h1 h2 => by
  subst h1; subst h2
  exact fun m F G H vx vy Q e s h1 h2 q => by
    cases h1
    cases h2
    exact ⟨rfl, q _ _ G H (by simp) (Same.refl _) s (.bl _)⟩
theorem ev_neI (ha : EV Γ Ψ ρ a (· = .int i)) (hb : EV Γ Ψ ρ b (· = .int j)) : EV Γ Ψ ρ (.Compare a [.NotEq] [b] pos) (· = .bool (!decide (i = j))) := ev_cmp (fun _ _ => op_ne) (nomark _) ha hb fun x y h1 h2 => by
  subst h1; subst h2
  exact fun m F G H vx vy Q e s h1 h2 q => by
    cases h1
    cases h2
    exact ⟨rfl, q _ _ G H (by simp) (Same.refl _) s (.bl _)⟩
/-- is None -/
def isNoneD : D → Bool
  | .none => true
  | _ => false
theorem isNone_dp {K : PySem.W.Frag} {G : Hp} {v : V} {d : D} (h : Dp K G v d) : decide (v = .non) = isNoneD d := by
  cases h <;> simp [isNoneD]
theorem ev_isN {x : D} {p2 : Pos} {k : Nat} (ha : EV Γ Ψ ρ a (· = x)) : EV Γ Ψ ρ (.Compare a [.Is] [.Constant .none k p2] pos) (· = .bool (isNoneD x)) := ev_cmp (fun _ _ => op_isN) (nomark _) ha (ev_none (Γ := Γ) (Ψ := Ψ) (ρ := ρ)) fun x y h1 h2 => by
  subst h1; subst h2
  exact fun m F G H vx vy Q e s h1 h2 q => by
    cases h2
    exact ⟨rfl, q _ _ G H (by rw [isNone_dp h1]) (Same.refl _) s (.bl _)⟩
theorem ev_notN {x : D} {p2 : Pos} {k : Nat} (ha : EV Γ Ψ ρ a (· = x)) : EV Γ Ψ ρ (.Compare a [.IsNot] [.Constant .none k p2] pos) (· = .bool (!isNoneD x)) := ev_cmp (fun _ _ => op_notN) (nomark _) ha (ev_none (Γ := Γ) (Ψ := Ψ) (ρ := ρ)) fun x y h1 h2 => by
  subst h1; subst h2
  exact fun m F G H vx vy Q e s h1 h2 q => by
    cases h2
    exact ⟨rfl, q _ _ G H (by rw [isNone_dp h1]) (Same.refl _) s (.bl _)⟩
theorem evt_isN {x : D} {p2 : Pos} {k : Nat} (ha : EV Γ Ψ ρ a (· = x)) : EVT Γ Ψ ρ (.Compare a [.Is] [.Constant .none k p2] pos) (· = isNoneD x) := evt_cmp (fun _ _ => op_isN) (nomark _) ha (ev_none (Γ := Γ) (Ψ := Ψ) (ρ := ρ)) fun x y h1 h2 => by
  subst h1; subst h2
  exact rd_t fun m F G H vx vy Q e s h1 h2 q => by
    cases h2
    exact ⟨rfl, q _ _ G H (by rw [isNone_dp h1]) (Same.refl _) s (.bl _)⟩
theorem evt_notN {x : D} {p2 : Pos} {k : Nat} (ha : EV Γ Ψ ρ a (· = x)) : EVT Γ Ψ ρ (.Compare a [.IsNot] [.Constant .none k p2] pos) (· = !isNoneD x) := evt_cmp (fun _ _ => op_notN) (nomark _) ha (ev_none (Γ := Γ) (Ψ := Ψ) (ρ := ρ)) fun x y h1 h2 => by
  subst h1; subst h2
  exact rd_t fun m F G H vx vy Q e s h1 h2 q => by
    cases h2
    exact ⟨rfl, q _ _ G H (by rw [isNone_dp h1]) (Same.refl _) s (.bl _)⟩

/-! ### tests -/
theorem evt_val {k : Bool} (ha : EV Γ Ψ ρ a (· = .bool k)) (he : ∀ env whole, isTrue a env whole = (do let v ← whole; standAt a.pos; holding [v] (truthy v)) := by intro _ _; kernel_rfl) : EVT Γ Ψ ρ a (· = k) := ⟨fun {X m F0 G0 F ow σ G H} s Q q => ⟨_, pt_val pe_w (he _), ha.run s _ fun x vx G1 H1 p1 e1 s1 d1 => by
  subst p1
  cases d1
  exact ⟨k, rfl, q k G1 H1 rfl e1 s1⟩⟩⟩
theorem evt_not {k : Bool} (ha : EVT Γ Ψ ρ a (· = k)) : EVT Γ Ψ ρ (.UnaryOp .Not a pos) (· = !k) := ⟨fun {X m F0 G0 F ow σ G H} s Q q => ⟨_, pt_not pt_w, ha.run s _ fun b G1 H1 p1 e1 s1 => by
  subst p1
  exact q _ G1 H1 rfl e1 s1⟩⟩
/-- a test whatever its whole is -/
structure EVW (Γ : Ctx) (Ψ : Exc → Prop) (ρ : List En) (e : Expr) (Φ : Bool → Prop) : Prop where
  run : ∀ {X : Cx} {m : Pm} {F0 G0 F : Hp} {ow : Nat → Addr} {σ : L2.St} {G H : Hp}, Stt Γ X Ψ ρ m F0 G0 F ow σ G H →
    ∀ Q : Bool → Hp → Prop, (∀ b G2 H2, Φ b → Same G G2 → St0 m F G2 H2 → Q b H2) → ∃ t, PW X e t ∧ t σ H Q
def wW (X : Cx) (e : Expr) : TT := fun σ H Q => ∃ t, PW X e t ∧ t σ H Q
theorem pw_w {X : Cx} : PW X e (wW X e) := ⟨fun w pins s σ H Q I h => by
  obtain ⟨t, h, q⟩ := h
  exact h.run w pins s σ H Q I q⟩
theorem EVW.evt {Φ : Bool → Prop} (h : EVW Γ Ψ ρ e Φ) : EVT Γ Ψ ρ e Φ := ⟨fun s Q q => by
  obtain ⟨t, h1, h2⟩ := h.run s Q q
  exact ⟨t, h1.pt, h2⟩⟩
theorem evw_and1 {Φ : Bool → Prop} (ha : EVT Γ Ψ ρ a Φ) : EVW Γ Ψ ρ (.BoolOp .And [a] pos) Φ := ⟨fun s Q q => ⟨_, pw_and1 pt_w, ha.run s Q q⟩⟩
theorem evw_or1 {Φ : Bool → Prop} (ha : EVT Γ Ψ ρ a Φ) : EVW Γ Ψ ρ (.BoolOp .Or [a] pos) Φ := ⟨fun s Q q => ⟨_, pw_or1 pt_w, ha.run s Q q⟩⟩
/-- the second test is asked only behind a first one that holds -/
theorem evw_and {k l : Bool} {rest : List Expr} (ha : EVT Γ Ψ ρ a (· = k)) (hb : k = true → EVW Γ Ψ ρ (.BoolOp .And (b :: rest) pos) (· = l)) : EVW Γ Ψ ρ (.BoolOp .And (a :: b :: rest) pos) (· = (k && l)) := ⟨fun {X m F0 G0 F ow σ G H} s Q q => ⟨_, pw_and pt_w pw_w, ha.run s _ fun x G1 H1 p1 e1 s1 => by
  subst p1
  cases x with
  | false => exact iteF (q _ G1 H1 rfl e1 s1)
  | true => exact iteT ((hb rfl).run (s.next e1 s1) Q fun y G2 H2 p2 e2 s2 => q _ G2 H2 (by rw [p2]; rfl) (e1.trans e2) s2)⟩⟩
theorem evw_or {k l : Bool} {rest : List Expr} (ha : EVT Γ Ψ ρ a (· = k)) (hb : k = false → EVW Γ Ψ ρ (.BoolOp .Or (b :: rest) pos) (· = l)) : EVW Γ Ψ ρ (.BoolOp .Or (a :: b :: rest) pos) (· = (k || l)) := ⟨fun {X m F0 G0 F ow σ G H} s Q q => ⟨_, pw_or pt_w pw_w, ha.run s _ fun x G1 H1 p1 e1 s1 => by
  subst p1
  cases x with
  | true => exact iteT (q _ G1 H1 rfl e1 s1)
  | false => exact iteF ((hb rfl).run (s.next e1 s1) Q fun y G2 H2 p2 e2 s2 => q _ G2 H2 (by rw [p2]; rfl) (e1.trans e2) s2)⟩⟩
/-- and, or, not as values -/
theorem ev_one {op : BoolOp} (ha : EV Γ Ψ ρ a Φ) : EV Γ Ψ ρ (.BoolOp op [a] pos) Φ := ⟨fun s Q q => ⟨_, pe_one pe_w, ha.run s Q q⟩⟩
theorem ev_and {k : Bool} {rest : List Expr} {d : D} (ha : EV Γ Ψ ρ a (· = .bool k)) (hb : k = true → EV Γ Ψ ρ (.BoolOp .And (b :: rest) pos) (· = d)) : EV Γ Ψ ρ (.BoolOp .And (a :: b :: rest) pos) (· = if k = true then d else .bool false) := ⟨fun {X m F0 G0 F ow σ G H} s Q q => ⟨_, pe_and pe_w pe_w, ha.run s _ fun x vx G1 H1 p1 e1 s1 d1 => by
  subst p1
  cases d1
  refine ⟨k, rfl, ?_⟩
  cases k with
  | false => exact iteF (q _ _ G1 H1 (by rw [if_neg Bool.false_ne_true]) e1 s1 (.bl _))
  | true => exact iteT ((hb rfl).run (s.next e1 s1) Q fun y v G2 H2 p2 e2 s2 d2 => q y v G2 H2 (by rw [p2, if_pos rfl]) (e1.trans e2) s2 d2)⟩⟩
theorem ev_or {k : Bool} {rest : List Expr} {d : D} (ha : EV Γ Ψ ρ a (· = .bool k)) (hb : k = false → EV Γ Ψ ρ (.BoolOp .Or (b :: rest) pos) (· = d)) : EV Γ Ψ ρ (.BoolOp .Or (a :: b :: rest) pos) (· = if k = true then .bool true else d) := ⟨fun {X m F0 G0 F ow σ G H} s Q q => ⟨_, pe_or pe_w pe_w, ha.run s _ fun x vx G1 H1 p1 e1 s1 d1 => by
  subst p1
  cases d1
  refine ⟨k, rfl, ?_⟩
  cases k with
  | true => exact iteT (q _ _ G1 H1 (by rw [if_pos rfl]) e1 s1 (.bl _))
  | false => exact iteF ((hb rfl).run (s.next e1 s1) Q fun y v G2 H2 p2 e2 s2 d2 => q y v G2 H2 (by rw [p2, if_neg Bool.false_ne_true]) (e1.trans e2) s2 d2)⟩⟩
theorem ev_not {k : Bool} (ha : EV Γ Ψ ρ a (· = .bool k)) : EV Γ Ψ ρ (.UnaryOp .Not a pos) (· = .bool (!k)) := ⟨fun {X m F0 G0 F ow σ G H} s Q q => ⟨_, pe_not pe_w, ha.run s _ fun x vx G1 H1 p1 e1 s1 d1 => by
  subst p1
  cases d1
  exact ⟨k, rfl, q _ _ G1 H1 rfl e1 s1 (.bl _)⟩⟩⟩
theorem ev_if {k : Bool} {d : D} (hc : EVT Γ Ψ ρ c (· = k)) (ha : k = true → EV Γ Ψ ρ a (· = d)) (hb : k = false → EV Γ Ψ ρ b (· = d)) : EV Γ Ψ ρ (.IfExp c a b pos) (· = d) := ⟨fun {X m F0 G0 F ow σ G H} s Q q => ⟨_, pe_ifExp pt_w pe_w pe_w, hc.run s _ fun x G1 H1 p1 e1 s1 => by
  subst p1
  cases x with
  | true => exact iteT ((ha rfl).run (s.next e1 s1) Q fun y v G2 H2 p2 e2 s2 d2 => q y v G2 H2 p2 (e1.trans e2) s2 d2)
  | false => exact iteF ((hb rfl).run (s.next e1 s1) Q fun y v G2 H2 p2 e2 s2 d2 => q y v G2 H2 p2 (e1.trans e2) s2 d2)⟩⟩

/-! ### argument lists, displays -/
theorem eva_nil : EVA Γ Ψ ρ [] (· = []) := ⟨fun {X m F0 G0 F ow σ G H} s Q q => ⟨_, pa_nil, q [] [] G H rfl (Same.refl _) s.st .nil⟩⟩
theorem eva_cons {Φ2 : List En → Prop} (ha : EV Γ Ψ ρ a Φ1) (hr : EVA Γ Ψ ρ es Φ2) (hs : ∀ env, starEach (a :: es) env = (false, eval a env) :: starEach es env := by intro _; kernel_rfl) : EVA Γ Ψ ρ (a :: es) (fun as => ∃ d r, as = .dat d :: r ∧ Φ1 d ∧ Φ2 r) := ⟨fun {X m F0 G0 F ow σ G H} s Q q =>
  ⟨_, pa_cons pe_w pa_w (hs _), ha.run s _ fun x vx G1 H1 p1 e1 s1 d1 => hr.run (s.next e1 s1) _ fun as vs G2 H2 p2 e2 s2 d2 => q _ _ G2 H2 ⟨x, as, rfl, p1, p2⟩ (e1.trans e2) s2 (.cons (dp_mono e2 d1) d2)⟩⟩
theorem eva_cons1 {d : D} {as : List En} (ha : EV Γ Ψ ρ a (· = d)) (hr : EVA Γ Ψ ρ es (· = as)) (hs : ∀ env, starEach (a :: es) env = (false, eval a env) :: starEach es env := by intro _; kernel_rfl) : EVA Γ Ψ ρ (a :: es) (· = .dat d :: as) :=
  (eva_cons ha hr hs).imp fun z ⟨x, r, h1, h2, h3⟩ => by rw [h1, h2, h3]
theorem eva_bag {Φ2 : List En → Prop} {x : Str} (i : Nat) (hρ : ρ[i]? = some .bag) (hr : EVA Γ Ψ ρ es Φ2) (hN : Γ.N[i]? = some x) (hv : visB Γ.sc x = true) (hd : (x == ("__debug__" : Str)) = false := by kernel_rfl) (hcd : (x == ("__classdict__" : Str)) = false := by kernel_rfl)
    (hs : ∀ env, starEach (.Name x pos :: es) env = (false, eval (.Name x pos) env) :: starEach es env := by intro _; kernel_rfl) : EVA Γ Ψ ρ (.Name x pos :: es) (fun as => ∃ r, as = .bag :: r ∧ Φ2 r) := ⟨fun {X m F0 G0 F ow σ G H} s Q q => by
  obtain ⟨bb, h1, h2⟩ := s.sl.ok i _ hρ
  exact ⟨_, pa_cons (pe_var (s.f.nth hN) (s.f.vis hv) hd hcd) pa_w (hs _), .ref bb, h2, hr.run s _ fun as vs G2 H2 p2 e2 s2 d2 => q _ _ G2 H2 ⟨as, rfl, p2⟩ e2 s2 (.cons ⟨bb, h1, rfl⟩ d2)⟩⟩
theorem eva_bag1 {as : List En} {x : Str} (i : Nat) (hρ : ρ[i]? = some .bag) (hr : EVA Γ Ψ ρ es (· = as)) (hN : Γ.N[i]? = some x) (hv : visB Γ.sc x = true) (hd : (x == ("__debug__" : Str)) = false := by kernel_rfl) (hcd : (x == ("__classdict__" : Str)) = false := by kernel_rfl)
    (hs : ∀ env, starEach (.Name x pos :: es) env = (false, eval (.Name x pos) env) :: starEach es env := by intro _; kernel_rfl) : EVA Γ Ψ ρ (.Name x pos :: es) (· = .bag :: as) :=
  (eva_bag i hρ hr hN hv hd hcd hs).imp fun z ⟨r, h1, h2⟩ => by rw [h1, h2]
theorem ev_tup {Φa : List En → Prop} {k : Nat} (h : EVA Γ Ψ ρ es Φa) (i : ∀ as, Φa as → ∃ ds : List D, as = ds.map .dat ∧ ds.length ≤ sizeLine ∧ Φ (.tuple ds)) : EV Γ Ψ ρ (.Tuple es k pos) Φ := ⟨fun {X m F0 G0 F ow σ G H} s Q q => ⟨_, pe_tup pa_w, h.run s _ fun as vs G2 H2 p2 e2 s2 d2 => by
  obtain ⟨ds, rfl, hl, hΦ⟩ := i as p2
  have dd := Args.data d2
  refine ⟨by rw [dps_len dd]; exact hl, fun p hp => ?_⟩
  have hG := s2.freshG hp
  exact q _ _ (upd G2 p (.tup vs)) _ hΦ (e2.trans (same_upd hG)) (s2.alloc hp) (.tup (SqT.of upd_same) (dps_mono (same_upd hG) dd))⟩⟩
theorem evn_lst {Φa : List En → Prop} {Φn : List D → Prop} (h : EVA Γ Ψ ρ es Φa) (i : ∀ as, Φa as → ∃ ds : List D, as = ds.map .dat ∧ ds.length ≤ sizeLine ∧ Φn ds) : EVN Γ Ψ ρ (.List es pos) Φn := ⟨fun {X m F0 G0 F ow σ G H} s Q q => ⟨_, pe_lst pa_w, h.run s _ fun as vs G2 H2 p2 e2 s2 d2 => by
  obtain ⟨ds, rfl, hl, hΦ⟩ := i as p2
  have dd := Args.data d2
  refine ⟨by rw [dps_len dd]; exact hl, fun p hp => ?_⟩
  exact q _ p vs G2 _ hΦ e2 (s2.freshF hp) (s2.allocF hp) dd⟩⟩
theorem ev_tup1 {ds : List D} {as : List En} {k : Nat} (h : EVA Γ Ψ ρ es (· = as)) (e : as = ds.map .dat := by rfl) (hl : ds.length ≤ sizeLine := by decide) : EV Γ Ψ ρ (.Tuple es k pos) (· = .tuple ds) := ev_tup h fun as' h' => ⟨ds, by rw [h', e], hl, rfl⟩
theorem evn_lst1 {ds : List D} {as : List En} (h : EVA Γ Ψ ρ es (· = as)) (e : as = ds.map .dat := by rfl) (hl : ds.length ≤ sizeLine := by decide) : EVN Γ Ψ ρ (.List es pos) (· = ds) := evn_lst h fun as' h' => ⟨ds, by rw [h', e], hl, rfl⟩
end
end DL

namespace DL
open PySem PySem.Spec PyProof.Rows L2

/-! ### results, contracts -/
inductive Rs where
  | dat (d : D)
  | new (ds : List D)
def Rs.data : Rs → D
  | .dat d => d
  | .new ds => .list ds
def RsOk (m : Pm) (F G : Hp) (v : V) (H' : Hp) : Rs → Prop
  | .dat d => ∃ G2, Same G G2 ∧ St0 m F G2 H' ∧ Dp m.K G2 v d
  | .new ds => ∃ p vs G2, v = .ref p ∧ Same G G2 ∧ F p = none ∧ St0 m (upd F p (.lst vs)) G2 H' ∧ DpAll m.K G2 vs ds
theorem RsOk.data {m : Pm} {F G H' : Hp} {v : V} : ∀ {r : Rs}, RsOk m F G v H' r → ∃ G2, Same G G2 ∧ St0 m F G2 H' ∧ Dp m.K G2 v r.data
  | .dat _, h => h
  | .new ds, ⟨p, vs, G2, ev, e, hF, st, dp⟩ => by
    subst ev
    have hG := (st.fr p _ upd_same).2
    exact ⟨upd G2 p (.lst vs), e.trans (same_upd hG), st.freeze hF, .lst (SqL.of upd_same) (dps_mono (same_upd hG) dp)⟩
abbrev Spec := List En → (Rs → Prop) → (Exc → Prop) → Prop
def spD (g : Gm) (spec : Spec) : Sp := fun vs H Q E =>
  ∃ (m : Pm) (F G : Hp) (as : List En), m.K = g.K ∧ m.mg = g.mg ∧ m.T = g.T ∧ St0 m F G H ∧ Args m G vs as ∧
    ∃ (Φ : Rs → Prop) (Ψ : Exc → Prop), spec as Φ Ψ ∧ (∀ r v H', Φ r → RsOk m F G v H' r → Q v H') ∧ (∀ cls d H', ExcPost m F G Ψ cls d H' → E cls d H')
/-- the def of the module's name x keeps spec; dds: its defaults -/
structure FnD (g : Gm) (k : Nat) (x : Str) (ps : List Str) (dds : List D) (spec : Spec) : Prop where
  ex : ∃ (f : Addr) (fd : FuncData) (dvs : List V) (ds : List Value), g.mg x = some (.ref f) ∧ PySem.W.keepIn g.K (.ref f) = true ∧ Binds g.K fd ps ds ∧ Vals dvs ds ∧ (∀ G, DpAll g.K G dvs dds) ∧
    FnOk g.P g.w g.K g.mg g.base (L2.CX g.P g.w) k f fd ps (spD g spec)

theorem Args.app {m : Pm} {G : Hp} : ∀ {vs ws : List V} {as bs : List En}, Args m G vs as → Args m G ws bs → Args m G (vs ++ ws) (as ++ bs)
  | _, _, _, _, .nil, s => s
  | _, _, _, _, .cons h r, s => .cons h (r.app s)
theorem takes_pass {X : Cx} {m : Pm} {F0 G0 : Hp} {Ψ : Exc → Prop} (tk : Takes X (fun cls d _ H' => ExcPost m F0 G0 Ψ cls d H')) : Passes (L2.CX X.prog X.w) X (fun cls d H' => ExcPost m F0 G0 Ψ cls d H') :=
  passes_call tk fun _ _ _ _ h => h
/-- an exception's post from a later state and a larger frame -/
theorem ExcPost.back {m : Pm} {F0 G0 F G : Hp} {Ψ : Exc → Prop} {cls : Value} {d : Option Addr} {H' : Hp} (hs : ∀ a o, F0 a = some o → F a = some o) (e : Same G0 G) (h : ExcPost m F G Ψ cls d H') : ExcPost m F0 G0 Ψ cls d H' := by
  obtain ⟨x, G', dd, fs, h1, h2, h3, h4, h5, h6, h7, h8⟩ := h
  obtain ⟨G2, e2, st, _⟩ := h5.back hs
  exact ⟨x, G2, dd, fs, h1, h2, h3, (e.trans h4).trans e2, st, e2 _ _ h6, h7, dps_mono e2 h8⟩

section
variable {Γ : Ctx} {Ψ : Exc → Prop} {ρ : List En} {a b c e : Expr} {es : List Expr} {pos : Pos} {Φ : D → Prop}
theorem call_fr {X : Cx} {k : Nat} {f : Addr} {fd : FuncData} {ps : List Str} {sp : Sp} (fr : Fr Γ X) (h : FnOk Γ.g.P Γ.g.w Γ.g.K Γ.g.mg Γ.g.base (L2.CX Γ.g.P Γ.g.w) k f fd ps sp) : FnOk X.prog X.w X.K X.mg X.base (L2.CX X.prog X.w) k f fd ps sp := by
  rw [fr.prog, fr.w, fr.K, fr.mg, fr.base]
  exact h
/-- f(e, ..) -/
theorem wE_call {X : Cx} {m : Pm} {F0 G0 F G H : Hp} {ow : Nat → Addr} {σ : L2.St} {k : Nat} {x : Str} {ps : List Str} {dds : List D} {spec : Spec} {p : Pos} {Φa : List En → Prop} {Φr : Rs → Prop} {Q : VK} (s : Stt Γ X Ψ ρ m F0 G0 F ow σ G H)
    (fn : FnD Γ.g k x ps dds spec) (hk : k ≤ Γ.k) (hg : glB Γ.sc x = true) (ha : EVA Γ Ψ ρ (e :: es) Φa) (h : ∀ as, Φa as → spec (as ++ dds.map .dat) Φr Ψ)
    (hq : ∀ r v G1 H2, Φr r → Same G G1 → RsOk m F G1 v H2 r → Q v H2) (hdb : (x == ("__debug__" : Str)) = false) (he : ∀ env, starEach (e :: es) env = (false, eval e env) :: starEach es env ∧ (backTo pos (starEach es env)).any (·.1) = false) : wE X (.Call (.Name x p) (e :: es) [] pos) σ H Q := by
  obtain ⟨f, fd, dvs, ds, hm, hkp, hb, hv, hdd, hok⟩ := fn.ex
  refine ⟨_, pe_call (call_fr s.f hok) (s.f.room.mono hk) (s.f.gl hg) (by rw [s.f.mg]; exact hm) (by rw [s.f.K]; exact hkp) (by rw [s.f.K]; exact hb) hv (takes_pass s.x.tk) pa_w hdb (he _).1 (he _).2, ?_⟩
  exact ha.run s _ fun as vs G2 H2 p2 e2 s2 d2 =>
    ⟨m, F, G2, as ++ dds.map .dat, s.K, s.mg, s.x.T, s2, d2.app (Args.ofData (by rw [s.K]; exact hdd G2)), Φr, Ψ, h as p2, fun r v H' hr ok => hq r v G2 H' hr e2 ok, fun cls d H' q => q.back s.sl.sub (s.s0.trans e2)⟩
theorem wE_call0 {X : Cx} {m : Pm} {F0 G0 F G H : Hp} {ow : Nat → Addr} {σ : L2.St} {k : Nat} {x : Str} {ps : List Str} {dds : List D} {spec : Spec} {p : Pos} {Φr : Rs → Prop} {Q : VK} (s : Stt Γ X Ψ ρ m F0 G0 F ow σ G H)
    (fn : FnD Γ.g k x ps dds spec) (hk : k ≤ Γ.k) (hg : glB Γ.sc x = true) (h : spec (dds.map .dat) Φr Ψ)
    (hq : ∀ r v G1 H2, Φr r → Same G G1 → RsOk m F G1 v H2 r → Q v H2) (hdb : (x == ("__debug__" : Str)) = false) : wE X (.Call (.Name x p) [] [] pos) σ H Q := by
  obtain ⟨f, fd, dvs, ds, hm, hkp, hb, hv, hdd, hok⟩ := fn.ex
  refine ⟨_, pe_call0 (call_fr s.f hok) (s.f.room.mono hk) (s.f.gl hg) (by rw [s.f.mg]; exact hm) (by rw [s.f.K]; exact hkp) (by rw [s.f.K]; exact hb) hv (takes_pass s.x.tk) hdb, ?_⟩
  exact ⟨m, F, G, dds.map .dat, s.K, s.mg, s.x.T, s.st, Args.ofData (by rw [s.K]; exact hdd G), Φr, Ψ, h, fun r v H' hr ok => hq r v G H' hr (Same.refl _) ok, fun cls d H' q => q.back s.sl.sub s.s0⟩
variable {k : Nat} {x : Str} {ps : List Str} {dds : List D} {spec : Spec} {p : Pos} {Φa : List En → Prop}
theorem ev_call (fn : FnD Γ.g k x ps dds spec) (ha : EVA Γ Ψ ρ (e :: es) Φa) (h : ∀ as, Φa as → spec (as ++ dds.map .dat) (fun r => Φ r.data) Ψ) (hk : Nat.ble k Γ.k = true := by kernel_rfl) (hg : glB Γ.sc x = true := by kernel_rfl) (hdb : (x == ("__debug__" : Str)) = false := by kernel_rfl)
    (he : ∀ env, starEach (e :: es) env = (false, eval e env) :: starEach es env ∧ (backTo pos (starEach es env)).any (·.1) = false := by intro _; exact ⟨by kernel_rfl, by kernel_rfl⟩) : EV Γ Ψ ρ (.Call (.Name x p) (e :: es) [] pos) Φ := ⟨fun {X m F0 G0 F ow σ G H} s Q q =>
  wE_call s fn (Nat.le_of_ble_eq_true hk) hg ha h (fun r v G1 H2 p1 e1 ok => by
    obtain ⟨G2, e2, st, dp⟩ := ok.data
    exact q _ v G2 H2 p1 (e1.trans e2) st dp) hdb he⟩
theorem ev_call1 {as : List En} {d : D} (fn : FnD Γ.g k x ps dds spec) (ha : EVA Γ Ψ ρ (e :: es) (· = as)) (h : spec (as ++ dds.map .dat) (fun r => r.data = d) Ψ) (hk : Nat.ble k Γ.k = true := by kernel_rfl) (hg : glB Γ.sc x = true := by kernel_rfl) (hdb : (x == ("__debug__" : Str)) = false := by kernel_rfl)
    (he : ∀ env, starEach (e :: es) env = (false, eval e env) :: starEach es env ∧ (backTo pos (starEach es env)).any (·.1) = false := by intro _; exact ⟨by kernel_rfl, by kernel_rfl⟩) : EV Γ Ψ ρ (.Call (.Name x p) (e :: es) [] pos) (· = d) :=
  ev_call fn ha (fun as' e' => by rw [e']; exact h) hk hg hdb he
/-- a call that hands back a new list -/
theorem evn_call {Φn : List D → Prop} (fn : FnD Γ.g k x ps dds spec) (ha : EVA Γ Ψ ρ (e :: es) Φa) (h : ∀ as, Φa as → spec (as ++ dds.map .dat) (fun r => ∃ ds, r = .new ds ∧ Φn ds) Ψ) (hk : Nat.ble k Γ.k = true := by kernel_rfl) (hg : glB Γ.sc x = true := by kernel_rfl) (hdb : (x == ("__debug__" : Str)) = false := by kernel_rfl)
    (he : ∀ env, starEach (e :: es) env = (false, eval e env) :: starEach es env ∧ (backTo pos (starEach es env)).any (·.1) = false := by intro _; exact ⟨by kernel_rfl, by kernel_rfl⟩) : EVN Γ Ψ ρ (.Call (.Name x p) (e :: es) [] pos) Φn := ⟨fun {X m F0 G0 F ow σ G H} s Q q =>
  wE_call s fn (Nat.le_of_ble_eq_true hk) hg ha h (fun r v G1 H2 p1 e1 ok => by
    obtain ⟨ds, rfl, hΦ⟩ := p1
    obtain ⟨pp, vs, G2, rfl, e2, hF, st, dp⟩ := ok
    exact q ds pp vs G2 H2 hΦ (e1.trans e2) hF st dp) hdb he⟩
theorem ev_call0 (fn : FnD Γ.g k x ps dds spec) (h : spec (dds.map .dat) (fun r => Φ r.data) Ψ) (hk : Nat.ble k Γ.k = true := by kernel_rfl) (hg : glB Γ.sc x = true := by kernel_rfl) (hdb : (x == ("__debug__" : Str)) = false := by kernel_rfl) : EV Γ Ψ ρ (.Call (.Name x p) [] [] pos) Φ := ⟨fun {X m F0 G0 F ow σ G H} s Q q =>
  wE_call0 s fn (Nat.le_of_ble_eq_true hk) hg h (fun r v G1 H2 p1 e1 ok => by
    obtain ⟨G2, e2, st, dp⟩ := ok.data
    exact q _ v G2 H2 p1 (e1.trans e2) st dp) hdb⟩
theorem evn_call0 {Φn : List D → Prop} (fn : FnD Γ.g k x ps dds spec) (h : spec (dds.map .dat) (fun r => ∃ ds, r = .new ds ∧ Φn ds) Ψ) (hk : Nat.ble k Γ.k = true := by kernel_rfl) (hg : glB Γ.sc x = true := by kernel_rfl) (hdb : (x == ("__debug__" : Str)) = false := by kernel_rfl) : EVN Γ Ψ ρ (.Call (.Name x p) [] [] pos) Φn := ⟨fun {X m F0 G0 F ow σ G H} s Q q =>
  wE_call0 s fn (Nat.le_of_ble_eq_true hk) hg h (fun r v G1 H2 p1 e1 ok => by
    obtain ⟨ds, rfl, hΦ⟩ := p1
    obtain ⟨pp, vs, G2, rfl, e2, hF, st, dp⟩ := ok
    exact q ds pp vs G2 H2 hΦ (e1.trans e2) hF st dp) hdb⟩
end

/-! ### statements -/
structure Pst where
  nx : List En → Prop
  rt : Rs → Prop
  bk : List En → Prop := fun _ => False
  ct : List En → Prop := fun _ => False
def ends1 (m : Pm) (F0 G0 : Hp) (nx : List En → Prop) (σ' : L2.St) (H' : Hp) : Prop := ∃ ρ' F' ow' G', nx ρ' ∧ Same G0 G' ∧ Slots m F0 F' ow' ρ' σ' G' ∧ St0 m F' G' H'
def ends (p : Pst) (m : Pm) (F0 G0 : Hp) : Ends where
  nx := ends1 m F0 G0 p.nx
  rt := fun v H' => ∃ r, p.rt r ∧ RsOk m F0 G0 v H' r
  bk := ends1 m F0 G0 p.bk
  ct := ends1 m F0 G0 p.ct
structure SD (Γ : Ctx) (Ψ : Exc → Prop) (ρ : List En) (ss : List Stmt) (p : Pst) : Prop where
  run : ∀ {X : Cx} {m : Pm} {F0 G0 F : Hp} {ow : Nat → Addr} {σ : L2.St} {G H : Hp}, Stt Γ X Ψ ρ m F0 G0 F ow σ G H → wSs X ss (ends p m F0 G0) σ H
/-- one statement -/
structure SD1 (Γ : Ctx) (Ψ : Exc → Prop) (ρ : List En) (st : Stmt) (p : Pst) : Prop where
  run : ∀ {X : Cx} {m : Pm} {F0 G0 F : Hp} {ow : Nat → Addr} {σ : L2.St} {G H : Hp}, Stt Γ X Ψ ρ m F0 G0 F ow σ G H → wS X st (ends p m F0 G0) σ H
theorem wSs_mono {X : Cx} {ss : List Stmt} {D D' : Ends} {σ : L2.St} {H : Hp} (h : wSs X ss D σ H) (h1 : ∀ σ H, D.nx σ H → D'.nx σ H) (h2 : ∀ v H, D.rt v H → D'.rt v H) (h3 : ∀ σ H, D.bk σ H → D'.bk σ H) (h4 : ∀ σ H, D.ct σ H → D'.ct σ H) : wSs X ss D' σ H := by
  obtain ⟨t, ht, q⟩ := h
  refine ⟨fun D2 σ H => t D σ H ∧ (∀ σ H, D.nx σ H → D2.nx σ H) ∧ (∀ v H, D.rt v H → D2.rt v H) ∧ (∀ σ H, D.bk σ H → D2.bk σ H) ∧ (∀ σ H, D.ct σ H → D2.ct σ H), ⟨fun pins s σ H D2 I hh => ?_⟩, q, h1, h2, h3, h4⟩
  obtain ⟨q, h1, h2, h3, h4⟩ := hh
  refine thn (ht.run pins s σ H D I q) fun f s1 z => ?_
  cases f with
  | next =>
    obtain ⟨σ', H', I', q'⟩ := z
    exact ⟨σ', H', I', h1 _ _ q'⟩
  | brk =>
    obtain ⟨σ', H', I', q'⟩ := z
    exact ⟨σ', H', I', h3 _ _ q'⟩
  | cont =>
    obtain ⟨σ', H', I', q'⟩ := z
    exact ⟨σ', H', I', h4 _ _ q'⟩
  | ret u =>
    obtain ⟨v, σ', H', I', r, q'⟩ := z
    exact ⟨v, σ', H', I', r, h2 _ _ q'⟩
section
variable {Γ : Ctx} {Ψ : Exc → Prop} {ρ : List En} {a b c e : Expr} {es : List Expr} {pos pos' : Pos} {Φ : D → Prop} {p : Pst} {st : Stmt} {rest body orelse : List Stmt}
theorem ends1.imp {m : Pm} {F0 G0 : Hp} {n n' : List En → Prop} (h : ∀ ρ, n ρ → n' ρ) {σ : L2.St} {H : Hp} (q : ends1 m F0 G0 n σ H) : ends1 m F0 G0 n' σ H := by
  obtain ⟨ρ', F', ow', G', h1, h2⟩ := q
  exact ⟨ρ', F', ow', G', h _ h1, h2⟩
theorem SD.imp {p p' : Pst} {ss : List Stmt} (h : SD Γ Ψ ρ ss p) (h1 : ∀ ρ, p.nx ρ → p'.nx ρ) (h2 : ∀ r, p.rt r → p'.rt r) (h3 : ∀ ρ, p.bk ρ → p'.bk ρ) (h4 : ∀ ρ, p.ct ρ → p'.ct ρ) : SD Γ Ψ ρ ss p' :=
  ⟨fun s => wSs_mono (h.run s) (fun _ _ => ends1.imp h1) (fun v H ⟨r, q, ok⟩ => ⟨r, h2 r q, ok⟩) (fun _ _ => ends1.imp h3) (fun _ _ => ends1.imp h4)⟩
theorem sd_nil (h : p.nx ρ) : SD Γ Ψ ρ [] p := ⟨fun {X m F0 G0 F ow σ G H} s => ⟨_, pss_nil, ρ, F, ow, G, h, s.s0, s.sl, s.st⟩⟩
/-- behind a first statement -/
theorem sd_cons (h : SD1 Γ Ψ ρ st { p with nx := fun ρ' => SD Γ Ψ ρ' rest p }) : SD Γ Ψ ρ (st :: rest) p := ⟨fun {X m F0 G0 F ow σ G H} s => by
  obtain ⟨t, ht, q⟩ := h.run s
  refine ⟨tSeq (fun D σ H => ∃ D0 : Ends, t D0 σ H ∧ (∀ σ H, D0.nx σ H → D.nx σ H) ∧ (∀ v H, D0.rt v H → D.rt v H) ∧ (∀ σ H, D0.bk σ H → D.bk σ H) ∧ (∀ σ H, D0.ct σ H → D.ct σ H)) (wSs X rest), pss_cons ⟨fun pins s σ H D I hh => ?_⟩ pss_w, ?_⟩
  · obtain ⟨D0, q, h1, h2, h3, h4⟩ := hh
    refine thn (ht.run pins s σ H D0 I q) fun f s1 z => ?_
    cases f with
    | next =>
      obtain ⟨σ', H', I', q'⟩ := z
      exact ⟨σ', H', I', h1 _ _ q'⟩
    | brk =>
      obtain ⟨σ', H', I', q'⟩ := z
      exact ⟨σ', H', I', h3 _ _ q'⟩
    | cont =>
      obtain ⟨σ', H', I', q'⟩ := z
      exact ⟨σ', H', I', h4 _ _ q'⟩
    | ret u =>
      obtain ⟨v, σ', H', I', r, q'⟩ := z
      exact ⟨v, σ', H', I', r, h2 _ _ q'⟩
  · refine ⟨_, q, fun σ' H' z => ?_, fun _ _ z => z, fun _ _ z => z, fun _ _ z => z⟩
    obtain ⟨ρ', F', ow', G', h1, h2, h3, h4⟩ := z
    exact h1.run ⟨s.f, s.x, h2, h3, h4⟩⟩
/-- a returned datum -/
theorem back_dat {m : Pm} {F0 G0 F G G2 H2 : Hp} {ow : Nat → Addr} {σ : L2.St} {v : V} {d : D} (sl : Slots m F0 F ow ρ σ G) (e : Same G0 G2) (st : St0 m F G2 H2) (dp : Dp m.K G2 v d) : RsOk m F0 G0 v H2 (.dat d) := by
  obtain ⟨G3, e3, st3, _⟩ := st.back sl.sub
  exact ⟨G3, e.trans e3, st3, dp_mono e3 dp⟩
theorem sd_ret (he : EV Γ Ψ ρ e Φ) (h : ∀ d, Φ d → p.rt (.dat d)) : SD Γ Ψ ρ (.Return (some e) pos :: rest) p := ⟨fun {X m F0 G0 F ow σ G H} s =>
  ⟨_, pss_cons (ps_ret pe_w) pss_w, he.run s _ fun d v G2 H2 p2 e2 s2 d2 => ⟨.dat d, h d p2, back_dat s.sl (s.s0.trans e2) s2 d2⟩⟩⟩
theorem sd_ret1 {d : D} (he : EV Γ Ψ ρ e (· = d)) (h : p.rt (.dat d)) : SD Γ Ψ ρ (.Return (some e) pos :: rest) p := sd_ret he fun d' h' => by rw [h']; exact h
theorem sd_retN (h : p.rt (.dat .none)) : SD Γ Ψ ρ (.Return none pos :: rest) p := ⟨fun {X m F0 G0 F ow σ G H} s =>
  ⟨_, pss_cons ps_retN pss_w, .dat .none, h, back_dat s.sl s.s0 s.st .non⟩⟩
/-- a returned new list -/
theorem sd_retn {Φn : List D → Prop} (he : EVN Γ Ψ ρ e Φn) (h : ∀ ds, Φn ds → p.rt (.new ds)) : SD Γ Ψ ρ (.Return (some e) pos :: rest) p := ⟨fun {X m F0 G0 F ow σ G H} s =>
  ⟨_, pss_cons (ps_ret pe_w) pss_w, he.run s _ fun ds q vs G2 H2 p2 e2 hF s2 d2 => by
    have hF0 : F0 q = none := by
      cases z : F0 q with
      | none => rfl
      | some o => rw [s.sl.sub q o z] at hF; cases hF
    obtain ⟨G3, e3, st3, _⟩ := s2.back (F := upd F0 q (.lst vs)) fun a o z => by
      by_cases ha : a = q
      · rw [ha, upd_same] at z ⊢
        exact z
      · rw [upd_ne ha] at z ⊢
        exact s.sl.sub a o z
    exact ⟨.new ds, h ds p2, q, vs, G3, rfl, (s.s0.trans e2).trans e3, hF0, st3, dps_mono e3 d2⟩⟩⟩
theorem sd_ret_own {ds : List D} {x : Str} (i : Nat) (hρ : ρ[i]? = some (.own ds)) (hN : Γ.N[i]? = some x) (hv : visB Γ.sc x = true) (h : p.rt (.new ds)) (hd : (x == ("__debug__" : Str)) = false := by kernel_rfl) (hcd : (x == ("__classdict__" : Str)) = false := by kernel_rfl) :
    SD Γ Ψ ρ (.Return (some (.Name x pos)) pos' :: rest) p := ⟨fun {X m F0 G0 F ow σ G H} s => by
  obtain ⟨h1, vs, h2, h3⟩ := s.sl.ok i _ hρ
  refine ⟨_, pss_cons (ps_ret (pe_var (s.f.nth hN) (s.f.vis hv) hd hcd)) pss_w, .ref (ow i), h1, .new ds, h, ?_⟩
  obtain ⟨G3, e3, st3, _⟩ := s.st.back (F := upd F0 (ow i) (.lst vs)) fun a o z => by
    by_cases ha : a = ow i
    · rw [ha, upd_same] at z
      rw [ha, h2]
      exact z
    · rw [upd_ne ha] at z
      exact s.sl.sub a o z
  exact ⟨ow i, vs, G3, rfl, s.s0.trans e3, s.sl.new i ds hρ, st3, dps_mono e3 h3⟩⟩

/-! ### slots stored -/
theorem Slots.put {m : Pm} {F0 F G : Hp} {ow : Nat → Addr} {σ : L2.St} {i : Nat} {v : V} {en : En} (s : Slots m F0 F ow ρ σ G) (h : EnOk m F G (ow i) (some (some v)) en) (ho : ∀ ds, en ≠ .own ds) : Slots m F0 F ow (ρ.set i en) (σ.set i (some v)) G := by
  refine ⟨by simp [s.len], fun j en' hj => ?_, fun j k ds es hj hk e => ?_, s.sub, fun j ds hj => ?_⟩
  · by_cases e : i = j
    · subst e
      have hlt : i < ρ.length := by
        have := (List.getElem?_eq_some_iff.mp hj).1
        simpa using this
      rw [List.getElem?_set_self hlt] at hj
      cases hj
      rw [List.getElem?_set_self (by rw [s.len]; exact hlt)]
      exact h
    · rw [List.getElem?_set_ne e] at hj ⊢
      exact s.ok j en' hj
  · have key : ∀ {j : Nat} {ds : List D}, (ρ.set i en)[j]? = some (.own ds) → ρ[j]? = some (.own ds) := fun {j ds} hj => by
      by_cases e : i = j
      · subst e
        have hlt : i < ρ.length := by
          have := (List.getElem?_eq_some_iff.mp hj).1
          simpa using this
        rw [List.getElem?_set_self hlt] at hj
        exact absurd (Option.some.inj hj) (ho ds)
      · rw [List.getElem?_set_ne e] at hj
        exact hj
    exact s.inj j k ds es (key hj) (key hk) e
  · by_cases e : i = j
    · subst e
      have hlt : i < ρ.length := by
        have := (List.getElem?_eq_some_iff.mp hj).1
        simpa using this
      rw [List.getElem?_set_self hlt] at hj
      exact absurd (Option.some.inj hj) (ho ds)
    · rw [List.getElem?_set_ne e] at hj
      exact s.new j ds hj
/-- an address that no slot owns -/
def Free (ρ : List En) (ow : Nat → Addr) (q : Addr) : Prop := ∀ i ds, ρ[i]? = some (.own ds) → ow i ≠ q
theorem Slots.free_of {m : Pm} {F0 F G : Hp} {ow : Nat → Addr} {σ : L2.St} {q : Addr} (s : Slots m F0 F ow ρ σ G) (h : F q = none) : Free ρ ow q := fun i ds hi e => by
  obtain ⟨_, vs, h2, _⟩ := s.ok i _ hi
  rw [e, h] at h2
  cases h2
/-- the frame gets a further object -/
theorem Slots.grow {m : Pm} {F0 F G : Hp} {ow : Nat → Addr} {σ : L2.St} {q : Addr} {o : HO} (s : Slots m F0 F ow ρ σ G) (h : F q = none) : Slots m F0 (upd F q o) ow ρ σ G := by
  refine ⟨s.len, fun i en hi => ?_, s.inj, fun a u e => ?_, s.new⟩
  · have z := s.ok i en hi
    cases en with
    | un => exact True.intro
    | dat d => exact z
    | bag => exact z
    | own ds =>
      obtain ⟨h1, vs, h2, h3⟩ := z
      exact ⟨h1, vs, by rw [upd_ne (s.free_of h i ds hi)]; exact h2, h3⟩
  · rw [upd_ne (fun z => by have := s.sub a u e; rw [z, h] at this; cases this)]
    exact s.sub a u e
theorem Slots.putOwn {m : Pm} {F0 F G : Hp} {ow : Nat → Addr} {σ : L2.St} {i : Nat} {q : Addr} {vs : List V} {ds : List D} (s : Slots m F0 F ow ρ σ G) (hF : F q = none) (dp : DpAll m.K G vs ds) :
    Slots m F0 (upd F q (.lst vs)) (fun j => if j = i then q else ow j) (ρ.set i (.own ds)) (σ.set i (some (.ref q))) G := by
  have g := s.grow (o := .lst vs) hF
  have fr := s.free_of hF
  refine ⟨by simp [s.len], fun j en' hj => ?_, fun j k ds1 es hj hk e => ?_, g.sub, fun j ds1 hj => ?_⟩
  · by_cases e : i = j
    · subst e
      have hlt : i < ρ.length := by
        have := (List.getElem?_eq_some_iff.mp hj).1
        simpa using this
      rw [List.getElem?_set_self hlt] at hj
      cases hj
      rw [List.getElem?_set_self (by rw [s.len]; exact hlt), if_pos rfl]
      exact ⟨rfl, vs, upd_same, dp⟩
    · rw [List.getElem?_set_ne e] at hj ⊢
      rw [if_neg (fun z => e z.symm)]
      exact g.ok j en' hj
  · by_cases e1 : i = j
    · by_cases e2 : i = k
      · rw [← e1, ← e2]
      · rw [List.getElem?_set_ne e2] at hk
        rw [if_pos e1.symm, if_neg (fun z => e2 z.symm)] at e
        exact absurd e.symm (fr k es hk)
    · rw [List.getElem?_set_ne e1] at hj
      rw [if_neg (fun z => e1 z.symm)] at e
      by_cases e2 : i = k
      · rw [if_pos e2.symm] at e
        exact absurd e (fr j ds1 hj)
      · rw [List.getElem?_set_ne e2] at hk
        rw [if_neg (fun z => e2 z.symm)] at e
        exact s.inj j k ds1 es hj hk e
  · by_cases e : i = j
    · rw [if_pos e.symm]
      cases z : F0 q with
      | none => rfl
      | some o =>
        have := s.sub q o z
        rw [hF] at this
        cases this
    · rw [List.getElem?_set_ne e] at hj
      rw [if_neg (fun z => e z.symm)]
      exact s.new j ds1 hj
/-- an owned list is changed -/
theorem Slots.write {m : Pm} {F0 F G : Hp} {ow : Nat → Addr} {σ : L2.St} {i : Nat} {vs : List V} {ds0 ds : List D} (s : Slots m F0 F ow ρ σ G) (hi : ρ[i]? = some (.own ds0)) (dp : DpAll m.K G vs ds) :
    Slots m F0 (upd F (ow i) (.lst vs)) ow (ρ.set i (.own ds)) σ G := by
  have key : ∀ {j : Nat} {ds1 : List D}, (ρ.set i (.own ds))[j]? = some (.own ds1) → ∃ ds2, ρ[j]? = some (.own ds2) := fun {j ds1} hj => by
    by_cases e : i = j
    · subst e
      exact ⟨_, hi⟩
    · rw [List.getElem?_set_ne e] at hj
      exact ⟨_, hj⟩
  have hlt : i < ρ.length := (List.getElem?_eq_some_iff.mp hi).1
  refine ⟨by simp [s.len], fun j en' hj => ?_, fun j k ds1 es hj hk e => ?_, fun a o e => ?_, fun j ds1 hj => ?_⟩
  · by_cases e : i = j
    · subst e
      rw [List.getElem?_set_self hlt] at hj
      cases hj
      exact ⟨(s.ok i _ hi).1, vs, upd_same, dp⟩
    · rw [List.getElem?_set_ne e] at hj
      have z := s.ok j en' hj
      cases en' with
      | un => exact True.intro
      | dat d => exact z
      | bag => exact z
      | own es =>
        obtain ⟨h1, ws, h2, h3⟩ := z
        exact ⟨h1, ws, by rw [upd_ne (fun q => e (s.inj i j _ _ hi hj q.symm))]; exact h2, h3⟩
  · obtain ⟨d1, h1⟩ := key hj
    obtain ⟨d2, h2⟩ := key hk
    exact s.inj j k d1 d2 h1 h2 e
  · have n := s.new i _ hi
    rw [upd_ne (fun z => by rw [z, n] at e; cases e)]
    exact s.sub a o e
  · obtain ⟨d1, h1⟩ := key hj
    exact s.new j d1 h1
/-- an owned list becomes data -/
theorem Slots.freeze {m : Pm} {F0 F G : Hp} {ow : Nat → Addr} {σ : L2.St} {i : Nat} {vs : List V} {ds : List D} (s : Slots m F0 F ow ρ σ G) (hi : ρ[i]? = some (.own ds)) (hF : F (ow i) = some (.lst vs)) (hG : G (ow i) = none) :
    Slots m F0 (fun a => if a = ow i then none else F a) ow (ρ.set i (.dat (.list ds))) σ (upd G (ow i) (.lst vs)) := by
  have hlt : i < ρ.length := (List.getElem?_eq_some_iff.mp hi).1
  have sm : Same G (upd G (ow i) (.lst vs)) := same_upd hG
  have key : ∀ {j : Nat} {ds1 : List D}, (ρ.set i (.dat (.list ds)))[j]? = some (.own ds1) → ρ[j]? = some (.own ds1) ∧ j ≠ i := fun {j ds1} hj => by
    by_cases e : i = j
    · subst e
      rw [List.getElem?_set_self hlt] at hj
      cases hj
    · rw [List.getElem?_set_ne e] at hj
      exact ⟨hj, fun z => e z.symm⟩
  refine ⟨by simp [s.len], fun j en' hj => ?_, fun j k ds1 es hj hk e => s.inj j k ds1 es (key hj).1 (key hk).1 e, fun a o e => ?_, fun j ds1 hj => s.new j ds1 (key hj).1⟩
  · by_cases e : i = j
    · subst e
      rw [List.getElem?_set_self hlt] at hj
      cases hj
      obtain ⟨h1, ws, h2, h3⟩ := s.ok i _ hi
      rw [hF] at h2
      cases h2
      exact ⟨_, h1, .lst (SqL.of upd_same) (dps_mono sm h3)⟩
    · rw [List.getElem?_set_ne e] at hj
      have z := s.ok j en' hj
      cases en' with
      | un => exact True.intro
      | dat d =>
        obtain ⟨v, h1, h2⟩ := z
        exact ⟨v, h1, dp_mono sm h2⟩
      | bag => exact z
      | own es =>
        obtain ⟨h1, ws, h2, h3⟩ := z
        refine ⟨h1, ws, ?_, dps_mono sm h3⟩
        show (if ow j = ow i then none else F (ow j)) = _
        rw [if_neg (fun q => e (s.inj i j _ _ hi hj q.symm))]
        exact h2
  · have n := s.new i _ hi
    show (if a = ow i then none else F a) = _
    rw [if_neg (fun z => by rw [z, n] at e; cases e)]
    exact s.sub a o e
end
end DL

namespace DL
open PySem PySem.Spec PyProof.Rows L2

abbrev NoX : Exc → Prop := fun _ => False
theorem XOk.later {T : List (Addr × Str)} {X : Cx} {m : Pm} {F0 G0 G1 : Hp} {Ψ : Exc → Prop} (x : XOk T X m F0 G0 Ψ) (e : Same G0 G1) : XOk T X m F0 G1 Ψ :=
  ⟨x.K, x.mg, x.T, x.nd, x.calm, x.po, x.tk.imp fun _ _ _ _ h => h.back (fun _ _ q => q) e⟩
theorem RsOk.later {m : Pm} {F G0 G1 : Hp} {v : V} {H' : Hp} (e : Same G0 G1) : ∀ {r : Rs}, RsOk m F G1 v H' r → RsOk m F G0 v H' r
  | .dat _, ⟨G2, h1, h2⟩ => ⟨G2, e.trans h1, h2⟩
  | .new _, ⟨p, vs, G2, h0, h1, h2⟩ => ⟨p, vs, G2, h0, e.trans h1, h2⟩
theorem ends1.later {m : Pm} {F0 G0 G1 : Hp} {n : List En → Prop} (e : Same G0 G1) {σ : L2.St} {H : Hp} (q : ends1 m F0 G1 n σ H) : ends1 m F0 G0 n σ H := by
  obtain ⟨ρ', F', ow', G', h1, h2, h3⟩ := q
  exact ⟨ρ', F', ow', G', h1, e.trans h2, h3⟩

/-! ### targets -/
def wG (X : Cx) (tg : Expr) : TG := fun v σ H Q => ∃ g, PG X tg g ∧ g v σ H Q
theorem pg_w {X : Cx} {tg : Expr} : PG X tg (wG X tg) := ⟨fun pins s σ H v u Q I r h => by
  obtain ⟨g, hg, q⟩ := h
  exact hg.run pins s σ H v u Q I r q⟩
def wGs (X : Cx) (ts : List Expr) : TGs := fun vs σ H Q => ∃ g, PGs X ts g ∧ g vs σ H Q
theorem pgs_w {X : Cx} {ts : List Expr} : PGs X ts (wGs X ts) := ⟨fun pins s σ H v u Q I r h => by
  obtain ⟨g, hg, q⟩ := h
  exact hg.run pins s σ H v u Q I r q⟩
structure TGT (Γ : Ctx) (Ψ : Exc → Prop) (ρ : List En) (tg : Expr) (d : D) (ix : List Nat) (K : List En → Prop) : Prop where
  run : ∀ {X : Cx} {m : Pm} {F0 G0 F : Hp} {ow : Nat → Addr} {σ : L2.St} {G H : Hp}, Stt Γ X Ψ ρ m F0 G0 F ow σ G H → ∀ (v : V) (Q : L2.St → Hp → Prop), Dp m.K G v d →
    (∀ ρ' σ', K ρ' → Slots m F0 F ow ρ' σ' G → (∀ vs : List Nat, (∀ i ∈ ix, i ∈ vs) → wipe σ' vs = wipe σ vs) → Q σ' H) → wG X tg v σ H Q
structure TGTs (Γ : Ctx) (Ψ : Exc → Prop) (ρ : List En) (ts : List Expr) (ds : List D) (ix : List Nat) (K : List En → Prop) : Prop where
  run : ∀ {X : Cx} {m : Pm} {F0 G0 F : Hp} {ow : Nat → Addr} {σ : L2.St} {G H : Hp}, Stt Γ X Ψ ρ m F0 G0 F ow σ G H → ∀ (vs : List V) (Q : L2.St → Hp → Prop), DpAll m.K G vs ds →
    (∀ ρ' σ', K ρ' → Slots m F0 F ow ρ' σ' G → (∀ vs : List Nat, (∀ i ∈ ix, i ∈ vs) → wipe σ' vs = wipe σ vs) → Q σ' H) → wGs X ts vs σ H Q
theorem wipe_get (σ : L2.St) : ∀ (vs : List Nat) (j : Nat), (wipe σ vs)[j]? = if j ∈ vs ∧ j < σ.length then some none else σ[j]?
  | [], j => by simp [wipe]
  | v :: vs, j => by
    unfold wipe
    by_cases e : v = j
    · subst e
      by_cases hl : v < σ.length
      · rw [List.getElem?_set_self (by rw [wipe_length]; exact hl), if_pos ⟨List.mem_cons_self, hl⟩]
      · rw [if_neg (fun z => hl z.2), List.getElem?_eq_none (by rw [List.length_set, wipe_length]; omega), List.getElem?_eq_none (by omega)]
    · rw [List.getElem?_set_ne e, wipe_get σ vs j]
      have : (j ∈ v :: vs) ↔ j ∈ vs := by
        simp only [List.mem_cons]
        exact ⟨fun z => z.resolve_left (fun q => e q.symm), .inr⟩
      by_cases hj : j ∈ vs ∧ j < σ.length
      · rw [if_pos hj, if_pos ⟨this.mpr hj.1, hj.2⟩]
      · rw [if_neg hj, if_neg (fun z => hj ⟨this.mp z.1, z.2⟩)]
theorem wipe_set {σ : L2.St} {i : Nat} {x : Option V} {vs : List Nat} (h : i ∈ vs) : wipe (σ.set i x) vs = wipe σ vs := by
  refine List.ext_getElem? fun j => ?_
  rw [wipe_get, wipe_get, List.length_set]
  by_cases e : i = j
  · subst e
    by_cases hl : i < σ.length
    · rw [if_pos ⟨h, hl⟩, if_pos ⟨h, hl⟩]
    · rw [if_neg (fun z => hl z.2), if_neg (fun z => hl z.2), List.getElem?_eq_none (by rw [List.length_set]; omega), List.getElem?_eq_none (by omega)]
  · rw [List.getElem?_set_ne e]
section
variable {Γ : Ctx} {Ψ : Exc → Prop} {ρ : List En} {a b c e tg iter elt : Expr} {es ts : List Expr} {pos pos' : Pos} {Φ : D → Prop} {p : Pst} {st : Stmt} {rest body orelse : List Stmt} {d : D} {ds : List D} {ix : List Nat} {K : List En → Prop}
theorem tgt_name {x : Str} (i : Nat) (h : K (ρ.set i (.dat d))) (hN : Γ.N[i]? = some x := by kernel_rfl) (hl : locB Γ.sc Γ.top x = true := by kernel_rfl) : TGT Γ Ψ ρ (.Name x pos) d [i] K := ⟨fun {X m F0 G0 F ow σ G H} s v Q dp q =>
  ⟨_, pg_name s.x.nd (s.f.nth hN) (s.f.loc hl).1 (s.f.loc hl).2, q _ _ h (s.sl.put ⟨v, rfl, dp⟩ fun _ z => by cases z) fun vs hv => wipe_set (hv i List.mem_cons_self)⟩⟩
theorem tgts_nil (h : K ρ) : TGTs Γ Ψ ρ [] [] [] K := ⟨fun {X m F0 G0 F ow σ G H} s vs Q dp q => by
  cases dp
  exact ⟨_, pgs_nil, rfl, q ρ σ h s.sl fun _ _ => rfl⟩⟩
theorem tgts_cons {ix2 : List Nat} (h : TGT Γ Ψ ρ a d ix (fun ρ1 => TGTs Γ Ψ ρ1 ts ds ix2 K)) (hs : ∀ env, (assignEach (a :: ts) env).map (·.2) = assign a env :: (assignEach ts env).map (·.2) := by intro _; kernel_rfl) : TGTs Γ Ψ ρ (a :: ts) (d :: ds) (ix ++ ix2) K := ⟨fun {X m F0 G0 F ow σ G H} s vs Q dp q => by
  cases dp with
  | cons d1 d2 =>
    refine ⟨_, pgs_cons pg_w pgs_w (hs _), _, _, rfl, h.run s _ _ d1 fun ρ1 σ1 h1 sl1 w1 => h1.run ⟨s.f, s.x, s.s0, sl1, s.st⟩ _ _ d2 fun ρ2 σ2 h2 sl2 w2 => q ρ2 σ2 h2 sl2 fun vs hv => ?_⟩
    rw [w2 vs fun i hi => hv i (List.mem_append_right _ hi), w1 vs fun i hi => hv i (List.mem_append_left _ hi)]⟩
theorem tgt_tup {k : Nat} (h : TGTs Γ Ψ ρ ts ds ix K) (hn : ∀ env, (assignEach ts env).length = ds.length := by intro _; kernel_rfl) (hst : ∀ env, (assignEach ts env).findIdx? (·.1) = none := by intro _; kernel_rfl) : TGT Γ Ψ ρ (.Tuple ts k pos) (.tuple ds) ix K := ⟨fun {X m F0 G0 F ow σ G H} s v Q dp q => by
  cases dp with
  | @tup aa xs _ hs ha =>
    exact ⟨_, pg_tup s.x.calm pgs_w (hn _) (hst _), aa, xs, rfl, by rw [← s.x.K]; exact same_t s.st.same hs, dps_len ha, h.run s xs Q ha q⟩⟩

/-! ### assignments -/
theorem sd_asgT (he : EV Γ Ψ ρ e Φ) (h : ∀ d, Φ d → ∃ ix, TGT Γ Ψ ρ tg d ix (fun ρ' => SD Γ Ψ ρ' rest p)) (hs : ∀ env, swapsWithSole [tg] e pos.line env = pure false := by intro _; kernel_rfl) (hw : ∀ env, swappedStores [tg] e env = pure none := by intro _; kernel_rfl)
    (h1 : ∀ env, (assignEach [tg] env).map (·.2) = [assign tg env] := by intro _; kernel_rfl) : SD Γ Ψ ρ (.Assign [tg] e pos :: rest) p := ⟨fun {X m F0 G0 F ow σ G H} s =>
  ⟨_, pss_cons (ps_asg pe_w pg_w (hs _) (hw _) (h1 _)) pss_w, he.run s _ fun d v G2 H2 p2 e2 s2 d2 => (h d p2).elim fun ix hT => hT.run (s.next e2 s2) v _ d2 fun ρ' σ' k sl _ => k.run ⟨s.f, s.x, s.s0.trans e2, sl, s2⟩⟩⟩
theorem sd_asg {x : Str} (i : Nat) (he : EV Γ Ψ ρ e Φ) (h : ∀ d, Φ d → SD Γ Ψ (ρ.set i (.dat d)) rest p) (hN : Γ.N[i]? = some x := by kernel_rfl) (hl : locB Γ.sc Γ.top x = true := by kernel_rfl) (hs : ∀ env, swapsWith e (some (.Name x pos')) pos.line env = pure false := by intro _; kernel_rfl) : SD Γ Ψ ρ (.Assign [.Name x pos'] e pos :: rest) p := ⟨fun {X m F0 G0 F ow σ G H} s =>
  ⟨_, pss_cons (ps_set s.x.nd (s.f.nth hN) (s.f.loc hl).1 pe_w (hs _) (s.f.loc hl).2) pss_w, he.run s _ fun d v G2 H2 p2 e2 s2 d2 => (h d p2).run ⟨s.f, s.x, s.s0.trans e2, (s.sl.mono e2).put ⟨v, rfl, d2⟩ (fun _ z => by cases z), s2⟩⟩⟩
theorem sd_asg1 {x : Str} (i : Nat) (he : EV Γ Ψ ρ e (· = d)) (h : SD Γ Ψ (ρ.set i (.dat d)) rest p) (hN : Γ.N[i]? = some x := by kernel_rfl) (hl : locB Γ.sc Γ.top x = true := by kernel_rfl) (hs : ∀ env, swapsWith e (some (.Name x pos')) pos.line env = pure false := by intro _; kernel_rfl) : SD Γ Ψ ρ (.Assign [.Name x pos'] e pos :: rest) p :=
  sd_asg i he (fun d' e' => by rw [e']; exact h) hN hl hs
/-- a name takes a new list -/
theorem sd_asgn {x : Str} {Φn : List D → Prop} (i : Nat) (he : EVN Γ Ψ ρ e Φn) (h : ∀ ds, Φn ds → SD Γ Ψ (ρ.set i (.own ds)) rest p) (hN : Γ.N[i]? = some x := by kernel_rfl) (hl : locB Γ.sc Γ.top x = true := by kernel_rfl) (hs : ∀ env, swapsWith e (some (.Name x pos')) pos.line env = pure false := by intro _; kernel_rfl) : SD Γ Ψ ρ (.Assign [.Name x pos'] e pos :: rest) p := ⟨fun {X m F0 G0 F ow σ G H} s =>
  ⟨_, pss_cons (ps_set s.x.nd (s.f.nth hN) (s.f.loc hl).1 pe_w (hs _) (s.f.loc hl).2) pss_w, he.run s _ fun ds q vs G2 H2 p2 e2 hF s2 d2 => (h ds p2).run ⟨s.f, s.x, s.s0.trans e2, (s.sl.mono e2).putOwn hF d2, s2⟩⟩⟩
theorem sd_asgn1 {x : Str} (i : Nat) (he : EVN Γ Ψ ρ e (· = ds)) (h : SD Γ Ψ (ρ.set i (.own ds)) rest p) (hN : Γ.N[i]? = some x := by kernel_rfl) (hl : locB Γ.sc Γ.top x = true := by kernel_rfl) (hs : ∀ env, swapsWith e (some (.Name x pos')) pos.line env = pure false := by intro _; kernel_rfl) : SD Γ Ψ ρ (.Assign [.Name x pos'] e pos :: rest) p :=
  sd_asgn i he (fun d' e' => by rw [e']; exact h) hN hl hs
/-- an owned list becomes data, ahead of a statement -/
theorem sd_freeze {ss : List Stmt} (i : Nat) (hi : ρ[i]? = some (.own ds)) (h : SD Γ Ψ (ρ.set i (.dat (.list ds))) ss p) : SD Γ Ψ ρ ss p := ⟨fun {X m F0 G0 F ow σ G H} s => by
  obtain ⟨h1, vs, h2, h3⟩ := s.sl.ok i _ hi
  have hG := (s.st.fr _ _ h2).2
  refine h.run (G := upd G (ow i) (.lst vs)) (F := fun a => if a = ow i then none else F a) (ow := ow) ⟨s.f, s.x, s.s0.trans (same_upd hG), s.sl.freeze hi h2 hG, ?_⟩
  refine St0.freeze (F := fun a => if a = ow i then none else F a) ?_ (if_pos rfl)
  have e : upd (fun a => if a = ow i then none else F a) (ow i) (.lst vs) = F := by
    funext a
    by_cases z : a = ow i
    · rw [z, upd_same, h2]
    · rw [upd_ne z, if_neg z]
  rw [e]
  exact s.st⟩
theorem sd_if {k : Bool} (hc : EVT Γ Ψ ρ c (· = k)) (ht : k = true → SD Γ Ψ ρ body { p with nx := fun ρ' => SD Γ Ψ ρ' rest p }) (hf : k = false → SD Γ Ψ ρ orelse { p with nx := fun ρ' => SD Γ Ψ ρ' rest p }) : SD Γ Ψ ρ (.If c body orelse pos :: rest) p :=
  sd_cons ⟨fun {X m F0 G0 F ow σ G H} s => ⟨_, ps_if pt_w pss_w pss_w, hc.run s _ fun b G2 H2 p2 e2 s2 => by
    subst p2
    cases b with
    | true => exact iteT ((ht rfl).run (s.next e2 s2))
    | false => exact iteF ((hf rfl).run (s.next e2 s2))⟩⟩
theorem sd_expr (he : EV Γ Ψ ρ e Φ) (h : SD Γ Ψ ρ rest p) (hs : ∀ env, swapsWith e none pos.line env = pure false := by intro _; kernel_rfl) : SD Γ Ψ ρ (.Expr e pos :: rest) p := ⟨fun {X m F0 G0 F ow σ G H} s =>
  ⟨_, pss_cons (ps_expr pe_w (hs _)) pss_w, he.run s _ fun d v G2 H2 p2 e2 s2 d2 => h.run (s.next e2 s2)⟩⟩
theorem sd_pass (h : SD Γ Ψ ρ rest p) : SD Γ Ψ ρ (.Pass pos :: rest) p := ⟨fun {X m F0 G0 F ow σ G H} s => ⟨_, pss_cons ps_pass pss_w, h.run s⟩⟩
theorem sd_continue (h : p.ct ρ) : SD Γ Ψ ρ (.Continue pos :: rest) p := ⟨fun {X m F0 G0 F ow σ G H} s => ⟨_, pss_cons ps_continue pss_w, ρ, F, ow, G, h, s.s0, s.sl, s.st⟩⟩
theorem sd_break (h : p.bk ρ) : SD Γ Ψ ρ (.Break pos :: rest) p := ⟨fun {X m F0 G0 F ow σ G H} s => ⟨_, pss_cons ps_break pss_w, ρ, F, ow, G, h, s.s0, s.sl, s.st⟩⟩
/-- two ways that can't both be -/
theorem sd_false {ss : List Stmt} (h : False) : SD Γ Ψ ρ ss p := h.elim

/-! ### what is walked -/
def ItOk (m : Pm) (G1 : Hp) (J : It) (ds : List D) : Prop := ∀ (i : Nat) (F G H : Hp), Same G1 G → St0 m F G H → (ds.length ≤ i → J.stop i H) ∧ ∀ d, ds[i]? = some d → J.go i H ∧ ∀ x H', J.yld i H x H' → ∃ G', Same G G' ∧ St0 m F G' H' ∧ Dp m.K G' x d
structure EVI (Γ : Ctx) (Ψ : Exc → Prop) (ρ : List En) (tg iter : Expr) (Φ : List D → Prop) : Prop where
  run : ∀ {X : Cx} {m : Pm} {F0 G0 F : Hp} {ow : Nat → Addr} {σ : L2.St} {G H : Hp}, Stt Γ X Ψ ρ m F0 G0 F ow σ G H → ∀ R : It → Hp → Prop, (∀ ds J G1 H1, Φ ds → Same G G1 → St0 m F G1 H1 → ItOk m G1 J ds → R J H1) → ∃ wi, PI X tg iter wi ∧ wi σ H R
theorem sqL_list {m : Pm} {G : Hp} {v : V} {ds : List D} (h : Dp m.K G v (.list ds)) : ∃ a xs, v = .ref a ∧ SqL m.K G a xs ∧ DpAll m.K G xs ds := by
  cases h with
  | lst h1 h2 => exact ⟨_, _, rfl, h1, h2⟩
theorem sqT_tup {m : Pm} {G : Hp} {v : V} {ds : List D} (h : Dp m.K G v (.tuple ds)) : ∃ a xs, v = .ref a ∧ SqT m.K G a xs ∧ DpAll m.K G xs ds := by
  cases h with
  | tup h1 h2 => exact ⟨_, _, rfl, h1, h2⟩
theorem dps_end {K : PySem.W.Frag} {G : Hp} {vs : List V} {ds : List D} (h : DpAll K G vs ds) {i : Nat} (hi : ds.length ≤ i) : vs.length ≤ i := by rw [dps_len h]; exact hi
theorem evi_list (h : EV Γ Ψ ρ iter (· = .list ds)) : EVI Γ Ψ ρ tg iter (· = ds) := ⟨fun {X m F0 G0 F ow σ G H} s R q => ⟨_, pi_list pe_w, h.run s _ fun d v G2 H2 p2 e2 s2 d2 => by
  subst p2
  obtain ⟨aa, xs, rfl, h1, h2⟩ := sqL_list d2
  refine ⟨aa, rfl, ⟨xs, by rw [← s.x.K]; exact same_l s2.same h1⟩, q ds _ G2 H2 rfl e2 s2 fun i F' G' H' e' s' => ⟨fun hi => ⟨xs, by rw [← s.x.K]; exact same_l (e'.trans s'.same) h1, dps_end h2 hi⟩, fun d hd => ?_⟩⟩
  obtain ⟨v, hv, dv⟩ := dps_get h2 hd
  refine ⟨⟨xs, v, by rw [← s.x.K]; exact same_l (e'.trans s'.same) h1, hv⟩, fun x H'' y => ?_⟩
  obtain ⟨rfl, y2⟩ := y
  have hx := y2 xs (by rw [← s.x.K]; exact same_l (e'.trans s'.same) h1)
  rw [hv] at hx
  cases hx
  exact ⟨G', Same.refl _, s', dp_mono e' dv⟩⟩⟩
theorem evi_tup (h : EV Γ Ψ ρ iter (· = .tuple ds)) : EVI Γ Ψ ρ tg iter (· = ds) := ⟨fun {X m F0 G0 F ow σ G H} s R q => ⟨_, pi_tup pe_w, h.run s _ fun d v G2 H2 p2 e2 s2 d2 => by
  subst p2
  obtain ⟨aa, xs, rfl, h1, h2⟩ := sqT_tup d2
  refine ⟨aa, rfl, ⟨xs, by rw [← s.x.K]; exact same_t s2.same h1⟩, q ds _ G2 H2 rfl e2 s2 fun i F' G' H' e' s' => ⟨fun hi => ⟨xs, by rw [← s.x.K]; exact same_t (e'.trans s'.same) h1, dps_end h2 hi⟩, fun d hd => ?_⟩⟩
  obtain ⟨v, hv, dv⟩ := dps_get h2 hd
  refine ⟨⟨xs, v, by rw [← s.x.K]; exact same_t (e'.trans s'.same) h1, hv⟩, fun x H'' y => ?_⟩
  obtain ⟨rfl, y2⟩ := y
  have hx := y2 xs (by rw [← s.x.K]; exact same_t (e'.trans s'.same) h1)
  rw [hv] at hx
  cases hx
  exact ⟨G', Same.refl _, s', dp_mono e' dv⟩⟩⟩
/-- lo, lo + 1, .. (n of them) -/
def rangeD (lo : Int) (n : Nat) : List D := (List.range n).map fun (i : Nat) => .int (lo + i)
theorem rangeD_len (lo : Int) (n : Nat) : (rangeD lo n).length = n := by simp [rangeD]
theorem rangeD_get {lo : Int} {n i : Nat} {d : D} (h : (rangeD lo n)[i]? = some d) : i < n ∧ d = .int (lo + i) := by
  unfold rangeD at h
  rw [List.getElem?_map] at h
  by_cases hi : i < n
  · rw [List.getElem?_range hi] at h
    exact ⟨hi, (Option.some.inj h).symm⟩
  · rw [List.getElem?_eq_none (by simpa using hi)] at h
    cases h
theorem it_range (m : Pm) (G1 : Hp) (lo : Int) (n : Nat) : ItOk m G1 (Itr lo n) (rangeD lo n) := fun i F G H e s => ⟨fun hi => by rw [rangeD_len] at hi; exact hi, fun d hd => by
  obtain ⟨hi, rfl⟩ := rangeD_get hd
  refine ⟨hi, fun x H' y => ?_⟩
  obtain ⟨rfl, rfl⟩ := y
  exact ⟨G, Same.refl _, s, .int _⟩⟩
theorem evi_range1 {i : Int} {pp : Pos} (h : EV Γ Ψ ρ a (· = .int i)) (h1 : -(2 ^ 62) ≤ i) (h2 : i < 2 ^ 62) (hm : Γ.g.mg "range" = none) (hg : glB Γ.sc "range" = true := by kernel_rfl) (hs : ∀ env, starEach [a] env = [(false, eval a env)] := by intro _; kernel_rfl) :
    EVI Γ Ψ ρ tg (.Call (.Name "range" pp) [a] [] pos) (· = rangeD 0 i.toNat) := ⟨fun {X m F0 G0 F ow σ G H} s R q => ⟨_, pi_range1 (s.f.gl hg) (by rw [s.f.mg]; exact hm) pa_w (hs _), (eva_cons1 h eva_nil fun env => by rw [hs]; rfl).run s _ fun as vs G2 H2 p2 e2 s2 d2 => by
  subst p2
  cases d2 with
  | cons x r =>
    cases r
    have x' : Dp m.K G2 _ (.int i) := x
    cases x'
    exact ⟨i, rfl, h1, h2, q _ _ G2 H2 rfl e2 s2 (it_range m G2 0 i.toNat)⟩⟩⟩
theorem evi_range2 {i j : Int} {pp : Pos} (h : EV Γ Ψ ρ a (· = .int i)) (h' : EV Γ Ψ ρ b (· = .int j)) (hb : -(2 ^ 62) ≤ i ∧ i < 2 ^ 62 ∧ -(2 ^ 62) ≤ j ∧ j < 2 ^ 62) (hm : Γ.g.mg "range" = none) (hg : glB Γ.sc "range" = true := by kernel_rfl) (hs : ∀ env, starEach [a, b] env = [(false, eval a env), (false, eval b env)] := by intro _; kernel_rfl) (hs2 : ∀ env, starEach [b] env = [(false, eval b env)] := by intro _; kernel_rfl) :
    EVI Γ Ψ ρ tg (.Call (.Name "range" pp) [a, b] [] pos) (· = rangeD i (j - i).toNat) := ⟨fun {X m F0 G0 F ow σ G H} s R q => ⟨_, pi_range2 (s.f.gl hg) (by rw [s.f.mg]; exact hm) pa_w (hs _) (hs2 _), (eva_cons1 h (eva_cons1 h' eva_nil fun env => by rw [hs2]; rfl) fun env => by rw [hs, hs2]).run s _ fun as vs G2 H2 p2 e2 s2 d2 => by
  subst p2
  cases d2 with
  | cons x r =>
    cases r with
    | cons y r =>
      cases r
      have x' : Dp m.K G2 _ (.int i) := x
      have y' : Dp m.K G2 _ (.int j) := y
      cases x'
      cases y'
      exact ⟨i, j, rfl, hb, q _ _ G2 H2 rfl e2 s2 (it_range m G2 i (j - i).toNat)⟩⟩⟩

/-! ### for -/
theorem sd_for (Inv : Nat → List En → Prop) {Φi : List D → Prop} (hi : EVI Γ Ψ ρ tg iter Φi) (h0 : ∀ ds, Φi ds → Inv 0 ρ)
    (turn : ∀ ds i d ρ', Φi ds → ds[i]? = some d → Inv i ρ' → ∃ ix, TGT Γ Ψ ρ' tg d ix (fun ρ2 => SD Γ Ψ ρ2 body { nx := Inv (i + 1), ct := Inv (i + 1), bk := fun ρ3 => SD Γ Ψ ρ3 rest p, rt := p.rt }))
    (done : ∀ ds ρ', Φi ds → Inv ds.length ρ' → SD Γ Ψ ρ' rest p) (hs : ∀ env x, foldedSetIterable iter env x = pure x := by intro _ _; kernel_rfl) : SD Γ Ψ ρ (.For tg iter body [] pos :: rest) p :=
  sd_cons ⟨fun {X m F0 G0 F ow σ G H} s => by
    obtain ⟨wi, hwi, q⟩ := hi.run s (fun J H1 => ∃ W : Nat → Nat → L2.St → Hp → Prop, (∃ mm, W 0 mm σ H1) ∧ ∀ i mm σ H, W i mm σ H →
      (J.stop i H ∧ (ends { p with nx := fun ρ' => SD Γ Ψ ρ' rest p } m F0 G0).nx σ H) ∨ (J.go i H ∧ ∃ N : L2.St → Hp → Prop, (∀ σ' H', N σ' H' → ∃ m', m' < mm ∧ W (i + 1) m' σ' H') ∧ ∀ x H', J.yld i H x H' → wG X tg x σ H' fun σ2 H2 => wSs X body { ends { p with nx := fun ρ' => SD Γ Ψ ρ' rest p } m F0 G0 with nx := N, ct := N, bk := (ends { p with nx := fun ρ' => SD Γ Ψ ρ' rest p } m F0 G0).nx } σ2 H2)) fun ds J G1 H1 p1 e1 s1 it => by
      refine ⟨fun i mm σ H => i + mm = ds.length ∧ ends1 m F0 G1 (Inv i) σ H, ⟨ds.length, by omega, ρ, F, ow, G1, h0 ds p1, Same.refl _, s.sl.mono e1, s1⟩, fun i mm σ' H' w => ?_⟩
      obtain ⟨hm, ρ', F', ow', G', hI, e', sl', st'⟩ := w
      have key := it i F' G' H' e' st'
      by_cases hlt : i < ds.length
      · obtain ⟨go, yl⟩ := key.2 ds[i] (List.getElem?_eq_getElem hlt)
        refine .inr ⟨go, fun σ2 H2 => ends1 m F0 G1 (Inv (i + 1)) σ2 H2, fun σ2 H2 n => ⟨mm - 1, by omega, by omega, n⟩, fun x H2 y => ?_⟩
        obtain ⟨G2, e2, st2, dp⟩ := yl x H2 y
        have x1 := s.x.later (s.s0.trans e1)
        obtain ⟨ix, hT⟩ := turn ds i ds[i] ρ' p1 (List.getElem?_eq_getElem hlt) hI
        refine hT.run (G0 := G1) ⟨s.f, x1, e'.trans e2, sl'.mono e2, st2⟩ x _ dp fun ρ2 σ2 k sl2 _ => ?_
        refine wSs_mono (k.run (G0 := G1) ⟨s.f, x1, e'.trans e2, sl2, st2⟩) (fun _ _ z => z) (fun v H ⟨r, z, ok⟩ => ⟨r, z, ok.later (s.s0.trans e1)⟩) (fun _ _ z => z.later (s.s0.trans e1)) (fun _ _ z => z)
      · refine .inl ⟨key.1 (by omega), ρ', F', ow', G', ?_, (s.s0.trans e1).trans e', sl', st'⟩
        have : i = ds.length := by omega
        subst this
        exact done ds ρ' p1 hI
    exact ⟨_, ps_for s.x.po s.x.calm hwi pg_w pss_w (hs _), q⟩⟩
/-- while: the invariant by a measure -/
theorem sd_while (Inv : Nat → List En → Prop) (h0 : ∃ n, Inv n ρ)
    (turn : ∀ n ρ', Inv n ρ' → ∃ k, EVT Γ Ψ ρ' c (· = k) ∧ (k = true → SD Γ Ψ ρ' body { nx := fun ρ2 => ∃ n', n' < n ∧ Inv n' ρ2, ct := fun ρ2 => ∃ n', n' < n ∧ Inv n' ρ2, bk := fun ρ3 => SD Γ Ψ ρ3 rest p, rt := p.rt }) ∧ (k = false → SD Γ Ψ ρ' rest p)) : SD Γ Ψ ρ (.While c body [] pos :: rest) p :=
  sd_cons ⟨fun {X m F0 G0 F ow σ G H} s => by
    refine ⟨_, ps_while s.x.po pt_w pss_w, fun n σ H => ends1 m F0 G0 (Inv n) σ H, ?_, fun n σ' H' w => ?_⟩
    · obtain ⟨n, hn⟩ := h0
      exact ⟨n, ρ, F, ow, G, hn, s.s0, s.sl, s.st⟩
    · obtain ⟨ρ', F', ow', G', hI, e', sl', st'⟩ := w
      obtain ⟨k, hc, ht, hf⟩ := turn n ρ' hI
      refine hc.run ⟨s.f, s.x, e', sl', st'⟩ _ fun b G2 H2 p2 e2 s2 => ?_
      subst p2
      cases b with
      | true =>
        refine iteT ⟨ends1 m F0 G0 (fun ρ2 => ∃ n', n' < n ∧ Inv n' ρ2), fun σ2 H2 z => ?_, ?_⟩
        · obtain ⟨ρ2, F2, ow2, G2, ⟨n', h1, h2⟩, z⟩ := z
          exact ⟨n', h1, ρ2, F2, ow2, G2, h2, z⟩
        · exact (ht rfl).run ⟨s.f, s.x, e'.trans e2, sl'.mono e2, s2⟩
      | false => exact iteF ⟨ρ', F', ow', G2, hf rfl, e'.trans e2, sl'.mono e2, s2⟩⟩
end

/-! ### a def -/
theorem start_ok {m : Pm} {F G : Hp} {vs : List V} {as : List En} {N : List Str} {ow : Nat → Addr} (h : Args m G vs as) (hl : as.length ≤ N.length) : Slots m F F ow (as ++ List.replicate (N.length - as.length) .un) (L2.start N vs) G := by
  have key : ∀ {vs : List V} {as : List En} (i : Nat) (en : En), Args m G vs as → as[i]? = some en → (∃ v, vs[i]? = some v ∧ ArgOk m G v en) := by
    intro vs as i en h
    induction h generalizing i with
    | nil => intro z; simp at z
    | @cons v vs a as h r ih =>
      intro z
      cases i with
      | zero =>
        have z' : some a = some en := z
        cases z'
        exact ⟨v, rfl, h⟩
      | succ i => exact ih i z
  have hlen := h.len
  have ne : ∀ (i : Nat) (ds : List D), (as ++ List.replicate (N.length - as.length) En.un)[i]? ≠ some (En.own ds) := fun i ds z => by
    by_cases hi : i < as.length
    · rw [List.getElem?_append_left hi] at z
      obtain ⟨v, _, q⟩ := key i _ h z
      exact q
    · rw [List.getElem?_append_right (by omega), List.getElem?_replicate] at z
      split at z <;> cases z
  refine ⟨by unfold L2.start; simp; omega, fun i en hi => ?_, fun i j ds es hi => (ne i ds hi).elim, fun _ _ e => e, fun i ds hi => (ne i ds hi).elim⟩
  by_cases hlt : i < as.length
  · rw [List.getElem?_append_left hlt] at hi
    obtain ⟨v, hv, q⟩ := key i _ h hi
    have e : (L2.start N vs)[i]? = some (some v) := by
      unfold L2.start
      rw [List.getElem?_append_left (by simp; omega), List.getElem?_map, hv]
      rfl
    rw [e]
    cases en with
    | un => exact True.intro
    | dat d => exact ⟨v, rfl, q⟩
    | bag =>
      obtain ⟨b, h1, rfl⟩ := q
      exact ⟨b, h1, rfl⟩
    | own ds => exact q.elim
  · rw [List.getElem?_append_right (by omega), List.getElem?_replicate] at hi
    split at hi
    · cases hi
      exact True.intro
    · cases hi
/-- THE RULE for a def -/
theorem fn_body {g : Gm} {x qual : Str} {params : Arguments} {body : List Stmt} {scope : Scope} {dvs : List V} {kws : List (Str × V)} {f : Addr} {fd : FuncData} {N ps : List Str} {k : Nat} {spec : Spec}
    (F : FunD g.K x qual params body scope dvs kws f fd) (S : FnScope N ps scope) (len : ∀ as Φ Ψ, spec as Φ Ψ → as.length = ps.length)
    (hbody : ∀ as Φ Ψ, spec as Φ Ψ → SD ⟨g, N, scope, k, true, none⟩ Ψ (as ++ List.replicate (N.length - as.length) .un) body { nx := fun _ => Φ (.dat .none), rt := Φ }) :
    FnOk g.P g.w g.K g.mg g.base (L2.CX g.P g.w) (k + 1) f fd ps (spD g spec) := by
  have hpl : ps.length ≤ N.length := by have := congrArg List.length S.pre; rw [List.length_take] at this; omega
  refine F.ok S (fun vs H Q E h => ?_) fun cdv A outer s H vs Q E hr h => ?_
  · obtain ⟨m, F', G, as, _, _, _, _, ha, Φ, Ψ, hs, _⟩ := h
    rw [ha.len]
    exact len as Φ Ψ hs
  · obtain ⟨m, F', G, as, hK, hmg, hT, st, ha, Φ, Ψ, hs, hQ, hE⟩ := h
    have hX : Fr ⟨g, N, scope, k, true, none⟩ (cxOf (L2.CX g.P g.w) g.P g.w g.K g.mg g.base N qual scope f cdv A outer s H E) :=
      ⟨rfl, rfl, rfl, rfl, rfl, rfl, rfl, hr, fun _ _ => rfl, fun _ => ⟨rfl, rfl⟩, fun _ _ _ z => nomatch z⟩
    have tk : Takes (cxOf (L2.CX g.P g.w) g.P g.w g.K g.mg g.base N qual scope f cdv A outer s H E) (fun cls d _ H' => ExcPost m F' G Ψ cls d H') :=
      (takes_of rfl rfl rfl rfl).imp fun cls d σ H' z => hE cls d H' z
    have xo : XOk g.T (cxOf (L2.CX g.P g.w) g.P g.w g.K g.mg g.base N qual scope f cdv A outer s H E) m F' G Ψ := ⟨hK, hmg, hT, S.nd, rfl, passes_of (K := fun e s'' => L2.CX g.P g.w outer H s E e s'') rfl, tk⟩
    have q := (hbody as Φ Ψ hs).run (G0 := G) (ow := fun _ => 0) ⟨hX, xo, Same.refl _, start_ok ha (by rw [len as Φ Ψ hs]; exact hpl), st⟩
    refine wSs_mono q (fun σ' H' z => ?_) (fun v H' z => ?_) (fun σ' H' z => ?_) (fun σ' H' z => ?_)
    · obtain ⟨ρ', F2, ow', G', h1, h2, h3, h4⟩ := z
      exact hQ (.dat .none) .non H' h1 (back_dat h3 h2 h4 .non)
    · obtain ⟨r, h1, h2⟩ := z
      exact hQ r v H' h1 h2
    · obtain ⟨_, _, _, _, z, _⟩ := z
      exact z.elim
    · obtain ⟨_, _, _, _, z, _⟩ := z
      exact z.elim
end DL

namespace DL
open PySem PySem.Spec PyProof.Rows L2

/-! ### comprehensions -/
def wipeE (ρ : List En) : List Nat → List En
  | [] => ρ
  | v :: vs => (wipeE ρ vs).set v .un
theorem Slots.putUn {ρ : List En} {m : Pm} {F0 F G : Hp} {ow : Nat → Addr} {σ : L2.St} {i : Nat} (s : Slots m F0 F ow ρ σ G) : Slots m F0 F ow (ρ.set i .un) (σ.set i none) G := by
  have key : ∀ {j : Nat} {ds : List D}, (ρ.set i .un)[j]? = some (.own ds) → ρ[j]? = some (.own ds) := fun {j ds} hj => by
    by_cases e : i = j
    · subst e
      have hlt : i < ρ.length := by
        have := (List.getElem?_eq_some_iff.mp hj).1
        simpa using this
      rw [List.getElem?_set_self hlt] at hj
      cases hj
    · rw [List.getElem?_set_ne e] at hj
      exact hj
  refine ⟨by simp [s.len], fun j en' hj => ?_, fun j k ds es hj hk e => s.inj j k ds es (key hj) (key hk) e, s.sub, fun j ds hj => s.new j ds (key hj)⟩
  by_cases e : i = j
  · subst e
    have hlt : i < ρ.length := by
      have := (List.getElem?_eq_some_iff.mp hj).1
      simpa using this
    rw [List.getElem?_set_self hlt] at hj
    cases hj
    exact True.intro
  · rw [List.getElem?_set_ne e] at hj ⊢
    exact s.ok j en' hj
theorem Slots.wipe {ρ : List En} {m : Pm} {F0 F G : Hp} {ow : Nat → Addr} {σ : L2.St} (s : Slots m F0 F ow ρ σ G) : ∀ vs : List Nat, Slots m F0 F ow (wipeE ρ vs) (L2.wipe σ vs) G
  | [] => s
  | v :: vs => (Slots.wipe s vs).putUn
abbrev Ctx.blk (Γ : Ctx) (scope : Scope) : Ctx := { Γ with sc := relS scope Γ.sc, top := false, lam := none }
def gB (X : Cx) (scope : Scope) (tg : Expr) : TG := fun v σ H Q => ∀ (s : Shared) (H' : Hp) (C : Addr) (cl : List (Str × Addr)) (fp : List Addr), wG (X.blk s H' scope (compEnvC scope cl C X.env) fp) tg v σ H Q
def eB (X : Cx) (scope : Scope) (e : Expr) : TE := fun σ H Q => ∀ (s : Shared) (H' : Hp) (C : Addr) (cl : List (Str × Addr)) (fp : List Addr), wE (X.blk s H' scope (compEnvC scope cl C X.env) fp) e σ H Q
def wTs (X : Cx) (ifs : List Expr) : TT := fun σ H Q => ∃ t, PTs X ifs t ∧ t σ H Q
theorem pts_w {X : Cx} {ifs : List Expr} : PTs X ifs (wTs X ifs) := ⟨fun pins s σ H Q I h => by
  obtain ⟨t, h, q⟩ := h
  exact h.run pins s σ H Q I q⟩
def tB' (X : Cx) (scope : Scope) (ifs : List Expr) : TT := fun σ H Q => ∀ (s : Shared) (H' : Hp) (C : Addr) (cl : List (Str × Addr)) (fp : List Addr), wTs (X.blk s H' scope (compEnvC scope cl C X.env) fp) ifs σ H Q
structure EVTs (Γ : Ctx) (Ψ : Exc → Prop) (ρ : List En) (ifs : List Expr) (Φ : Bool → Prop) : Prop where
  run : ∀ {X : Cx} {m : Pm} {F0 G0 F : Hp} {ow : Nat → Addr} {σ : L2.St} {G H : Hp}, Stt Γ X Ψ ρ m F0 G0 F ow σ G H → ∀ Q : Bool → Hp → Prop, (∀ b G2 H2, Φ b → Same G G2 → St0 m F G2 H2 → Q b H2) → wTs X ifs σ H Q
theorem Fr.blk {Γ : Ctx} {X : Cx} (f : Fr Γ X) (scope : Scope) (s : Shared) (H' : Hp) (C : Addr) (cl : List (Str × Addr)) (fp : List Addr) : Fr (Γ.blk scope) (X.blk s H' scope (compEnvC scope cl C X.env) fp) :=
  ⟨f.prog, f.w, f.K, f.mg, f.base, f.N, by
    show relS scope X.env.scope = relS scope Γ.sc
    rw [f.sc], f.room, fun z => Bool.noConfusion z, fun z => Bool.noConfusion z, fun _ _ _ z => nomatch z⟩
theorem XOk.blk {T : List (Addr × Str)} {X : Cx} {m : Pm} {F0 G0 : Hp} {Ψ : Exc → Prop} (x : XOk T X m F0 G0 Ψ) (F1 G1 : Hp) (scope : Scope) (s : Shared) (H' : Hp) (C : Addr) (cl : List (Str × Addr)) (fp : List Addr) : XOk T (X.blk s H' scope (compEnvC scope cl C X.env) fp) m F1 G1 NoX :=
  ⟨x.K, x.mg, x.T, x.nd, x.calm, PassesOwn.never, L2.takes0.imp fun _ _ _ _ ⟨_, _, _, _, z, _⟩ => z⟩
section
variable {Γ : Ctx} {Ψ : Exc → Prop} {ρ : List En} {a b c e tg iter elt : Expr} {es ts ifs : List Expr} {pos pos' : Pos} {p : Pst} {rest : List Stmt} {d : D} {ds : List D} {ix : List Nat} {scope : Scope} {own : List (Str × Nat)}
theorem evts_nil : EVTs Γ Ψ ρ [] (· = true) := ⟨fun {X m F0 G0 F ow σ G H} s Q q => ⟨_, pts_nil, q true G H rfl (Same.refl _) s.st⟩⟩
theorem evts_one {Φ : Bool → Prop} (h : EVT Γ Ψ ρ c Φ) : EVTs Γ Ψ ρ [c] Φ := ⟨fun {X m F0 G0 F ow σ G H} s Q q => ⟨_, pts_one pt_w, h.run s Q q⟩⟩
theorem L2_wipe_wipe (σ : L2.St) (vs : List Nat) : L2.wipe (L2.wipe σ vs) vs = L2.wipe σ vs := by
  refine List.ext_getElem? fun j => ?_
  rw [wipe_get, wipe_get, wipe_length]
  by_cases h : j ∈ vs ∧ j < σ.length
  · rw [if_pos h, if_pos h]
  · rw [if_neg h]
/-- one turn of a comprehension -/
def LcTurn (Γ : Ctx) (ρ : List En) (tg elt : Expr) (ifs : List Expr) (ix : List Nat) (d : D) (no : Prop) (yes : D → Prop) : Prop :=
  TGT Γ NoX ρ tg d ix (fun ρ2 => ∃ Φ : Bool → Prop, EVTs Γ NoX ρ2 ifs Φ ∧ (Φ false → no) ∧ (Φ true → EV Γ NoX ρ2 elt yes))
theorem lc_main (Inv : Nat → List D → Prop) {Φi : List D → Prop} (hi : EVI Γ Ψ ρ tg iter Φi) (hl : ∀ ds, Φi ds → ds.length ≤ sizeLine) (hix : ∀ i ∈ ix, i ∈ own.map (·.2)) (h0 : Inv 0 [])
    (turn : ∀ ds i d acc, Φi ds → ds[i]? = some d → Inv i acc → LcTurn (Γ.blk scope) (wipeE ρ (own.map (·.2))) tg elt ifs ix d (Inv (i + 1) acc) (fun y => Inv (i + 1) (acc ++ [y])))
    {X : Cx} {m : Pm} {F0 G0 F : Hp} {ow : Nat → Addr} {σ : L2.St} {G H : Hp} (s : Stt Γ X Ψ ρ m F0 G0 F ow σ G H) (Q : VK)
    (q : ∀ ds' p vs G2 H2, (∃ ds, Φi ds ∧ Inv ds.length ds') → Same G G2 → F p = none → St0 m (upd F p (.lst vs)) G2 H2 → DpAll m.K G2 vs ds' → Q (.ref p) H2) :
    ∃ wi, PI X tg iter wi ∧ tLc wi (gB X scope tg) (tB' X scope ifs) (eB X scope elt) (own.map (·.2)) σ H Q := by
  obtain ⟨wi, hwi, hq⟩ := hi.run s (fun J H1 => ∀ D, H1 D = none → ∃ W : Nat → Nat → Hp → Prop, (∃ m, W 0 m (upd H1 D (.lst []))) ∧ ∀ i m H, W i m H →
    (J.stop i H ∧ Q (.ref D) H) ∨ (J.go i H ∧ ∃ Nx : Hp → Prop, (∀ H', Nx H' → ∃ m', m' < m ∧ W (i + 1) m' H') ∧ ∀ x H', J.yld i H x H' → gB X scope tg x (L2.wipe σ (own.map (·.2))) H' fun σ2 H2 => L2.wipe σ2 (own.map (·.2)) = L2.wipe σ (own.map (·.2)) ∧ tB' X scope ifs σ2 H2 fun b H3 =>
      if b = true then eB X scope elt σ2 H3 fun y H4 => ∃ acc, H4 D = some (.lst acc) ∧ acc.length < sizeLine ∧ Nx (upd H4 D (.lst (acc ++ [y]))) else Nx H3)) fun ds J G1 H1 p1 e1 s1 it Dl hD => by
    have hFD := s1.freshF hD
    let Wp : Nat → Hp → Prop := fun i H => ∃ (vs : List V) (acc : List D) (G' : Hp), acc.length ≤ i ∧ Inv i acc ∧ Same G1 G' ∧ St0 m (upd F Dl (.lst vs)) G' H ∧ DpAll m.K G' vs acc
    refine ⟨fun i mm H => i + mm = ds.length ∧ Wp i H, ⟨ds.length, by omega, [], [], G1, Nat.le_refl _, h0, Same.refl _, s1.allocF hD, .nil⟩, fun i mm H' w => ?_⟩
    obtain ⟨hm, vs, acc, G', hacc, hI, e', st', dp'⟩ := w
    have key := it i (upd F Dl (.lst vs)) G' H' e' st'
    by_cases hlt : i < ds.length
    · obtain ⟨go, yl⟩ := key.2 ds[i] (List.getElem?_eq_getElem hlt)
      refine .inr ⟨go, Wp (i + 1), fun H2 n => ⟨mm - 1, by omega, by omega, n⟩, fun x H2 y => ?_⟩
      obtain ⟨G2, e2, st2, dp⟩ := yl x H2 y
      have sl0 : Slots m F0 (upd F Dl (.lst vs)) ow (wipeE ρ (own.map (·.2))) (L2.wipe σ (own.map (·.2))) G2 := ((s.sl.mono ((e1.trans e').trans e2)).grow hFD).wipe _
      have t := turn ds i ds[i] acc p1 (List.getElem?_eq_getElem hlt) hI
      intro s' Hs C cl fp
      refine t.run (F0 := F0) (G0 := G1) ⟨s.f.blk scope s' Hs C cl fp, s.x.blk F0 G1 scope s' Hs C cl fp, e'.trans e2, sl0, st2⟩ x _ dp fun ρ2 σ2 hk sl2 hw => ?_
      obtain ⟨Φ, ht, hno, hyes⟩ := hk
      refine ⟨by rw [hw _ hix]; exact L2_wipe_wipe σ (own.map (·.2)), ?_⟩
      intro s' Hs C cl fp
      refine ht.run (F0 := F0) (G0 := G1) ⟨s.f.blk scope s' Hs C cl fp, s.x.blk F0 G1 scope s' Hs C cl fp, e'.trans e2, sl2, st2⟩ _ fun b G3 H3 pb e3 st3 => ?_
      cases b with
      | false => exact iteF ⟨vs, acc, G3, by omega, hno pb, (e'.trans e2).trans e3, st3, dps_mono (e2.trans e3) dp'⟩
      | true =>
        refine iteT ?_
        intro s' Hs C cl fp
        refine (hyes pb).run (F0 := F0) (G0 := G1) ⟨s.f.blk scope s' Hs C cl fp, s.x.blk F0 G1 scope s' Hs C cl fp, (e'.trans e2).trans e3, sl2.mono e3, st3⟩ _ fun y vy G4 H4 py e4 st4 dy => ?_
        have hD4 := (st4.fr Dl _ upd_same).1
        refine ⟨vs, hD4, ?_, vs ++ [vy], acc ++ [y], G4, by simp; omega, py, ((e'.trans e2).trans e3).trans e4, ?_, dps_app (dps_mono ((e2.trans e3).trans e4) dp') (.cons dy .nil)⟩
        · rw [dps_len dp']
          have := hl ds p1
          omega
        · have z := st4.write (p := Dl) (o := .lst (vs ++ [vy])) upd_same lst_tbl lst_code
          rw [upd_upd] at z
          exact z
    · have hi' : i = ds.length := by omega
      subst hi'
      exact .inl ⟨key.1 (Nat.le_refl _), q acc Dl vs G' H' ⟨ds, p1, hI⟩ (e1.trans e') hFD st' dp'⟩
  exact ⟨wi, hwi, hq⟩
theorem evn_lc (Inv : Nat → List D → Prop) {Φi : List D → Prop} (hi : EVI Γ Ψ ρ tg iter Φi) (hl : ∀ ds, Φi ds → ds.length ≤ sizeLine) (own : List (Str × Nat)) (ix : List Nat) (hix : ∀ i ∈ ix, i ∈ own.map (·.2)) (h0 : Inv 0 [])
    (turn : ∀ ds i d acc, Φi ds → ds[i]? = some d → Inv i acc → LcTurn (Γ.blk scope) (wipeE ρ (own.map (·.2))) tg elt ifs ix d (Inv (i + 1) acc) (fun y => Inv (i + 1) (acc ++ [y])))
    (hb : blkC Γ.N Γ.sc scope own = true := by kernel_rfl) (hs : ∀ env x, foldedSetIterable iter env x = pure x := by intro _ _; kernel_rfl) : EVN Γ Ψ ρ (.ListComp elt [⟨tg, iter, ifs, 0⟩] scope pos) (fun ds' => ∃ ds, Φi ds ∧ Inv ds.length ds') := ⟨fun {X m F0 G0 F ow σ G H} s Q q => by
  obtain ⟨wi, hwi, t⟩ := lc_main Inv hi hl hix h0 turn s Q q
  have ok : BlkOk X.N X.env.scope scope own := by rw [s.f.N, s.f.sc]; exact blkOk_by hb
  exact ⟨_, pe_lc s.x.calm s.x.nd hwi ok (fun s H C cl fp => ⟨fun pins s σ H v u Q I r h => pg_w.run pins s σ H v u Q I r (h _ _ _ _ _)⟩) (fun s H C cl fp => ⟨fun pins s σ H Q I h => pts_w.run pins s σ H Q I (h _ _ _ _ _)⟩) (fun s H C cl fp => ⟨fun pins s σ H Q I h => pe_w.run pins s σ H Q I (h _ _ _ _ _)⟩) (hs _), t⟩⟩
/-- y = [..] -/
theorem sd_lc {y : Str} {py spos : Pos} (iy : Nat) (Inv : Nat → List D → Prop) {Φi : List D → Prop} (hi : EVI Γ Ψ ρ tg iter Φi) (hl : ∀ ds, Φi ds → ds.length ≤ sizeLine) (own : List (Str × Nat)) (ix : List Nat) (hix : ∀ i ∈ ix, i ∈ own.map (·.2)) (h0 : Inv 0 [])
    (turn : ∀ ds i d acc, Φi ds → ds[i]? = some d → Inv i acc → LcTurn (Γ.blk scope) (wipeE ρ (own.map (·.2))) tg elt ifs ix d (Inv (i + 1) acc) (fun y => Inv (i + 1) (acc ++ [y])))
    (h : ∀ ds ds', Φi ds → Inv ds.length ds' → SD Γ Ψ (ρ.set iy (.own ds')) rest p)
    (hN : Γ.N[iy]? = some y := by kernel_rfl) (hy : Γ.sc.names.lookup y = some .local := by kernel_rfl) (hk : Γ.sc.kind = .function := by kernel_rfl) (hll : (py.line == pos.line) = true := by kernel_rfl) (ha : (scope.names.any fun (n, k) => n == y && (k == .local || k == .cell)) = false := by kernel_rfl)
    (hb : blkC Γ.N Γ.sc scope own = true := by kernel_rfl) (hs : ∀ env x, foldedSetIterable iter env x = pure x := by intro _ _; kernel_rfl) : SD Γ Ψ ρ (.Assign [.Name y py] (.ListComp elt [⟨tg, iter, ifs, 0⟩] scope pos) spos :: rest) p := ⟨fun {X m F0 G0 F ow σ G H} s => by
  obtain ⟨wi, hwi, t⟩ := lc_main (scope := scope) (own := own) (elt := elt) (ifs := ifs) Inv hi hl hix h0 turn s (fun x H1 => gName iy x σ H1 (wSs X rest (ends p m F0 G0))) fun ds' q vs G2 H2 ⟨ds, p1, p2⟩ e2 hF s2 d2 => (h ds ds' p1 p2).run ⟨s.f, s.x, s.s0.trans e2, (s.sl.mono e2).putOwn hF d2, s2⟩
  have ok : BlkOk X.N X.env.scope scope own := by rw [s.f.N, s.f.sc]; exact blkOk_by hb
  have hy' : X.env.scope.names.lookup y = some .local := by rw [s.f.sc]; exact hy
  have hk' : X.env.scope.kind = .function := by rw [s.f.sc]; exact hk
  exact ⟨_, pss_cons (ps_setLc s.x.calm s.x.nd (s.f.nth hN) hy' (sw_true hk' hy' hll ha) hwi ok (fun s H C cl fp => ⟨fun pins s σ H v u Q I r h => pg_w.run pins s σ H v u Q I r (h _ _ _ _ _)⟩) (fun s H C cl fp => ⟨fun pins s σ H Q I h => pts_w.run pins s σ H Q I (h _ _ _ _ _)⟩) (fun s H C cl fp => ⟨fun pins s σ H Q I h => pe_w.run pins s σ H Q I (h _ _ _ _ _)⟩) (hs _)) pss_w, t⟩⟩
/-- [f x for x in xs] -/
theorem evn_map (g : D → D) (hi : EVI Γ Ψ ρ tg iter (· = ds)) (hl : ds.length ≤ sizeLine) (own : List (Str × Nat)) (ix : List Nat) (hix : ∀ i ∈ ix, i ∈ own.map (·.2)) (turn : ∀ (i : Nat) (d : D), ds[i]? = some d → TGT (Γ.blk scope) NoX (wipeE ρ (own.map (·.2))) tg d ix (fun ρ2 => EV (Γ.blk scope) NoX ρ2 elt (· = g d)))
    (hb : blkC Γ.N Γ.sc scope own = true := by kernel_rfl) (hs : ∀ env x, foldedSetIterable iter env x = pure x := by intro _ _; kernel_rfl) : EVN Γ Ψ ρ (.ListComp elt [⟨tg, iter, [], 0⟩] scope pos) (· = ds.map g) :=
  (evn_lc (fun i acc => acc = (ds.take i).map g) hi (fun ds' e => by rw [e]; exact hl) own ix hix (by simp) (fun ds' i d acc e hd hI => by
    subst e
    refine ⟨fun s v Q dp q => (turn i d hd).run s v Q dp fun ρ' σ' k sl w => q ρ' σ' ⟨_, evts_nil, (fun z => nomatch z), fun _ => k.imp fun y hy => ?_⟩ sl w⟩
    have hlt := (List.getElem?_eq_some_iff.mp hd).1
    have hg := (List.getElem?_eq_some_iff.mp hd).2
    rw [hI, hy, List.take_succ_eq_append_getElem hlt, hg, List.map_append]
    rfl) hb hs).imp fun ds' ⟨ds2, e1, e2⟩ => by
      rw [e2, e1, List.take_length]
/-- [g x for x in xs if t x] -/
theorem evn_filter (g : D → D) (t : D → Bool) (hi : EVI Γ Ψ ρ tg iter (· = ds)) (hl : ds.length ≤ sizeLine) (own : List (Str × Nat)) (ix : List Nat) (hix : ∀ i ∈ ix, i ∈ own.map (·.2)) (turn : ∀ (i : Nat) (d : D), ds[i]? = some d → TGT (Γ.blk scope) NoX (wipeE ρ (own.map (·.2))) tg d ix (fun ρ2 => EVT (Γ.blk scope) NoX ρ2 c (· = t d) ∧ (t d = true → EV (Γ.blk scope) NoX ρ2 elt (· = g d))))
    (hb : blkC Γ.N Γ.sc scope own = true := by kernel_rfl) (hs : ∀ env x, foldedSetIterable iter env x = pure x := by intro _ _; kernel_rfl) : EVN Γ Ψ ρ (.ListComp elt [⟨tg, iter, [c], 0⟩] scope pos) (· = (ds.filter t).map g) :=
  (evn_lc (fun i acc => acc = ((ds.take i).filter t).map g) hi (fun ds' e => by rw [e]; exact hl) own ix hix (by simp) (fun ds' i d acc e hd hI => by
    subst e
    have hlt := (List.getElem?_eq_some_iff.mp hd).1
    have hg := (List.getElem?_eq_some_iff.mp hd).2
    have et : ((ds'.take (i + 1)).filter t).map g = acc ++ (if t d = true then [g d] else []) := by
      rw [hI, List.take_succ_eq_append_getElem hlt, hg, List.filter_append, List.map_append]
      by_cases z : t d = true
      · rw [if_pos z]
        simp [z]
      · rw [if_neg z]
        simp [z]
    refine ⟨fun s v Q dp q => (turn i d hd).run s v Q dp fun ρ' σ' k sl w => q ρ' σ' ⟨_, evts_one k.1, fun z => ?_, fun z => (k.2 z.symm).imp fun y hy => ?_⟩ sl w⟩
    · rw [et, if_neg (by rw [← z]; exact Bool.false_ne_true), List.append_nil]
    · rw [et, if_pos z.symm, hy]) hb hs).imp fun ds' ⟨ds2, e1, e2⟩ => by
      rw [e2, e1, List.take_length]
end
end DL

namespace DL
open PySem PySem.Spec PyProof.Rows L2

/-- a call by values, over data -/
def CD (K : PySem.W.Frag) (r : List V → Hp → VK → Prop) (as : List En) (Φ : D → Prop) : Prop :=
  ∀ (m : Pm) (F G H : Hp) (vs : List V) (Q : VK), m.K = K → St0 m F G H → Args m G vs as → (∀ d v G2 H2, Φ d → Same G G2 → St0 m F G2 H2 → Dp K G2 v d → Q v H2) → r vs H Q
/-- .. that hands back a new list -/
def CDN (K : PySem.W.Frag) (r : List V → Hp → VK → Prop) (as : List En) (Φ : List D → Prop) : Prop :=
  ∀ (m : Pm) (F G H : Hp) (vs : List V) (Q : VK), m.K = K → St0 m F G H → Args m G vs as → (∀ ds p vs' G2 H2, Φ ds → Same G G2 → F p = none → St0 m (upd F p (.lst vs')) G2 H2 → DpAll K G2 vs' ds → Q (.ref p) H2) → r vs H Q
theorem args1 {m : Pm} {G : Hp} {vs : List V} {d : D} (h : Args m G vs [.dat d]) : ∃ v, vs = [v] ∧ Dp m.K G v d := by
  cases h with
  | cons x r => cases r; exact ⟨_, rfl, x⟩
theorem args2 {m : Pm} {G : Hp} {vs : List V} {d d' : D} (h : Args m G vs [.dat d, .dat d']) : ∃ v v', vs = [v, v'] ∧ Dp m.K G v d ∧ Dp m.K G v' d' := by
  cases h with
  | cons x r =>
    obtain ⟨v', e, y⟩ := args1 r
    subst e
    exact ⟨_, _, rfl, x, y⟩
section
variable {Γ : Ctx} {Ψ : Exc → Prop} {ρ : List En} {a b c e : Expr} {es : List Expr} {pos pp : Pos} {Φ : D → Prop} {p : Pst} {rest : List Stmt} {d : D} {ds : List D} {x : Str} {r : List V → Hp → VK → Prop} {Φa : List En → Prop}
theorem ev_callB {id : String} (hc : ∀ X, Fr Γ X → X.calm = true → CallR X (.builtin id) r) (ha : EVA Γ Ψ ρ (e :: es) Φa) (h : ∀ as, Φa as → CD Γ.g.K r as Φ) (hm : Γ.g.mg x = none) (hv : bootBuiltins x = some (.builtin id)) (hg : glB Γ.sc x = true := by kernel_rfl) (hn : x ≠ "__name__" := by decide +kernel) (hdb : (x == ("__debug__" : Str)) = false := by kernel_rfl)
    (he : ∀ env, starEach (e :: es) env = (false, eval e env) :: starEach es env ∧ (backTo pos (starEach es env)).any (·.1) = false := by intro _; exact ⟨by kernel_rfl, by kernel_rfl⟩) : EV Γ Ψ ρ (.Call (.Name x pp) (e :: es) [] pos) Φ := ⟨fun {X m F0 G0 F ow σ G H} s Q q =>
  ⟨_, pe_callB (hc X s.f s.x.calm) (s.f.gl hg) (by rw [s.f.mg]; exact hm) hv pa_w hn hdb (he _).1 (he _).2, ha.run s _ fun as vs G2 H2 p2 e2 s2 d2 => h as p2 m F G2 H2 vs Q s.K s2 d2 fun d v G3 H3 p3 e3 s3 d3 => q d v G3 H3 p3 (e2.trans e3) s3 (by rw [s.K]; exact d3)⟩⟩
theorem ev_callTy {T : String} (hc : ∀ X, Fr Γ X → X.calm = true → CallR X (.type T) r) (ha : EVA Γ Ψ ρ (e :: es) Φa) (h : ∀ as, Φa as → CD Γ.g.K r as Φ) (hm : Γ.g.mg x = none) (hv : bootBuiltins x = some (.type T)) (hg : glB Γ.sc x = true := by kernel_rfl) (hn : x ≠ "__name__" := by decide +kernel) (hdb : (x == ("__debug__" : Str)) = false := by kernel_rfl)
    (he : ∀ env, starEach (e :: es) env = (false, eval e env) :: starEach es env ∧ (backTo pos (starEach es env)).any (·.1) = false := by intro _; exact ⟨by kernel_rfl, by kernel_rfl⟩) : EV Γ Ψ ρ (.Call (.Name x pp) (e :: es) [] pos) Φ := ⟨fun {X m F0 G0 F ow σ G H} s Q q =>
  ⟨_, pe_callTy (hc X s.f s.x.calm) (s.f.gl hg) (by rw [s.f.mg]; exact hm) hv pa_w hn hdb (he _).1 (he _).2, ha.run s _ fun as vs G2 H2 p2 e2 s2 d2 => h as p2 m F G2 H2 vs Q s.K s2 d2 fun d v G3 H3 p3 e3 s3 d3 => q d v G3 H3 p3 (e2.trans e3) s3 (by rw [s.K]; exact d3)⟩⟩
theorem evn_callTy {T : String} {Φn : List D → Prop} (hc : ∀ X, Fr Γ X → X.calm = true → CallR X (.type T) r) (ha : EVA Γ Ψ ρ (e :: es) Φa) (h : ∀ as, Φa as → CDN Γ.g.K r as Φn) (hm : Γ.g.mg x = none) (hv : bootBuiltins x = some (.type T)) (hg : glB Γ.sc x = true := by kernel_rfl) (hn : x ≠ "__name__" := by decide +kernel) (hdb : (x == ("__debug__" : Str)) = false := by kernel_rfl)
    (he : ∀ env, starEach (e :: es) env = (false, eval e env) :: starEach es env ∧ (backTo pos (starEach es env)).any (·.1) = false := by intro _; exact ⟨by kernel_rfl, by kernel_rfl⟩) : EVN Γ Ψ ρ (.Call (.Name x pp) (e :: es) [] pos) Φn := ⟨fun {X m F0 G0 F ow σ G H} s Q q =>
  ⟨_, pe_callTy (hc X s.f s.x.calm) (s.f.gl hg) (by rw [s.f.mg]; exact hm) hv pa_w hn hdb (he _).1 (he _).2, ha.run s _ fun as vs G2 H2 p2 e2 s2 d2 => h as p2 m F G2 H2 vs Q s.K s2 d2 fun d v vs' G3 H3 p3 e3 hF s3 d3 => q d v vs' G3 H3 p3 (e2.trans e3) hF s3 (by rw [s.K]; exact d3)⟩⟩
abbrev one1 (ha : EV Γ Ψ ρ a (· = d)) (hs : ∀ env, starEach [a] env = (false, eval a env) :: starEach [] env := by intro _; kernel_rfl) : EVA Γ Ψ ρ [a] (· = [.dat d]) := eva_cons1 ha eva_nil hs

/-! ### len -/
def lenD : D → Option Nat
  | .list ds => some ds.length
  | .tuple ds => some ds.length
  | .str x => if x.length ≤ sizeLine then some x.length else none
  | _ => none
theorem cd_len {K : PySem.W.Frag} {n : Nat} (hn : lenD d = some n) : CD K (fun xs H Q => ∃ x n, xs = [x] ∧ LenV K x H n ∧ Q (.int n) H) [.dat d] (· = .int n) := fun m F G H vs Q hK s ha q => by
  obtain ⟨v, rfl, dv⟩ := args1 ha
  refine ⟨v, n, rfl, ?_, q _ _ G H rfl (Same.refl _) s (.int _)⟩
  cases dv with
  | non => cases hn
  | bl b => cases hn
  | int i => cases hn
  | str y =>
    have hn' : (if y.length ≤ sizeLine then some y.length else none) = some n := hn
    by_cases hy : y.length ≤ sizeLine
    · rw [if_pos hy] at hn'
      exact ⟨hy, (Option.some.inj hn').symm⟩
    · rw [if_neg hy] at hn'
      cases hn'
  | lst h1 h2 =>
    cases hn
    exact .inl ⟨_, by rw [← hK]; exact same_l s.same h1, (dps_len h2).symm⟩
  | tup h1 h2 =>
    cases hn
    exact .inr ⟨_, by rw [← hK]; exact same_t s.same h1, (dps_len h2).symm⟩
theorem ev_len {n : Nat} (ha : EV Γ Ψ ρ a (· = d)) (hn : lenD d = some n) (hm : Γ.g.mg "len" = none) (hg : glB Γ.sc "len" = true := by kernel_rfl)
    (hs : ∀ env, starEach [a] env = (false, eval a env) :: starEach [] env := by intro _; kernel_rfl) : EV Γ Ψ ρ (.Call (.Name "len" pp) [a] [] pos) (· = .int n) :=
  ev_callB (r := fun xs H Q => ∃ x n, xs = [x] ∧ LenV Γ.g.K x H n ∧ Q (.int n) H) (fun X f _ => by rw [← f.K]; exact call_len) (one1 ha hs) (fun as e => by subst e; exact cd_len hn) hm boot_len hg (he := fun env => ⟨hs env, rfl⟩)

/-! ### isinstance -/
def tyD : D → String
  | .none => "NoneType"
  | .bool _ => "bool"
  | .int _ => "int"
  | .str _ => "str"
  | .list _ => "list"
  | .tuple _ => "tuple"
  | .dict _ => "dict"
theorem ty_dp {K : PySem.W.Frag} {H : Hp} {v : V} {d : D} (h : Dp K H v d) : TyX K H v (.type (tyD d)) := by
  cases h with
  | non => exact .base .non
  | bl b => exact .base (.bl b)
  | int i => exact .base (.int i)
  | str y => exact .base (.str y)
  | lst h1 h2 =>
    rcases h1 with (h | ⟨o, h⟩) | ⟨o, its, n, hk, hc, _⟩
    · exact .base (.lst h)
    · exact .base (.frz h)
    · exact .kList hk hc
  | tup h1 h2 =>
    rcases h1 with (h | ⟨o, h⟩) | ⟨o, its, n, hk, hc, _⟩
    · exact .base (.tup h)
    · exact .fTuple h
    · exact .kTuple hk hc
/-- isinstance(a, T) -/
theorem ev_isi {T : Str} {t : String} {k : Bool} {p2 : Pos} (ha : EV Γ Ψ ρ a (· = d)) (hk : kitB (tyD d) t = some k) (hT : bootBuiltins T = some (.type t)) (hm : Γ.g.mg "isinstance" = none) (hmT : Γ.g.mg T = none) (hg : glB Γ.sc "isinstance" = true := by kernel_rfl) (hgT : glB Γ.sc T = true := by kernel_rfl)
    (hn : T ≠ "__name__" := by decide +kernel) (hdb : (T == ("__debug__" : Str)) = false := by kernel_rfl) (hs : ∀ env, starEach [a, .Name T p2] env = (false, eval a env) :: starEach [.Name T p2] env := by intro _; kernel_rfl) :
    EV Γ Ψ ρ (.Call (.Name "isinstance" pp) [a, .Name T p2] [] pos) (· = .bool k) := ⟨fun {X m F0 G0 F ow σ G H} s Q q =>
  ⟨_, pe_callB (call_isi (X := X)) (s.f.gl hg) (by rw [s.f.mg]; exact hm) (by decide +kernel) (pa_cons pe_w (pa_cons (pe_bltn (v := .ty t) (s.f.gl hgT) (by rw [s.f.mg]; exact hmT) hT rfl hn hdb) pa_nil) (hs _)) (he := hs _), ha.run s _ fun dd v G2 H2 p2 e2 s2 d2 => by
    subst p2
    exact ⟨v, .ty t, _, _, k, rfl, .ty t, ty_dp (by rw [← s.x.K]; exact dp_mono s2.same d2), kit_ty hk, q _ _ G2 H2 rfl e2 s2 (.bl _)⟩⟩⟩
/-- isinstance(a, (T1, T2)) -/
theorem ev_isi2 {T1 T2 : Str} {t1 t2 : String} {k1 k2 : Bool} {p2 p3 p4 : Pos} {kk : Nat} (ha : EV Γ Ψ ρ a (· = d)) (hk1 : kitB (tyD d) t1 = some k1) (hk2 : kitB (tyD d) t2 = some k2) (hT1 : bootBuiltins T1 = some (.type t1)) (hT2 : bootBuiltins T2 = some (.type t2)) (hm : Γ.g.mg "isinstance" = none) (hmT1 : Γ.g.mg T1 = none) (hmT2 : Γ.g.mg T2 = none)
    (hg : glB Γ.sc "isinstance" = true := by kernel_rfl) (hgT1 : glB Γ.sc T1 = true := by kernel_rfl) (hgT2 : glB Γ.sc T2 = true := by kernel_rfl) (hn1 : T1 ≠ "__name__" := by decide +kernel) (hdb1 : (T1 == ("__debug__" : Str)) = false := by kernel_rfl) (hn2 : T2 ≠ "__name__" := by decide +kernel) (hdb2 : (T2 == ("__debug__" : Str)) = false := by kernel_rfl)
    (hs : ∀ env, starEach [a, .Tuple [.Name T1 p2, .Name T2 p3] kk p4] env = (false, eval a env) :: starEach [.Tuple [.Name T1 p2, .Name T2 p3] kk p4] env := by intro _; kernel_rfl) :
    EV Γ Ψ ρ (.Call (.Name "isinstance" pp) [a, .Tuple [.Name T1 p2, .Name T2 p3] kk p4] [] pos) (· = .bool (k1 || k2)) := ⟨fun {X m F0 G0 F ow σ G H} s Q q =>
  ⟨_, pe_callB (call_isiT (X := X)) (s.f.gl hg) (by rw [s.f.mg]; exact hm) (by decide +kernel) (pa_cons pe_w (pa_cons (pe_tup (pa_cons (pe_bltn (v := .ty t1) (s.f.gl hgT1) (by rw [s.f.mg]; exact hmT1) hT1 rfl hn1 hdb1) (pa_cons (pe_bltn (v := .ty t2) (s.f.gl hgT2) (by rw [s.f.mg]; exact hmT2) hT2 rfl hn2 hdb2) pa_nil))) pa_nil) (hs _)) (he := hs _), ha.run s _ fun dd v G2 H2 p2 e2 s2 d2 => by
    subst p2
    refine ⟨by show 2 ≤ sizeLine; decide, fun q' hq' => ?_⟩
    have hG := s2.freshG hq'
    have dv : Dp X.K (upd H2 q' (.tup [.ty t1, .ty t2])) v dd := by rw [← s.x.K]; exact dp_mono (s2.same.trans (same_upd hq')) d2
    refine ⟨v, q', [.ty t1, .ty t2], _, [.type t1, .type t2], k1 || k2, rfl, upd_same, .cons (.ty t1) (.cons (.ty t2) .nil), ty_dp dv, ?_, q _ _ (upd G2 q' (.tup [.ty t1, .ty t2])) _ rfl (e2.trans (same_upd hG)) (s2.alloc hq') (.bl _)⟩
    refine kitAny_cons (kit_ty hk1) (fun z => kitAny_cons (kit_ty hk2) (fun z2 => ?_) fun z2 => by rw [z2, Bool.or_true]) fun z => by rw [z, Bool.true_or]
    rw [z, z2]
    exact kitAny_nil⟩⟩

/-! ### list, tuple, all, any, min, max -/
theorem seq_args {m : Pm} {G H : Hp} {v : V} (s : Same G H) (h : Dp m.K G v d) (hd : d = .list ds ∨ d = .tuple ds) : ∃ pp ys, v = .ref pp ∧ (SqL m.K H pp ys ∨ SqT m.K H pp ys) ∧ DpAll m.K G ys ds := by
  rcases hd with rfl | rfl
  · obtain ⟨pp, ys, h1, h2, h3⟩ := sqL_list h
    exact ⟨pp, ys, h1, .inl (same_l s h2), h3⟩
  · obtain ⟨pp, ys, h1, h2, h3⟩ := sqT_tup h
    exact ⟨pp, ys, h1, .inr (same_t s h2), h3⟩
theorem evn_list (ha : EV Γ Ψ ρ a (· = d)) (hd : d = .list ds ∨ d = .tuple ds) (hm : Γ.g.mg "list" = none) (hg : glB Γ.sc "list" = true := by kernel_rfl) (hs : ∀ env, starEach [a] env = (false, eval a env) :: starEach [] env := by intro _; kernel_rfl) :
    EVN Γ Ψ ρ (.Call (.Name "list" pp) [a] [] pos) (· = ds) :=
  evn_callTy (r := fun xs H Q => ∃ p ys, xs = [.ref p] ∧ (SqL Γ.g.K H p ys ∨ SqT Γ.g.K H p ys) ∧ ∀ l, H l = none → Q (.ref l) (upd H l (.lst ys))) (fun X f _ => by rw [← f.K]; exact call_list_of) (one1 ha hs) (fun as e => by
    subst e
    exact fun m F G H vs Q hK s ha q => by
      obtain ⟨v, rfl, dv⟩ := args1 ha
      obtain ⟨q', ys, rfl, h2, h3⟩ := seq_args s.same dv hd
      exact ⟨q', ys, rfl, by rw [← hK]; exact h2, fun l hl => q ds l ys G _ rfl (Same.refl _) (s.freshF hl) (s.allocF hl) (by rw [← hK]; exact h3)⟩) hm (by decide +kernel) hg (he := fun env => ⟨hs env, rfl⟩)
theorem ev_tuple (ha : EV Γ Ψ ρ a (· = d)) (hd : d = .list ds ∨ d = .tuple ds) (hm : Γ.g.mg "tuple" = none) (hg : glB Γ.sc "tuple" = true := by kernel_rfl) (hs : ∀ env, starEach [a] env = (false, eval a env) :: starEach [] env := by intro _; kernel_rfl) :
    EV Γ Ψ ρ (.Call (.Name "tuple" pp) [a] [] pos) (· = .tuple ds) :=
  ev_callTy (r := fun xs H Q => ∃ p ys, xs = [.ref p] ∧ ((SqL Γ.g.K H p ys ∧ ∀ l, H l = none → Q (.ref l) (upd H l (.tup ys))) ∨ (SqT Γ.g.K H p ys ∧ Q (.ref p) H))) (fun X f _ => by rw [← f.K]; exact call_tuple_of) (one1 ha hs) (fun as e => by
    subst e
    exact fun m F G H vs Q hK s ha q => by
      obtain ⟨v, rfl, dv⟩ := args1 ha
      rcases hd with rfl | rfl
      · obtain ⟨q', ys, rfl, h2, h3⟩ := sqL_list dv
        refine ⟨q', ys, rfl, .inl ⟨by rw [← hK]; exact same_l s.same h2, fun l hl => ?_⟩⟩
        have hG := s.freshG hl
        exact q _ _ (upd G l (.tup ys)) _ rfl (same_upd hG) (s.alloc hl) (.tup (SqT.of upd_same) (by rw [← hK]; exact dps_mono (same_upd hG) h3))
      · obtain ⟨q', ys, rfl, h2, h3⟩ := sqT_tup dv
        exact ⟨q', ys, rfl, .inr ⟨by rw [← hK]; exact same_t s.same h2, q _ _ G H rfl (Same.refl _) s (by rw [← hK]; exact dv)⟩⟩) hm (by decide +kernel) hg (he := fun env => ⟨hs env, rfl⟩)
theorem ev_all {bs : List Bool} (ha : EV Γ Ψ ρ a (· = .list (bs.map .bool))) (hm : Γ.g.mg "all" = none) (hg : glB Γ.sc "all" = true := by kernel_rfl) (hs : ∀ env, starEach [a] env = (false, eval a env) :: starEach [] env := by intro _; kernel_rfl) :
    EV Γ Ψ ρ (.Call (.Name "all" pp) [a] [] pos) (· = .bool (bs.all id)) :=
  ev_callB (r := rAll Γ.g.K) (fun X f hc => by rw [← f.K]; exact cr_all hc) (one1 ha hs) (fun as e => by
    subst e
    exact fun m F G H vs Q hK s ha q => by
      obtain ⟨v, rfl, dv⟩ := args1 ha
      obtain ⟨q', ys, rfl, h2, h3⟩ := sqL_list dv
      obtain rfl := dps_bls_inv h3
      exact ⟨q', bs, rfl, by rw [← hK]; exact same_l s.same h2, q _ _ G H rfl (Same.refl _) s (.bl _)⟩) hm (by decide +kernel) hg (he := fun env => ⟨hs env, rfl⟩)
theorem ev_any {bs : List Bool} (ha : EV Γ Ψ ρ a (· = .list (bs.map .bool))) (hm : Γ.g.mg "any" = none) (hg : glB Γ.sc "any" = true := by kernel_rfl) (hs : ∀ env, starEach [a] env = (false, eval a env) :: starEach [] env := by intro _; kernel_rfl) :
    EV Γ Ψ ρ (.Call (.Name "any" pp) [a] [] pos) (· = .bool (bs.any id)) :=
  ev_callB (r := rAny Γ.g.K) (fun X f hc => by rw [← f.K]; exact cr_any hc) (one1 ha hs) (fun as e => by
    subst e
    exact fun m F G H vs Q hK s ha q => by
      obtain ⟨v, rfl, dv⟩ := args1 ha
      obtain ⟨q', ys, rfl, h2, h3⟩ := sqL_list dv
      obtain rfl := dps_bls_inv h3
      exact ⟨q', bs, rfl, by rw [← hK]; exact same_l s.same h2, q _ _ G H rfl (Same.refl _) s (.bl _)⟩) hm (by decide +kernel) hg (he := fun env => ⟨hs env, rfl⟩)
variable {i j k : Int}
theorem two_ints {m : Pm} {G : Hp} {vs : List V} {i j : Int} (h : Args m G vs [.dat (.int i), .dat (.int j)]) : vs = [.int i, .int j] := by
  obtain ⟨v, v', rfl, h1, h2⟩ := args2 h
  cases h1
  cases h2
  rfl
theorem ev_min2 (ha : EV Γ Ψ ρ a (· = .int i)) (hb : EV Γ Ψ ρ b (· = .int j)) (hm : Γ.g.mg "min" = none) (hg : glB Γ.sc "min" = true := by kernel_rfl) (hs : ∀ env, starEach [a, b] env = (false, eval a env) :: starEach [b] env := by intro _; kernel_rfl) (hs2 : ∀ env, starEach [b] env = (false, eval b env) :: starEach [] env := by intro _; kernel_rfl) :
    EV Γ Ψ ρ (.Call (.Name "min" pp) [a, b] [] pos) (· = .int (if j < i then j else i)) :=
  ev_callB (fun X f hc => call_min2 hc) (eva_cons1 ha (eva_cons1 hb eva_nil hs2) hs) (fun as e => by
    subst e
    exact fun m F G H vs Q hK s ha q => by
      obtain rfl := two_ints ha
      exact ⟨i, j, rfl, q _ _ G H rfl (Same.refl _) s (.int _)⟩) hm (by decide +kernel) hg (he := fun env => ⟨hs env, by rw [hs2]; rfl⟩)
theorem ev_max2 (ha : EV Γ Ψ ρ a (· = .int i)) (hb : EV Γ Ψ ρ b (· = .int j)) (hm : Γ.g.mg "max" = none) (hg : glB Γ.sc "max" = true := by kernel_rfl) (hs : ∀ env, starEach [a, b] env = (false, eval a env) :: starEach [b] env := by intro _; kernel_rfl) (hs2 : ∀ env, starEach [b] env = (false, eval b env) :: starEach [] env := by intro _; kernel_rfl) :
    EV Γ Ψ ρ (.Call (.Name "max" pp) [a, b] [] pos) (· = .int (if j > i then j else i)) :=
  ev_callB (fun X f hc => call_max2 hc) (eva_cons1 ha (eva_cons1 hb eva_nil hs2) hs) (fun as e => by
    subst e
    exact fun m F G H vs Q hK s ha q => by
      obtain rfl := two_ints ha
      exact ⟨i, j, rfl, q _ _ G H rfl (Same.refl _) s (.int _)⟩) hm (by decide +kernel) hg (he := fun env => ⟨hs env, by rw [hs2]; rfl⟩)

/-! ### subscripts -/
def itemD (i : Int) : D → Option D
  | .list ds => atI ds i
  | .tuple ds => atI ds i
  | .str z => if z.length ≤ sizeLine then (atI z.cps.toList i).map fun c => .str ⟨#[c]⟩ else none
  | _ => none
theorem dps_at {K : PySem.W.Frag} {G : Hp} {vs : List V} {ds : List D} {i : Int} {d : D} (h : DpAll K G vs ds) (e : atI ds i = some d) : ∃ v, atI vs i = some v ∧ Dp K G v d := by
  unfold atI at e ⊢
  rw [dps_len h]
  cases q : ixN ds.length i with
  | none => rw [q] at e; cases e
  | some j =>
    rw [q] at e
    obtain ⟨v, h1, h2⟩ := dps_get h e
    exact ⟨v, h1, h2⟩
theorem rd_ix {K : PySem.W.Frag} {x y : D} (h : itemD i x = some y) : RD K (rIx K) x (.int i) (· = y) := fun m F G H vx vy Q e s h1 h2 q => by
  cases h2
  cases h1 with
  | non => cases h
  | bl b => cases h
  | int i => cases h
  | str z =>
    have h' : (if z.length ≤ sizeLine then (atI z.cps.toList i).map fun c => PyData.str ⟨#[c]⟩ else none) = some y := h
    by_cases hz : z.length ≤ sizeLine
    · rw [if_pos hz] at h'
      cases hc : atI z.cps.toList i with
      | none => rw [hc] at h'; cases h'
      | some c =>
        rw [hc] at h'
        have h2 := Option.some.inj h'
        subst h2
        exact .inr (.inr ⟨z, i, c, rfl, rfl, hz, hc, q _ _ G H rfl (Same.refl _) s (.str _)⟩)
    · rw [if_neg hz] at h'
      cases h'
  | lst hs ha =>
    obtain ⟨v, hv, dv⟩ := dps_at ha (show atI _ i = some y from h)
    exact .inl ⟨_, _, i, v, rfl, rfl, same_l s.same hs, hv, q _ _ G H rfl (Same.refl _) s dv⟩
  | tup hs ha =>
    obtain ⟨v, hv, dv⟩ := dps_at ha (show atI _ i = some y from h)
    exact .inr (.inl ⟨_, _, i, v, rfl, rfl, same_t s.same hs, hv, q _ _ G H rfl (Same.refl _) s dv⟩)
theorem ev_ix {x y : D} (ha : EV Γ Ψ ρ a (· = x)) (hb : EV Γ Ψ ρ b (· = .int i)) (h : itemD i x = some y) (hp : PlainIx b := by intro _ _; kernel_rfl) : EV Γ Ψ ρ (.Subscript a b pos) (· = y) :=
  ev2 (r := rIx Γ.g.K) (fun X f => by rw [← f.K]; exact pe_ix ix_seq pe_w pe_w hp) (fun _ _ _ _ h => h) ha hb fun x y h1 h2 => by subst h1; subst h2; exact rd_ix h
theorem ev_ixg {Φ1 Φ2 : D → Prop} (ha : EV Γ Ψ ρ a Φ1) (hb : EV Γ Ψ ρ b Φ2) (h : ∀ x y, Φ1 x → Φ2 y → ∃ i z, y = .int i ∧ itemD i x = some z ∧ Φ z) (hp : PlainIx b := by intro _ _; kernel_rfl) : EV Γ Ψ ρ (.Subscript a b pos) Φ :=
  ev2 (r := rIx Γ.g.K) (fun X f => by rw [← f.K]; exact pe_ix ix_seq pe_w pe_w hp) (fun _ _ _ _ h => h) ha hb fun x y h1 h2 => by
    obtain ⟨i, z, rfl, e, hz⟩ := h x y h1 h2
    exact (rd_ix e).imp fun d hd => by rw [hd]; exact hz

/-! ### in -/
def flatD : D → Option V
  | .none => some .non
  | .bool b => some (.bl b)
  | .int i => some (.int i)
  | .str x => some (.str x)
  | _ => none
theorem flat_dp {K : PySem.W.Frag} {G : Hp} {v w : V} {d : D} (h : Dp K G v d) (e : flatD d = some w) : v = w ∧ flatV w = true := by
  cases h <;> cases e <;> exact ⟨rfl, rfl⟩
theorem flat_dps {K : PySem.W.Frag} {G : Hp} : ∀ {ds : List D} {vs ws : List V}, DpAll K G vs ds → ds.mapM flatD = some ws → vs = ws ∧ ws.all flatV = true
  | [], _, _, .nil, e => by
    simp at e
    subst e
    exact ⟨rfl, rfl⟩
  | d :: ds, _, ws, .cons h r, e => by
    rw [List.mapM_cons] at e
    cases q : flatD d with
    | none => rw [q] at e; cases e
    | some w =>
      rw [q] at e
      cases q2 : ds.mapM flatD with
      | none => rw [q2] at e; cases e
      | some ws' =>
        rw [q2] at e
        cases e
        obtain ⟨h1, h2⟩ := flat_dp h q
        obtain ⟨h3, h4⟩ := flat_dps r q2
        exact ⟨by rw [h1, h3], by simp [h2, h4]⟩
theorem rd_in {K : PySem.W.Frag} {x y : D} {neg : Bool} {w : V} {ws : List V} (hx : flatD x = some w) (hy : y = .list ds ∨ y = .tuple ds) (hw : ds.mapM flatD = some ws) : RD K (rIn K neg) x y (· = .bool (if neg then !inV w ws else inV w ws)) := fun m F G H vx vy Q e s h1 h2 q => by
  obtain ⟨rfl, f1⟩ := flat_dp h1 hx
  subst e
  obtain ⟨pp, ys, rfl, h3, h4⟩ := seq_args s.same h2 hy
  obtain ⟨rfl, f2⟩ := flat_dps h4 hw
  exact ⟨pp, ys, rfl, h3, f1, f2, q _ _ G H rfl (Same.refl _) s (.bl _)⟩
theorem inV_ints (i : Int) (ns : List Int) : inV (.int i) (ns.map V.int) = decide (i ∈ ns) := by
  unfold inV
  induction ns with
  | nil => simp
  | cons n r ih =>
    simp only [List.map_cons, List.any_cons, ih]
    have : eqV (.int n) (.int i) = decide (n = i) := by
      first | rfl | (unfold eqV; simp)
    rw [this]
    by_cases h : n = i
    · simp [h]
    · have h' : ¬ i = n := fun z => h z.symm
      simp [h, h']
theorem mapM_ints (ns : List Int) : (ns.map PyData.int).mapM flatD = some (ns.map V.int) := by
  induction ns with
  | nil => rfl
  | cons n r ih => rw [List.map_cons, List.mapM_cons, ih]; rfl
theorem ev_inI {ns : List Int} (ha : EV Γ Ψ ρ a (· = .int i)) (hb : EV Γ Ψ ρ b (· = d)) (hd : d = .list (ns.map .int) ∨ d = .tuple (ns.map .int)) (hmk : behindInMarks .In b = false := by kernel_rfl) : EV Γ Ψ ρ (.Compare a [.In] [b] pos) (· = .bool (decide (i ∈ ns))) :=
  ev_cmp (r := rIn Γ.g.K false) (fun X f => by rw [← f.K]; exact op_in_seq) hmk ha hb fun x y h1 h2 => by
    subst h1; subst h2
    exact (rd_in rfl hd (mapM_ints ns)).imp fun d e => by rw [e, ← inV_ints]; rfl
theorem evt_inI {ns : List Int} (ha : EV Γ Ψ ρ a (· = .int i)) (hb : EV Γ Ψ ρ b (· = d)) (hd : d = .list (ns.map .int) ∨ d = .tuple (ns.map .int)) (hmk : behindInMarks .In b = false := by kernel_rfl) : EVT Γ Ψ ρ (.Compare a [.In] [b] pos) (· = decide (i ∈ ns)) :=
  evt_cmp (r := rIn Γ.g.K false) (fun X f => by rw [← f.K]; exact op_in_seq) hmk ha hb fun x y h1 h2 => by
    subst h1; subst h2
    exact rd_t ((rd_in rfl hd (mapM_ints ns)).imp fun d e => by rw [e, ← inV_ints]; rfl)
theorem evt_notInI {ns : List Int} (ha : EV Γ Ψ ρ a (· = .int i)) (hb : EV Γ Ψ ρ b (· = d)) (hd : d = .list (ns.map .int) ∨ d = .tuple (ns.map .int)) (hmk : behindInMarks .NotIn b = false := by kernel_rfl) : EVT Γ Ψ ρ (.Compare a [.NotIn] [b] pos) (· = !decide (i ∈ ns)) :=
  evt_cmp (r := rIn Γ.g.K true) (fun X f => by rw [← f.K]; exact op_notIn_seq) hmk ha hb fun x y h1 h2 => by
    subst h1; subst h2
    exact rd_t ((rd_in rfl hd (mapM_ints ns)).imp fun d e => by rw [e, ← inV_ints]; rfl)

/-! ### chains of two comparisons of ints -/
theorem ev_chain {op op' : CmpOp} {f g : Int → Int → Bool} (ho : ∀ X, OpR X (compareOp op) (rI0 fun i j => .bl (f i j))) (ho' : ∀ X, OpR X (compareOp op') (rI0 fun i j => .bl (g i j))) (ha : EV Γ Ψ ρ a (· = .int i)) (hb : EV Γ Ψ ρ b (· = .int j)) (hc : EV Γ Ψ ρ c (· = .int k))
    (hm : lastMarks [op, op'] [b, c] = false := by kernel_rfl) : EV Γ Ψ ρ (.Compare a [op, op'] [b, c] pos) (· = .bool (f i j && g j k)) := ⟨fun {X m F0 G0 F ow σ G H} s Q q =>
  ⟨_, pe_chain (ho X) (ho' X) pe_w pe_w pe_w hm, ha.run s _ fun x vx G1 H1 p1 e1 s1 d1 => hb.run (s.next e1 s1) _ fun y vy G2 H2 p2 e2 s2 d2 => by
    subst p1; subst p2
    cases d1
    cases d2
    refine ⟨i, j, rfl, rfl, f i j, rfl, ?_⟩
    cases hf : f i j with
    | false => exact iteF (q _ _ G2 H2 (by rw [hf]; rfl) (e1.trans e2) s2 (.bl _))
    | true => exact iteT (hc.run (s.next (e1.trans e2) s2) _ fun z vz G3 H3 p3 e3 s3 d3 => by
        subst p3
        cases d3
        exact ⟨j, k, rfl, rfl, q _ _ G3 H3 (by rw [hf]; rfl) ((e1.trans e2).trans e3) s3 (.bl _)⟩)⟩⟩
theorem evt_chain {op op' : CmpOp} {f g : Int → Int → Bool} (ho : ∀ X, OpR X (compareOp op) (rI0 fun i j => .bl (f i j))) (ho' : ∀ X, OpR X (compareOp op') (rI0 fun i j => .bl (g i j))) (ha : EV Γ Ψ ρ a (· = .int i)) (hb : EV Γ Ψ ρ b (· = .int j)) (hc : EV Γ Ψ ρ c (· = .int k))
    (hm : lastMarks [op, op'] [b, c] = false := by kernel_rfl) : EVT Γ Ψ ρ (.Compare a [op, op'] [b, c] pos) (· = (f i j && g j k)) := ⟨fun {X m F0 G0 F ow σ G H} s Q q =>
  ⟨_, pt_chain (ho X) (ho' X) pe_w pe_w pe_w hm, ha.run s _ fun x vx G1 H1 p1 e1 s1 d1 => hb.run (s.next e1 s1) _ fun y vy G2 H2 p2 e2 s2 d2 => by
    subst p1; subst p2
    cases d1
    cases d2
    refine ⟨i, j, rfl, rfl, f i j, rfl, ?_⟩
    cases hf : f i j with
    | false => exact iteF ⟨_, rfl, q _ G2 H2 (by rw [hf]; rfl) (e1.trans e2) s2⟩
    | true => exact iteT (hc.run (s.next (e1.trans e2) s2) _ fun z vz G3 H3 p3 e3 s3 d3 => by
        subst p3
        cases d3
        exact ⟨j, k, rfl, rfl, _, rfl, q _ G3 H3 (by rw [hf]; rfl) ((e1.trans e2).trans e3) s3⟩)⟩⟩
end
end DL

namespace DL
open PySem PySem.Spec PyProof.Rows L2

/-! ### own exception classes -/
section
variable {X : Cx}
/-- C(): no argument is written -/
theorem pmk_none {Ct : CXT} {x : Str} {C fI : Addr} {k : Nat} {fd : FuncData} {ps : List Str} {sp : Sp} {p pos : Pos} (T : OexC X.K C)
    (iC : PySem.W.findIn X.K (.ref C) "__init__" = some (some (.ref fI))) (tI : PySem.W.typeIn X.K (.ref fI) = some (.type "function"))
    (F1 : FnOk X.prog X.w X.K X.mg X.base Ct k fI fd ps sp) (hr : Room (k + 1) X.A) (hb : Binds X.K fd ps []) (hx : Passes Ct X (fun _ _ _ => False)) (hg : Gl X x) (hm : X.mg x = some (.ref C))
    (hdb : (x == ("__debug__" : Str)) = false := by kernel_rfl) : PMk X (.Call (.Name x p) [] [] pos) (tMkO C sp [] tNil) := by
  intro pins s σ H Q I h
  obtain ⟨nm, qn, Nn, bs, bm, sn, sub, ab, col, dd, k0, k1, k2, k3, k5, hC, hbm⟩ := T.cls
  refine wpAny_Call_Name_kw (ld_glob I hg hm ?_ hdb)
  refine PySem.W.callWith_K0 I.kIn T.kC ?_
  show wpAny _ _ (call (.ref C) []) _ _ _
  obtain ⟨_, hh⟩ := h
  obtain ⟨hp, g, dr, tk, os⟩ := s
  have fresh : H (hp.objs.size + 1) = none := I.hok.fresh (Nat.le_succ _)
  have hq := hh (hp.objs.size + 1) fresh
  generalize eH : (hp.push (PySem.W.kdv_tup [])).push (PySem.HandSPX.excO C hp.objs.size) = hp2
  have kk : ∀ b o, hp.get? b = some o → hp2.get? b = some o := fun b o e => by
    rw [← eH]
    exact Heap.get?_push_of_some _ (Heap.get?_push_of_some _ e)
  have at2 : hp2.get? (hp.objs.size + 1) = some (PySem.HandSPX.excO C hp.objs.size) := by
    rw [← eH]
    heap_get
  have I2 : Inv X pins σ (upd H (hp.objs.size + 1) (exo (hp.objs.size + 1) C none)) ⟨hp2, g, dr, tk, os⟩ := I.laid (t' := tk) kk (Nat.le_succ _) (exo_ok at2)
  have rv : Vals [V.ref (hp.objs.size + 1)] [Value.ref (hp.objs.size + 1)] := .cons rfl .nil
  have hl : ([Value.ref (hp.objs.size + 1)] ++ ([] : List Value)).length = ps.length := by
    have e := F1.len _ _ _ _ hq
    exact e
  have run := F1.run _ X.stack _ _ ⟨[Value.ref (hp.objs.size + 1)], []⟩ ([Value.ref (hp.objs.size + 1)] ++ []) _ _ _ (hr.make C [] []) (I2.env0.make C [] []) (hb _ [Value.ref (hp.objs.size + 1)] I2.kIn hl) (by exact rv) hq
  refine wpAny_call (PySem.HandSPX.call_own F.excBase_ValueError (fun Y => PySem.HandSPX.refsVE_contains Y bm hbm) (I.kIn _ _ hC) (PySem.W.looks_findIn I.kIn iC) (fun self => PySem.W.bind_fn I.kIn self tI) (Nat.zero_le _) ?_)
  rw [eH]
  refine codeAny_mono run fun r s' hq' => ?_
  cases r with
  | error er => exact hx pins σ _ _ er s' I2 hq'
  | ok fl =>
    cases fl with
    | ret u =>
      obtain ⟨v, H2, os2, bare2, un2, hok2, rv, ev, d, fs, ea, ed, hd1, q2⟩ := hq'
      subst ev
      obtain ⟨h2, g2, d2, t2, os'⟩ := s'
      exact ⟨rv, mk_end (raises_own T.exC T.tyC) I (Nat.le_succ _) kk un2 hok2 os2 bare2 ea ed hd1 q2⟩
    | next => exact False.elim hq'
    | brk => exact False.elim hq'
    | cont => exact False.elim hq'
end
/-- an exception's __init__: from self and ws it stores the fields fs ws -/
def spInit (C : Addr) (n : Nat) (fs : List V → List (Str × V)) : Sp := fun vs H Q _ => ∃ (a : Addr) (ws : List V), vs = .ref a :: ws ∧ ws.length = n ∧ H a = some (exo a C none) ∧
  ∀ dx H', H dx = none → dx ≠ a → (∀ b, b ≠ a → b ≠ dx → H' b = H b) → H' a = some (exo a C (some dx)) → H' dx = some (exd dx (fs ws)) → Q .non H'
/-- what is known of an exception class -/
structure ExC (g : Gm) (k : Nat) (x : Str) (n : Nat) (fs : List V → List (Str × V)) : Prop where
  ex : ∃ (C fI : Addr) (fd : FuncData) (ps : List Str), g.mg x = some (.ref C) ∧ OexC g.K C ∧ PySem.W.findIn g.K (.ref C) "__init__" = some (some (.ref fI)) ∧ PySem.W.typeIn g.K (.ref fI) = some (.type "function") ∧
    Binds g.K fd ps [] ∧ FnOk g.P g.w g.K g.mg g.base (L2.CX g.P g.w) k fI fd ps (spInit C n fs)
/-- self.word = '..' -/
theorem init0 {g : Gm} {qual : Str} {params : Arguments} {scope : Scope} {C f : Addr} {fd : FuncData} {w : Str} {kw : List (Str × V)} {p1 p2 p3 p4 : Pos} {k0 : Nat} (F : FunD g.K "__init__" qual params [.Assign [.Attribute (.Name "self" p1) "word" p2] (.Constant (.str w) k0 p3) p4] scope [] kw f fd)
    (S : FnScope ["self"] ["self"] scope) (T : OexC g.K C) (hno : PySem.W.findIn g.K (.ref C) "word" = some none) (hv : scope.names.lookup ("self" : Str) = some .local) : FnOk g.P g.w g.K g.mg g.base (L2.CX g.P g.w) 1 f fd ["self"] (spInit C 0 fun _ => [("word", .str w)]) := by
  refine F.ok S (fun vs H Q E h => ?_) fun cdv A outer s H vs Q E hr h => ?_
  · obtain ⟨a, ws, rfl, hl, _⟩ := h
    simp [hl]
  · obtain ⟨a, ws, rfl, hl, ha, q⟩ := h
    obtain rfl : ws = [] := List.length_eq_zero_iff.mp hl
    refine ⟨_, pss_one (ps_ost (pe_var (i := 0) rfl (.inl hv)) pe_str), ?_⟩
    refine ⟨.ref a, rfl, a, C, rfl, T, hno, .inl ⟨ha, fun dx hd ne => ?_⟩⟩
    exact q dx _ hd ne (fun b h1 h2 => by rw [upd_ne h1, upd_ne h2]) upd_same (by rw [upd_ne ne, upd_same])
/-- self.word = '..'; self.F = F -/
theorem init1 {g : Gm} {qual : Str} {params : Arguments} {scope : Scope} {C f : Addr} {fd : FuncData} {w fl : Str} {kw : List (Str × V)} {p1 p2 p3 p4 p5 p6 p7 p8 : Pos} {k0 : Nat}
    (F : FunD g.K "__init__" qual params [.Assign [.Attribute (.Name "self" p1) "word" p2] (.Constant (.str w) k0 p3) p4, .Assign [.Attribute (.Name "self" p5) fl p6] (.Name fl p7) p8] scope [] kw f fd)
    (S : FnScope ["self", fl] ["self", fl] scope) (T : OexC g.K C) (hno : PySem.W.findIn g.K (.ref C) "word" = some none) (hno2 : PySem.W.findIn g.K (.ref C) fl = some none) (hv : scope.names.lookup ("self" : Str) = some .local) (hv2 : scope.names.lookup fl = some .local)
    (hd : (fl == ("__debug__" : Str)) = false) (hcd : (fl == ("__classdict__" : Str)) = false) : FnOk g.P g.w g.K g.mg g.base (L2.CX g.P g.w) 1 f fd ["self", fl] (spInit C 1 fun ws => [(fl, ws.getD 0 .non), ("word", .str w)]) := by
  refine F.ok S (fun vs H Q E h => ?_) fun cdv A outer s H vs Q E hr h => ?_
  · obtain ⟨a, ws, rfl, hl, _⟩ := h
    simp [hl]
  · obtain ⟨a, ws, rfl, hl, ha, q⟩ := h
    obtain ⟨v, rfl⟩ := List.length_eq_one_iff.mp hl
    refine ⟨_, pss_cons (ps_ost (pe_var (i := 0) rfl (.inl hv)) pe_str) (pss_one (ps_ost (pe_var (i := 0) rfl (.inl hv)) (pe_var (i := 1) rfl (.inl hv2) hd hcd))), ?_⟩
    refine ⟨.ref a, rfl, a, C, rfl, T, hno, .inl ⟨ha, fun dx hdx ne => ?_⟩⟩
    refine ⟨v, rfl, .ref a, rfl, a, C, rfl, T, hno2, .inr ⟨dx, [("word", .str w)], upd_same, by rw [upd_ne ne, upd_same], by simp, ?_⟩⟩
    exact q dx _ hdx ne (fun b h1 h2 => by rw [upd_ne h2, upd_ne h1, upd_ne h2]) (by rw [upd_ne ne.symm, upd_same]) upd_same
section
variable {Γ : Ctx} {Ψ : Exc → Prop} {ρ : List En} {e : Expr} {pos pp : Pos} {p : Pst} {rest : List Stmt} {x : Str} {k n : Nat} {fs : List V → List (Str × V)}
/-- the raised exception's state -/
theorem exc_made {X : Cx} {m : Pm} {F0 G0 F G H H' : Hp} {ow : Nat → Addr} {σ : L2.St} {C a dx : Addr} {fl : List (Str × V)} {ds : List (Str × D)} (s : Stt Γ X Ψ ρ m F0 G0 F ow σ G H) (hC : Γ.g.mg x = some (.ref C)) (ha : H a = none) (hdx : H dx = none) (ne : dx ≠ a)
    (h1 : ∀ b, b ≠ a → b ≠ dx → H' b = upd H a (exo a C none) b) (h2 : Ψ (x, ds)) (h3 : fl.map (·.1) = ds.map (·.1)) (h4 : DpAll m.K G (fl.map (·.2)) (ds.map (·.2))) : ExcPost m F0 G0 Ψ (.ref C) (some dx) (upd (del H' a) dx (.xd fl)) := by
  have e : upd (del H' a) dx (.xd fl) = upd H dx (.xd fl) := by
    funext b
    by_cases hb : b = dx
    · rw [hb, upd_same, upd_same]
    · rw [upd_ne hb, upd_ne hb]
      by_cases hb2 : b = a
      · rw [hb2, del_same, ha]
      · rw [del_ne hb2, h1 b hb2 hb, upd_ne hb2]
  rw [e]
  have st := s.st.alloc (o := .xd fl) hdx
  have sm : Same G (upd G dx (.xd fl)) := same_upd (s.st.freshG hdx)
  obtain ⟨G3, e3, st3, _⟩ := st.back s.sl.sub
  exact ⟨(x, ds), G3, dx, fl, h2, by rw [s.mg]; exact hC, rfl, (s.s0.trans sm).trans e3, st3, e3 _ _ upd_same, h3, dps_mono (sm.trans e3) h4⟩
/-- raise X() -/
theorem sd_raise0 {w : Str} (hx : ExC Γ.g k x 0 (fun _ => [("word", .str w)])) (h : Ψ (x, [("word", .str w)])) (hk : Nat.ble (k + 1) Γ.k = true := by kernel_rfl) (hg : glB Γ.sc x = true := by kernel_rfl) (hdb : (x == ("__debug__" : Str)) = false := by kernel_rfl) : SD Γ Ψ ρ (.Raise (some (.Call (.Name x pp) [] [] pos)) none pos' :: rest) p := ⟨fun {X m F0 G0 F ow σ G H} s => by
  obtain ⟨C, fI, fd, ps, hm, T, iC, tI, hb, fo⟩ := hx.ex
  have K1 := s.f.K
  refine ⟨_, pss_cons (ps_raise s.x.calm s.x.tk (pmk_none (by rw [K1]; exact T) (by rw [K1]; exact iC) (by rw [K1]; exact tI) (call_fr s.f fo) (s.f.room.mono (Nat.le_of_ble_eq_true hk)) (by rw [K1]; exact hb) passL (s.f.gl hg) (by rw [s.f.mg]; exact hm) hdb)) pss_w, ?_⟩
  refine ⟨Nat.zero_le _, fun a ha => ⟨a, [], rfl, rfl, upd_same, fun dx H' hd ne h1 h2 h3 => ⟨rfl, dx, _, h2, h3, ?_, ?_⟩⟩⟩
  · rw [upd_ne ne] at hd
    exact hd
  · rw [upd_ne ne] at hd
    exact exc_made s hm ha hd ne h1 h rfl (.cons (.str _) .nil)⟩
/-- raise X(e) -/
theorem sd_raise1 {w fl : Str} {Φ : D → Prop} {es' : List Expr} (hx : ExC Γ.g k x 1 (fun ws => [(fl, ws.getD 0 .non), ("word", .str w)])) (he : EV Γ Ψ ρ e Φ) (h : ∀ d, Φ d → Ψ (x, [(fl, d), ("word", .str w)])) (hk : Nat.ble (k + 1) Γ.k = true := by kernel_rfl) (hg : glB Γ.sc x = true := by kernel_rfl) (hdb : (x == ("__debug__" : Str)) = false := by kernel_rfl)
    (hs : ∀ env, starEach [e] env = (false, eval e env) :: starEach [] env := by intro _; kernel_rfl) : SD Γ Ψ ρ (.Raise (some (.Call (.Name x pp) [e] [] pos)) none pos' :: rest) p := ⟨fun {X m F0 G0 F ow σ G H} s => by
  obtain ⟨C, fI, fd, ps, hm, T, iC, tI, hb, fo⟩ := hx.ex
  have K1 := s.f.K
  refine ⟨_, pss_cons (ps_raise s.x.calm s.x.tk (pmk_oex (by rw [K1]; exact T) (by rw [K1]; exact iC) (by rw [K1]; exact tI) (call_fr s.f fo) (s.f.room.mono (Nat.le_of_ble_eq_true hk)) (by rw [K1]; exact hb) .nil passL (s.f.gl hg) (by rw [s.f.mg]; exact hm) (pa_cons pe_w pa_nil (hs _)) hdb (hs _) rfl)) pss_w, ?_⟩
  refine he.run s _ fun d v G2 H2 p2 e2 s2 d2 => ?_
  have s' := s.next e2 s2
  refine ⟨by show 1 ≤ 1000; decide, fun a ha => ⟨a, [v], rfl, rfl, upd_same, fun dx H' hd ne h1 h2 h3 => ⟨rfl, dx, _, h2, h3, ?_, ?_⟩⟩⟩
  · rw [upd_ne ne] at hd
    exact hd
  · rw [upd_ne ne] at hd
    exact exc_made s' hm ha hd ne h1 (h d p2) rfl (.cons d2 (.cons (.str _) .nil))⟩
end
/-- the class at C, looked at by a Bool -/
def oexB (K : PySem.W.Frag) (C : Addr) : Bool := (match K.lookup C with
  | some ⟨.type t, _, .cls cd, sl⟩ => (match cd.mro, sl.toList with
    | .ref C' :: bm, [_, _, _, _, some (.builtin n), _] => decide (t = "type") && (decide (C' = C) && (decide (n = "ValueError.__new__") && (!cd.hasDel && (cd.hasDict && PySem.HandSPX.refsVE bm))))
    | _, _ => false)
  | _ => false) && (decide (PySem.W.findIn K (.ref C) "__setattr__" = some (some (.builtin "object.__setattr__"))) && (decide (PySem.W.subIn K (.ref C) (.type "BaseException") = some true) && (decide (PySem.W.typeIn K (.ref C) = some (.type "type")) && PySem.W.keepIn K (.ref C))))
theorem oexB_ok {K : PySem.W.Frag} {C : Addr} (h : oexB K C = true) : OexC K C := by
  unfold oexB at h
  simp only [Bool.and_eq_true, decide_eq_true_eq] at h
  obtain ⟨h1, h2, h3, h4, h5⟩ := h
  refine ⟨?_, h2, h3, h4, h5⟩
  split at h1
  · rename_i t dd cd sl ho
    split at h1
    · rename_i C' bm k0 k1 k2 k3 n k5 hm hs
      simp only [Bool.and_eq_true, decide_eq_true_eq, Bool.not_eq_true'] at h1
      obtain ⟨rfl, rfl, rfl, hdel, hdict, hve⟩ := h1
      obtain ⟨nm, bs, mro, ns, qn, hd, sn, sub, ab, col, del⟩ := cd
      dsimp only at hm hdel hdict
      subst hm hdel hdict
      have hsl : sl = #[k0, k1, k2, k3, some (.builtin "ValueError.__new__"), k5] := by
        obtain ⟨l⟩ := sl
        simp only at hs
        rw [hs]
      subst hsl
      exact ⟨nm, qn, ns, bs, bm, sn, sub, ab, col, dd, k0, k1, k2, k3, k5, ho, hve⟩
    · cases h1
  · cases h1
end DL

namespace DL
open PySem PySem.Spec PyProof.Rows L2
/-! ### names by their texts -/
inductive Look : List Str → List En → Str → En → Nat → Prop
  | here {x : Str} {N : List Str} {en : En} {ρ : List En} : Look (x :: N) (en :: ρ) x en 0
  | there {x y : Str} {N : List Str} {en e : En} {ρ : List En} {i : Nat} : Look N ρ x en i → Look (y :: N) (e :: ρ) x en (i + 1)
theorem Look.at {N : List Str} {ρ : List En} {x : Str} {en : En} {i : Nat} (h : Look N ρ x en i) : N[i]? = some x ∧ ρ[i]? = some en := by
  induction h with
  | here => exact ⟨rfl, rfl⟩
  | there _ ih => exact ⟨by simpa using ih.1, by simpa using ih.2⟩
/-- the entry of a name is changed -/
inductive Put : List Str → List En → Str → En → List En → Nat → Prop
  | here {x : Str} {N : List Str} {en e : En} {ρ : List En} : Put (x :: N) (e :: ρ) x en (en :: ρ) 0
  | there {x y : Str} {N : List Str} {en e : En} {ρ ρ' : List En} {i : Nat} : Put N ρ x en ρ' i → Put (y :: N) (e :: ρ) x en (e :: ρ') (i + 1)
theorem Put.at {N : List Str} {ρ ρ' : List En} {x : Str} {en : En} {i : Nat} (h : Put N ρ x en ρ' i) : N[i]? = some x ∧ ρ.set i en = ρ' := by
  induction h with
  | here => exact ⟨rfl, rfl⟩
  | there _ ih => exact ⟨by simpa using ih.1, by rw [List.set_cons_succ, ih.2]⟩
section
variable {Γ : Ctx} {Ψ : Exc → Prop} {ρ ρ' : List En} {a b c e : Expr} {es : List Expr} {pos pos' : Pos} {Φ : D → Prop} {p : Pst} {rest ss : List Stmt} {d : D} {ds : List D} {x : Str} {i : Nat} {as : List En}
theorem ev_nm (h : Look Γ.N ρ x (.dat d) i) (hv : visB Γ.sc x = true := by kernel_rfl) (hd : (x == ("__debug__" : Str)) = false := by kernel_rfl) (hcd : (x == ("__classdict__" : Str)) = false := by kernel_rfl) : EV Γ Ψ ρ (.Name x pos) (· = d) :=
  ev_name i h.at.2 h.at.1 hv hd hcd
theorem eva_bg (h : Look Γ.N ρ x .bag i) (hr : EVA Γ Ψ ρ es (· = as)) (hv : visB Γ.sc x = true := by kernel_rfl) (hd : (x == ("__debug__" : Str)) = false := by kernel_rfl) (hcd : (x == ("__classdict__" : Str)) = false := by kernel_rfl)
    (hs : ∀ env, starEach (.Name x pos :: es) env = (false, eval (.Name x pos) env) :: starEach es env := by intro _; kernel_rfl) : EVA Γ Ψ ρ (.Name x pos :: es) (· = .bag :: as) := eva_bag1 i h.at.2 hr h.at.1 hv hd hcd hs
theorem sd_set (he : EV Γ Ψ ρ e (· = d)) (hp : Put Γ.N ρ x (.dat d) ρ' i) (h : SD Γ Ψ ρ' rest p) (hl : locB Γ.sc Γ.top x = true := by kernel_rfl) (hs : ∀ env, swapsWith e (some (.Name x pos')) pos.line env = pure false := by intro _; kernel_rfl) : SD Γ Ψ ρ (.Assign [.Name x pos'] e pos :: rest) p :=
  sd_asg1 i he (by rw [hp.at.2]; exact h) hp.at.1 hl hs
/-- a name takes something of which Φ is known -/
theorem sd_setg {ρ' : D → List En} (he : EV Γ Ψ ρ e Φ) (hp : ∀ d, Put Γ.N ρ x (.dat d) (ρ' d) i) (h : ∀ d, Φ d → SD Γ Ψ (ρ' d) rest p) (hl : locB Γ.sc Γ.top x = true := by kernel_rfl) (hs : ∀ env, swapsWith e (some (.Name x pos')) pos.line env = pure false := by intro _; kernel_rfl) : SD Γ Ψ ρ (.Assign [.Name x pos'] e pos :: rest) p :=
  sd_asg i he (fun d hd => by rw [(hp d).at.2]; exact h d hd) (hp (.none)).at.1 hl hs
theorem sd_setn (he : EVN Γ Ψ ρ e (· = ds)) (hp : Put Γ.N ρ x (.own ds) ρ' i) (h : SD Γ Ψ ρ' rest p) (hl : locB Γ.sc Γ.top x = true := by kernel_rfl) (hs : ∀ env, swapsWith e (some (.Name x pos')) pos.line env = pure false := by intro _; kernel_rfl) : SD Γ Ψ ρ (.Assign [.Name x pos'] e pos :: rest) p :=
  sd_asgn1 i he (by rw [hp.at.2]; exact h) hp.at.1 hl hs
theorem tgt_put {K : List En → Prop} (hp : Put Γ.N ρ x (.dat d) ρ' i) (h : K ρ') (hl : locB Γ.sc Γ.top x = true := by kernel_rfl) : TGT Γ Ψ ρ (.Name x pos) d [i] K :=
  tgt_name i (by rw [hp.at.2]; exact h) hp.at.1 hl
theorem sd_frz (hp : Put Γ.N ρ x (.dat (.list ds)) ρ' i) (hl : Look Γ.N ρ x (.own ds) i) (h : SD Γ Ψ ρ' ss p) : SD Γ Ψ ρ ss p := sd_freeze i hl.at.2 (by rw [hp.at.2]; exact h)
theorem sd_retO (h : Look Γ.N ρ x (.own ds) i) (hr : p.rt (.new ds)) (hv : visB Γ.sc x = true := by kernel_rfl) (hd : (x == ("__debug__" : Str)) = false := by kernel_rfl) (hcd : (x == ("__classdict__" : Str)) = false := by kernel_rfl) :
    SD Γ Ψ ρ (.Return (some (.Name x pos)) pos' :: rest) p := sd_ret_own i h.at.2 h.at.1 hv hr hd hcd
end
end DL

namespace DL
open PySem PySem.Spec PyProof.Rows L2
section
variable {Γ : Ctx} {Ψ : Exc → Prop} {ρ : List En} {a b c e : Expr} {es rr : List Expr} {pos pp p2 p3 p4 : Pos} {Φ : D → Prop} {p : Pst} {rest : List Stmt} {d : D} {ds : List D} {x : Str} {i j k : Int} {k1 l1 : Bool} {n kk : Nat} {ps : List Str} {dds : List D} {spec : Spec} {as : List En}
theorem ev_callD (fn : FnD Γ.g kk x ps dds spec) (ha : EVA Γ Ψ ρ (e :: es) (· = as)) (h : spec (as ++ dds.map .dat) (fun r => r = .dat d) Ψ) (hk : Nat.ble kk Γ.k = true := by kernel_rfl) (hg : glB Γ.sc x = true := by kernel_rfl) (hdb : (x == ("__debug__" : Str)) = false := by kernel_rfl)
    (he : ∀ env, starEach (e :: es) env = (false, eval e env) :: starEach es env ∧ (backTo pos (starEach es env)).any (·.1) = false := by intro _; exact ⟨by kernel_rfl, by kernel_rfl⟩) : EV Γ Ψ ρ (.Call (.Name x pp) (e :: es) [] pos) (· = d) := ⟨fun {X m F0 G0 F ow σ G H} s Q q =>
  wE_call s fn (Nat.le_of_ble_eq_true hk) hg ha (fun as' e' => by rw [e']; exact h) (fun r v G1 H2 p1 e1 ok => by
    subst p1
    obtain ⟨G2, e2, st, dp⟩ := ok
    exact q _ v G2 H2 rfl (e1.trans e2) st dp) hdb he⟩
theorem evn_callD (fn : FnD Γ.g kk x ps dds spec) (ha : EVA Γ Ψ ρ (e :: es) (· = as)) (h : spec (as ++ dds.map .dat) (fun r => r = .new ds) Ψ) (hk : Nat.ble kk Γ.k = true := by kernel_rfl) (hg : glB Γ.sc x = true := by kernel_rfl) (hdb : (x == ("__debug__" : Str)) = false := by kernel_rfl)
    (he : ∀ env, starEach (e :: es) env = (false, eval e env) :: starEach es env ∧ (backTo pos (starEach es env)).any (·.1) = false := by intro _; exact ⟨by kernel_rfl, by kernel_rfl⟩) : EVN Γ Ψ ρ (.Call (.Name x pp) (e :: es) [] pos) (· = ds) := ⟨fun {X m F0 G0 F ow σ G H} s Q q =>
  wE_call s fn (Nat.le_of_ble_eq_true hk) hg ha (fun as' e' => by rw [e']; exact h) (fun r v G1 H2 p1 e1 ok => by
    subst p1
    obtain ⟨pp, vs, G2, rfl, e2, hF, st, dp⟩ := ok
    exact q _ pp vs G2 H2 rfl (e1.trans e2) hF st dp) hdb he⟩
theorem ev_callN (fn : FnD Γ.g kk x ps dds spec) (ha : EVA Γ Ψ ρ (e :: es) (· = as)) (h : spec (as ++ dds.map .dat) (fun r => r = .new ds) Ψ) (hk : Nat.ble kk Γ.k = true := by kernel_rfl) (hg : glB Γ.sc x = true := by kernel_rfl) (hdb : (x == ("__debug__" : Str)) = false := by kernel_rfl)
    (he : ∀ env, starEach (e :: es) env = (false, eval e env) :: starEach es env ∧ (backTo pos (starEach es env)).any (·.1) = false := by intro _; exact ⟨by kernel_rfl, by kernel_rfl⟩) : EV Γ Ψ ρ (.Call (.Name x pp) (e :: es) [] pos) (· = .list ds) := (evn_callD fn ha h hk hg hdb he).ev1
theorem ev_callD0 (fn : FnD Γ.g kk x ps dds spec) (h : spec (dds.map .dat) (fun r => r = .dat d) Ψ) (hk : Nat.ble kk Γ.k = true := by kernel_rfl) (hg : glB Γ.sc x = true := by kernel_rfl) (hdb : (x == ("__debug__" : Str)) = false := by kernel_rfl) : EV Γ Ψ ρ (.Call (.Name x pp) [] [] pos) (· = d) := ⟨fun {X m F0 G0 F ow σ G H} s Q q =>
  wE_call0 s fn (Nat.le_of_ble_eq_true hk) hg h (fun r v G1 H2 p1 e1 ok => by
    subst p1
    obtain ⟨G2, e2, st, dp⟩ := ok
    exact q _ v G2 H2 rfl (e1.trans e2) st dp) hdb⟩
theorem evn_callD0 (fn : FnD Γ.g kk x ps dds spec) (h : spec (dds.map .dat) (fun r => r = .new ds) Ψ) (hk : Nat.ble kk Γ.k = true := by kernel_rfl) (hg : glB Γ.sc x = true := by kernel_rfl) (hdb : (x == ("__debug__" : Str)) = false := by kernel_rfl) : EVN Γ Ψ ρ (.Call (.Name x pp) [] [] pos) (· = ds) := ⟨fun {X m F0 G0 F ow σ G H} s Q q =>
  wE_call0 s fn (Nat.le_of_ble_eq_true hk) hg h (fun r v G1 H2 p1 e1 ok => by
    subst p1
    obtain ⟨pp, vs, G2, rfl, e2, hF, st, dp⟩ := ok
    exact q _ pp vs G2 H2 rfl (e1.trans e2) hF st dp) hdb⟩
theorem ev_callN0 (fn : FnD Γ.g kk x ps dds spec) (h : spec (dds.map .dat) (fun r => r = .new ds) Ψ) (hk : Nat.ble kk Γ.k = true := by kernel_rfl) (hg : glB Γ.sc x = true := by kernel_rfl) (hdb : (x == ("__debug__" : Str)) = false := by kernel_rfl) : EV Γ Ψ ρ (.Call (.Name x pp) [] [] pos) (· = .list ds) := (evn_callD0 fn h hk hg hdb).ev1

/-! ### and, or of truth values -/
theorem ev_andB (ha : EV Γ Ψ ρ a (· = .bool k1)) (hb : k1 = true → EV Γ Ψ ρ (.BoolOp .And (b :: rr) pos) (· = .bool l1)) : EV Γ Ψ ρ (.BoolOp .And (a :: b :: rr) pos) (· = .bool (k1 && l1)) :=
  (ev_and ha hb).imp fun d h => by rw [h]; cases k1 <;> rfl
theorem ev_orB (ha : EV Γ Ψ ρ a (· = .bool k1)) (hb : k1 = false → EV Γ Ψ ρ (.BoolOp .Or (b :: rr) pos) (· = .bool l1)) : EV Γ Ψ ρ (.BoolOp .Or (a :: b :: rr) pos) (· = .bool (k1 || l1)) :=
  (ev_or ha hb).imp fun d h => by rw [h]; cases k1 <;> rfl
/-- a first part that is false, true -/
theorem ev_andF (ha : EV Γ Ψ ρ a (· = .bool k1)) (h : k1 = false) : EV Γ Ψ ρ (.BoolOp .And (a :: b :: rr) pos) (· = .bool false) := (ev_and (d := .none) ha fun z => by rw [h] at z; cases z).imp fun d e => by rw [e, h]; rfl
theorem ev_orT (ha : EV Γ Ψ ρ a (· = .bool k1)) (h : k1 = true) : EV Γ Ψ ρ (.BoolOp .Or (a :: b :: rr) pos) (· = .bool true) := (ev_or (d := .none) ha fun z => by rw [h] at z; cases z).imp fun d e => by rw [e, h]; rfl

/-! ### isinstance -/
def isD (t : String) : D → Bool
  | .none => false
  | .bool _ => decide (t = "bool") || decide (t = "int")
  | .int _ => decide (t = "int")
  | .str _ => decide (t = "str")
  | .list _ => decide (t = "list")
  | .tuple _ => decide (t = "tuple")
  | .dict _ => decide (t = "dict")
theorem kit_int (d : D) : kitB (tyD d) "int" = some (isD "int" d) := by cases d <;> kernel_rfl
theorem kit_bool (d : D) : kitB (tyD d) "bool" = some (isD "bool" d) := by cases d <;> kernel_rfl
theorem kit_str (d : D) : kitB (tyD d) "str" = some (isD "str" d) := by cases d <;> kernel_rfl
theorem kit_list (d : D) : kitB (tyD d) "list" = some (isD "list" d) := by cases d <;> kernel_rfl
theorem kit_tuple (d : D) : kitB (tyD d) "tuple" = some (isD "tuple" d) := by cases d <;> kernel_rfl

/-! ### keywords -/
def wK (X : Cx) (kws : List Keyword) : TA := fun σ H Q => ∃ t, PK X kws t ∧ t σ H Q
theorem pk_w {X : Cx} {kws : List Keyword} : PK X kws (wK X kws) := ⟨fun pos pins s σ H Q I h => by
  obtain ⟨t, h, q⟩ := h
  exact h.run pos pins s σ H Q I q⟩
structure EVK (Γ : Ctx) (Ψ : Exc → Prop) (ρ : List En) (kws : List Keyword) (Φ : List En → Prop) : Prop where
  run : ∀ {X : Cx} {m : Pm} {F0 G0 F : Hp} {ow : Nat → Addr} {σ : L2.St} {G H : Hp}, Stt Γ X Ψ ρ m F0 G0 F ow σ G H →
    ∀ Q : List V → Hp → Prop, (∀ as vs G2 H2, Φ as → Same G G2 → St0 m F G2 H2 → Args m G2 vs as → Q vs H2) → wK X kws σ H Q
theorem evk_nil : EVK Γ Ψ ρ [] (· = []) := ⟨fun {X m F0 G0 F ow σ G H} s Q q => ⟨_, pk_nil, q [] [] G H rfl (Same.refl _) s.st .nil⟩⟩
theorem evk_cons {nm : Option Str} {kpos : Pos} {kws : List Keyword} (ha : EV Γ Ψ ρ a (· = d)) (hr : EVK Γ Ψ ρ kws (· = as)) : EVK Γ Ψ ρ (⟨nm, a, kpos⟩ :: kws) (· = .dat d :: as) := ⟨fun {X m F0 G0 F ow σ G H} s Q q =>
  ⟨_, pk_cons pe_w pk_w, ha.run s _ fun y vy G1 H1 p1 e1 s1 d1 => hr.run (s.next e1 s1) _ fun as vs G2 H2 p2 e2 s2 d2 => q (.dat y :: as) (vy :: vs) G2 H2 (by rw [p2, p1]) (e1.trans e2) s2 (.cons (show ArgOk m G2 vy (.dat y) from dp_mono e2 d1) d2)⟩⟩
/-- a def called with n values by place and the keywords ks: gE puts them in the parameters' order -/
structure FnK (g : Gm) (k : Nat) (x : Str) (n : Nat) (ks : List Str) (gE : List En → List En → List En) (spec : Spec) : Prop where
  ex : ∃ (f : Addr) (fd : FuncData) (ps : List Str) (gg : List Value → List Value → List Value) (gV : List V → List V → List V), g.mg x = some (.ref f) ∧ PySem.W.keepIn g.K (.ref f) = true ∧ KBn g.K fd ps n ks gg gV ∧
    (∀ {m : Pm} {G : Hp} {vs zs : List V} {as bs : List En}, m.K = g.K → Args m G vs as → Args m G zs bs → vs.length = n → zs.length = ks.length → Args m G (gV vs zs) (gE as bs)) ∧
    FnOk g.P g.w g.K g.mg g.base (L2.CX g.P g.w) k f fd ps (spD g spec)
/-- k = v, .. alone -/
theorem pe_callN0 {X : Cx} {CX : CXT} {k : Nat} {f : Addr} {fd : FuncData} {ps ks : List Str} {sp : Sp} {E : XK} {x : Str} {p pos : Pos} {kws : List Keyword} {tk : TA} {g : List Value → List Value → List Value} {gV : List V → List V → List V}
    (F : FnOk X.prog X.w X.K X.mg X.base CX k f fd ps sp) (hr : Room k X.A) (hg : Gl X x) (hm : X.mg x = some (.ref f)) (hk : PySem.W.keepIn X.K (.ref f) = true) (hb : KBn X.K fd ps 0 ks g gV) (hx : Passes CX X E) (hkw : PK X kws tk)
    (hall : (backToKw pos (keywordEach kws X.env)).all (·.1.isSome) = true) (hks : (backToKw pos (keywordEach kws X.env)).filterMap (·.1) = ks) (hdb : (x == ("__debug__" : Str)) = false)
    (hpl : ((backTo pos (starEach [] X.env)).any (·.1) || (backToKw pos (keywordEach kws X.env)).any (·.1.isNone)) = false) :
    PE X (.Call (.Name x p) [] kws pos) (fun σ H Q => tk σ H fun zs H2 => zs.length = ks.length ∧ sp (gV [] zs) H2 Q E) := by
  refine ⟨fun pins s σ H Q I h => ?_⟩
  refine wpAny_Call_Name_kw (ld_glob I hg hm ?_ hdb)
  refine PySem.W.callWith_KW0 (h₀ := X.base) I.ok.mod.kin hk hall ?_ hpl
  refine thn (hkw.run pos pins s σ H _ I h) fun ws s2 ⟨zs, H2, I2, rz, l2, q2⟩ => ⟨I2.kIn, ?_⟩
  rw [hks]
  exact run_fnN (us := []) F hr hb hx I2 .nil rz rfl l2 q2
variable {ks : List Str} {gE : List En → List En → List En} {kws : List Keyword} {bs : List En} {Φr : Rs → Prop}
theorem wE_callK {X : Cx} {m : Pm} {F0 G0 F G H : Hp} {ow : Nat → Addr} {σ : L2.St} {Q : VK} (s : Stt Γ X Ψ ρ m F0 G0 F ow σ G H) (fn : FnK Γ.g kk x n ks gE spec) (hk : kk ≤ Γ.k) (hg : glB Γ.sc x = true)
    (ha : EVA Γ Ψ ρ (e :: es) (· = as)) (hkw : EVK Γ Ψ ρ kws (· = bs)) (hl : as.length = n) (hl2 : bs.length = ks.length) (h : spec (gE as bs) Φr Ψ) (hq : ∀ r v G1 H2, Φr r → Same G G1 → RsOk m F G1 v H2 r → Q v H2) (hdb : (x == ("__debug__" : Str)) = false)
    (hall : ∀ env, (backToKw pos (keywordEach kws env)).all (·.1.isSome) = true) (hks : ∀ env, (backToKw pos (keywordEach kws env)).filterMap (·.1) = ks) (hpl : ∀ env, ((backTo pos (starEach (e :: es) env)).any (·.1) || (backToKw pos (keywordEach kws env)).any (·.1.isNone)) = false)
    (he : ∀ env, starEach (e :: es) env = (false, eval e env) :: starEach es env) : wE X (.Call (.Name x pp) (e :: es) kws pos) σ H Q := by
  obtain ⟨f, fd, ps, gg, gV, hm, hkp, hb, hr, fo⟩ := fn.ex
  have K1 := s.f.K
  refine ⟨_, pe_callN (call_fr s.f fo) (s.f.room.mono hk) (s.f.gl hg) (by rw [s.f.mg]; exact hm) (by rw [K1]; exact hkp) (by rw [K1]; exact hb) (takes_pass s.x.tk) pa_w pk_w (hall _) (hks _) hdb (he _) (hpl _), ?_⟩
  refine ha.run s _ fun as' vs G2 H2 p2 e2 s2 d2 => hkw.run (s.next e2 s2) _ fun bs' zs G3 H3 p3 e3 s3 d3 => ?_
  subst p2; subst p3
  have l1 : vs.length = n := d2.len.trans hl
  have l2 : zs.length = ks.length := d3.len.trans hl2
  exact ⟨l1, l2, m, F, G3, gE as' bs', s.K, s.mg, s.x.T, s3, hr s.K (d2.mono e3) d3 l1 l2, Φr, Ψ, h, fun r v H' hr ok => hq r v G3 H' hr (e2.trans e3) ok, fun cls d H' q => q.back s.sl.sub ((s.s0.trans e2).trans e3)⟩
theorem wE_callK0 {X : Cx} {m : Pm} {F0 G0 F G H : Hp} {ow : Nat → Addr} {σ : L2.St} {Q : VK} (s : Stt Γ X Ψ ρ m F0 G0 F ow σ G H) (fn : FnK Γ.g kk x 0 ks gE spec) (hk : kk ≤ Γ.k) (hg : glB Γ.sc x = true)
    (hkw : EVK Γ Ψ ρ kws (· = bs)) (hl2 : bs.length = ks.length) (h : spec (gE [] bs) Φr Ψ) (hq : ∀ r v G1 H2, Φr r → Same G G1 → RsOk m F G1 v H2 r → Q v H2) (hdb : (x == ("__debug__" : Str)) = false)
    (hall : ∀ env, (backToKw pos (keywordEach kws env)).all (·.1.isSome) = true) (hks : ∀ env, (backToKw pos (keywordEach kws env)).filterMap (·.1) = ks) (hpl : ∀ env, ((backTo pos (starEach [] env)).any (·.1) || (backToKw pos (keywordEach kws env)).any (·.1.isNone)) = false) : wE X (.Call (.Name x pp) [] kws pos) σ H Q := by
  obtain ⟨f, fd, ps, gg, gV, hm, hkp, hb, hr, fo⟩ := fn.ex
  have K1 := s.f.K
  refine ⟨_, pe_callN0 (call_fr s.f fo) (s.f.room.mono hk) (s.f.gl hg) (by rw [s.f.mg]; exact hm) (by rw [K1]; exact hkp) (by rw [K1]; exact hb) (takes_pass s.x.tk) pk_w (hall _) (hks _) hdb (hpl _), ?_⟩
  refine hkw.run s _ fun bs' zs G3 H3 p3 e3 s3 d3 => ?_
  subst p3
  have l2 : zs.length = ks.length := d3.len.trans hl2
  exact ⟨l2, m, F, G3, gE [] bs', s.K, s.mg, s.x.T, s3, hr s.K .nil d3 rfl l2, Φr, Ψ, h, fun r v H' hr ok => hq r v G3 H' hr e3 ok, fun cls d H' q => q.back s.sl.sub (s.s0.trans e3)⟩
theorem ev_callK (fn : FnK Γ.g kk x n ks gE spec) (ha : EVA Γ Ψ ρ (e :: es) (· = as)) (hkw : EVK Γ Ψ ρ kws (· = bs)) (h : spec (gE as bs) (fun r => Φ r.data) Ψ) (hl : as.length = n := by kernel_rfl) (hl2 : bs.length = ks.length := by kernel_rfl) (hk : Nat.ble kk Γ.k = true := by kernel_rfl) (hg : glB Γ.sc x = true := by kernel_rfl) (hdb : (x == ("__debug__" : Str)) = false := by kernel_rfl)
    (hall : ∀ env, (backToKw pos (keywordEach kws env)).all (·.1.isSome) = true := by intro _; kernel_rfl) (hks : ∀ env, (backToKw pos (keywordEach kws env)).filterMap (·.1) = ks := by intro _; kernel_rfl) (hpl : ∀ env, ((backTo pos (starEach (e :: es) env)).any (·.1) || (backToKw pos (keywordEach kws env)).any (·.1.isNone)) = false := by intro _; kernel_rfl)
    (he : ∀ env, starEach (e :: es) env = (false, eval e env) :: starEach es env := by intro _; kernel_rfl) : EV Γ Ψ ρ (.Call (.Name x pp) (e :: es) kws pos) Φ := ⟨fun {X m F0 G0 F ow σ G H} s Q q =>
  wE_callK s fn (Nat.le_of_ble_eq_true hk) hg ha hkw hl hl2 h (fun r v G1 H2 p1 e1 ok => by
    obtain ⟨G2, e2, st, dp⟩ := ok.data
    exact q _ v G2 H2 p1 (e1.trans e2) st dp) hdb hall hks hpl he⟩
theorem ev_callK0 (fn : FnK Γ.g kk x 0 ks gE spec) (hkw : EVK Γ Ψ ρ kws (· = bs)) (h : spec (gE [] bs) (fun r => Φ r.data) Ψ) (hl2 : bs.length = ks.length := by kernel_rfl) (hk : Nat.ble kk Γ.k = true := by kernel_rfl) (hg : glB Γ.sc x = true := by kernel_rfl) (hdb : (x == ("__debug__" : Str)) = false := by kernel_rfl)
    (hall : ∀ env, (backToKw pos (keywordEach kws env)).all (·.1.isSome) = true := by intro _; kernel_rfl) (hks : ∀ env, (backToKw pos (keywordEach kws env)).filterMap (·.1) = ks := by intro _; kernel_rfl) (hpl : ∀ env, ((backTo pos (starEach [] env)).any (·.1) || (backToKw pos (keywordEach kws env)).any (·.1.isNone)) = false := by intro _; kernel_rfl) : EV Γ Ψ ρ (.Call (.Name x pp) [] kws pos) Φ := ⟨fun {X m F0 G0 F ow σ G H} s Q q =>
  wE_callK0 s fn (Nat.le_of_ble_eq_true hk) hg hkw hl2 h (fun r v G1 H2 p1 e1 ok => by
    obtain ⟨G2, e2, st, dp⟩ := ok.data
    exact q _ v G2 H2 p1 (e1.trans e2) st dp) hdb hall hks hpl⟩
end
end DL

namespace DL
open PySem PySem.Spec PyProof.Rows L2

/-! ### the bag -/
def bagL (c : Addr) (i j s t : Int) : List V := [.ref c, .int i, .int j, .int s, .int t]
theorem St0.bagw {m : Pm} {F G H : Hp} {b c : Addr} {i j s t : Int} {ns : List Int} (st : St0 m F G H) (hb : m.B = some b) (h1 : G c = some (.lst (ns.map V.int))) (h2 : ns.length ≤ 63)
    (h4 : 0 ≤ i ∧ i ≤ ns.length) (h5 : 0 ≤ j) (h6 : 0 ≤ s ∧ s < 2147483563) (h7 : 0 ≤ t) : St0 m F G (upd H b (.lst (bagL c i j s t))) := by
  obtain ⟨⟨c0, ns0, i0, j0, s0, t0, e0, _⟩, hG, hF⟩ := st.bag b hb
  refine ⟨fun a o e => ?_, fun b' e => ?_, fun q hq => ?_, fun a g1 g2 g3 => ?_, st.ntG, st.ntF⟩
  · rw [upd_ne (fun z => by rw [z, hF] at e; cases e)]
    exact st.fr a o e
  · rw [hb] at e
    cases e
    exact ⟨⟨c, ns, i, j, s, t, upd_same, h1, h2, h4.1, h4.2, h5, h6.1, h6.2, h7⟩, hG, hF⟩
  · obtain ⟨⟨ps, x1, x2, x3⟩, y1, y2⟩ := st.tab q hq
    have nb : q.1 ≠ b := fun z => by
      rw [z, e0] at x1
      cases x1
    refine ⟨⟨ps, by rw [upd_ne nb]; exact x1, x2, fun pos cv hc => ?_⟩, y1, y2⟩
    obtain ⟨cc, z1, z2⟩ := x3 pos cv hc
    exact ⟨cc, z1, by
      rw [upd_ne (fun z => by
        rw [z, e0] at z2
        exact lst_code _ _ (Option.some.inj z2))]
      exact z2⟩
  · rw [upd_ne (fun z => g2 (by rw [z]; exact hb))]
    exact st.rest a g1 g2 g3
end DL

namespace DL
open PySem PySem.Spec PyProof.Rows L2

/-! ### try with several clauses that name the error -/
/-- the wishes of the clauses (except x as n), n in slot i, one after the other -/
def wAsMany (K : PySem.W.Frag) (i : Nat) (D : Ends) : List (Value × (Addr → Value → Option Addr → TS)) → WX
  | [] => fun _ _ _ _ => False
  | (c, ts) :: r => fun cls d σ H => ∃ b, PySem.W.exmOne K cls c = some b ∧
      (b = true → i < σ.length → ∀ a, H a = none → ts a cls d { nx := fun σ' H' => D.nx (σ'.set i none) H', rt := D.rt, bk := fun σ' H' => D.bk (σ'.set i none) H', ct := fun σ' H' => D.ct (σ'.set i none) H' } (σ.set i (some (.ref a))) H) ∧
      (b = false → wAsMany K i D r cls d σ H)
/-- the canonical reading of a clause's suite -/
def wSu (X : Cx) (su : List Stmt) (a : Addr) (cls : Value) (d : Option Addr) : TS := fun D σ H => ∀ (oe : Obj) (pn : List (Addr × Obj)), Zc cls d oe → (∃ vs, oe.data = .fields vs) → wSs (X.suite a ((a, oe) :: pn)) su D σ H
inductive Clauses (X : Cx) (n : Str) : List ExceptHandler → List (Value × (Addr → Value → Option Addr → TS)) → Prop
  | nil : Clauses X n [] []
  | cons {x : Str} {c : Value} {b0 : Stmt} {su : List Stmt} {np pos' : Pos} {hds : List ExceptHandler} {l : List (Value × (Addr → Value → Option Addr → TS))} (hc : Names X x c) (r : Clauses X n hds l) :
      Clauses X n (.ExceptHandler (some (.Name x np)) (some n) (b0 :: su) pos' :: hds) ((c, wSu X (b0 :: su)) :: l)
section
variable {X : Cx} {n : Str} {i : Nat} {body : List Stmt} {pos : Pos} {tb : WX → TS} {h0 : ExceptHandler} {hds : List ExceptHandler} {l : List (Value × (Addr → Value → Option Addr → TS))}
theorem ps_tryAs (hs : X.stack = X.env :: X.outer) (hf : X.env.frame = some X.env.locals) (hN : X.N.Nodup) (hi : X.N[i]? = some n) (hln : X.env.kindOf n = some .local)
    (hb : ∀ (W : WX) (pn : List (Addr × Obj)) (xe : Value → Shared → Prop), Takes (X.tr pn xe) W → PSs (X.tr pn xe) body (tb W)) (hh : Clauses X n (h0 :: hds) l) :
    PS X (.Try body (h0 :: hds) [] [] pos) (fun D σ H => tb (wAsMany X.K i D l) D σ H) := by
  refine ⟨fun pins s σ H D I h => ?_⟩
  have ok := I.ok
  have hfr : X.A.frames = some (X.env :: X.outer) := by rw [ok.frames, hs]
  refine wpAny_Try_except ?_
  have goal2 := hb (wAsMany X.K i D l) (X.pn ++ pins) (fun e s1 => wpAny (model X.prog X.w) X.A (noteFrame e X.env) (fun _ s2 => wpAny (model X.prog X.w) X.A (setFlight e none) (fun _ s3 =>
    wpAny (model X.prog X.w) X.A (handleBy e X.env (h0 :: hds)) (SP X pins D) X.xe s3) X.xe s2) X.xe s1)
  refine wpAny_mono ((goal2 (fun u s' xx => ?_)).run [] s σ H D (I.toTry _) h) (fun f s1 hsp => ?_) (fun e s1 he => he)
  · obtain ⟨a, B, sI, pins', σ', H', cls, d, rfl, J', nb, up, sky, na, os, ag, w⟩ := xx
    have J : Inv X pins σ' H' sI := J'.ofTry ok
    have sky' : Sky B (X.env :: X.outer) a (Zc cls d) X.env.locals s'.heap := by
      rw [← hs]
      exact sky
    show wpAny (model X.prog X.w) X.A (noteFrame (.ref a) X.env) _ _ _
    refine Sky.land Zc.steady hfr hf sky' fun h3 fl3 up3 => ?_
    have J3 : Inv X pins σ' H' { s' with heap := h3 } := J.landed nb fl3.1 (up.trans up3) os ag
    obtain ⟨oe3, vs3, he3, hz3, hd3⟩ := fl3.there
    have nfr : a ∉ frs (X.env :: X.outer) := fun hm => by
      obtain ⟨_, o', e', hnf⟩ := fl3.2.2.1.mem hm
      rw [he3] at e'
      cases e'
      exact hnf _ hd3
    have nL : a ≠ X.env.locals := fun z => nfr (List.mem_filterMap.mpr ⟨X.env, List.mem_cons_self, by rw [hf, z]⟩)
    have nF : a ∉ X.fs := fun hm => by
      obtain ⟨e, he, q⟩ := List.mem_filterMap.mp hm
      exact nfr (List.mem_filterMap.mpr ⟨e, List.mem_cons_of_mem _ he, q⟩)
    have S3 := J3.suite he3 hd3 na nL nF
    have LT : PySem.W.Looks (model X.prog X.w) h3 (typeOf (.ref a)) cls := fun A Q E s k q => wpAny_typeOf_ref (k _ _ he3) (by rw [hz3.1]; exact q)
    have go : ∀ {hds' : List ExceptHandler} {l' : List (Value × (Addr → Value → Option Addr → TS))}, Clauses X n hds' l' → wAsMany X.K i D l' cls d σ' H' →
        wpAny (model X.prog X.w) X.A (handleBy (.ref a) X.env hds') (SP X pins D) X.xe { s' with heap := h3 } := by
      intro hds' l' hk
      induction hk with
      | nil => exact fun w => w.elim
      | @cons x c b0 su np pos' hds2 l2 hc r ih =>
        intro w
        obtain ⟨b, hb1, hyes, hno⟩ := w
        refine wpAny_handleBy_cons (codeAny_handlers_test ?_) (by intro q; cases q)
        have LM := PySem.W.exm_one (M := model X.prog X.w) (J3.kIn) LT hb1
        have test : ∀ {Q : Value → Shared → Prop} {E : Value → Shared → Prop}, Q c { s' with heap := h3 } → wpAny (model X.prog X.w) (X.A.mark (some (.ref a))) (eval (.Name x np) X.env) Q E { s' with heap := h3 } := fun {Q E} q => by
          obtain ⟨hg, hdbg, hm | ⟨hm, hv, hnn⟩⟩ := hc
          · exact ld_glob (X := X.suite a ((a, oe3) :: (X.pn ++ pins))) S3 hg hm q hdbg
          · exact ld_blt (X := X.suite a ((a, oe3) :: (X.pn ++ pins))) S3 hg hm hv q hnn hdbg
        refine test (LM.here ?_)
        cases b with
        | false =>
          show wpAny _ X.A (handleBy (.ref a) X.env hds2) _ _ _
          exact ih (hno rfl)
        | true =>
          refine codeAny_handlers_suite_as ?_
          refine HandSPX.lands_againZ fl3 fun h4 fl4 up4 => ?_
          have J4 : Inv X pins σ' H' { s' with heap := h4 } := J.landed nb fl4.1 ((up.trans up3).trans up4) os ag
          obtain ⟨oe4, vs4, he4, hz4, hd4⟩ := fl4.there
          have S4 := J4.suite he4 hd4 na nL nF
          refine store_ok (X := X.suite a ((a, oe4) :: (X.pn ++ pins))) (v := .ref a) S4 hN hi (.inl hln) rfl (fun s5 S5 => ?_) (.inr hln)
          have hy := hyes rfl (by rw [J.len]; exact (List.getElem?_eq_some_iff.mp hi).1) a na oe4 (X.pn ++ pins) hz4 ⟨_, hd4⟩
          refine wpAny_mono (pss_w.run [] s5 _ H' _ S5 hy) (fun f s6 hsp => ?_) (fun _ _ z => False.elim z)
          have done : ∀ {σ6 : L2.St} {H6 : Hp} {Q : Shared → Prop}, Inv (X.suite a ((a, oe4) :: (X.pn ++ pins))) [] σ6 H6 s6 → (∀ s7, Inv X pins (σ6.set i none) H6 s7 → Q s7) →
              wpAny (model X.prog X.w) X.A (do bindName X.env n .none; unbindBehindTheSuite X.env n pos') (fun _ s7 => Q s7) X.xe s6 := fun {σ6 H6 Q} S6 hq => gone_ok (S6.unsuite ok) hN hi hln hq
          cases f with
          | next =>
            obtain ⟨σ6, H6, S6, q6⟩ := hsp
            exact done S6 fun s7 J7 => ⟨_, _, J7, q6⟩
          | brk =>
            obtain ⟨σ6, H6, S6, q6⟩ := hsp
            exact done S6 fun s7 J7 => ⟨_, _, J7, q6⟩
          | cont =>
            obtain ⟨σ6, H6, S6, q6⟩ := hsp
            exact done S6 fun s7 J7 => ⟨_, _, J7, q6⟩
          | ret u =>
            obtain ⟨v6, σ6, H6, S6, r6, q6⟩ := hsp
            exact done S6 fun s7 J7 => ⟨_, _, _, J7, r6, q6⟩
    exact go hh w
  · cases f with
    | next =>
      obtain ⟨σ', H', J', q⟩ := hsp
      exact wpAny_execs_nil ⟨σ', H', J'.ofTry ok, q⟩
    | brk =>
      obtain ⟨σ', H', J', q⟩ := hsp
      exact ⟨σ', H', J'.ofTry ok, q⟩
    | cont =>
      obtain ⟨σ', H', J', q⟩ := hsp
      exact ⟨σ', H', J'.ofTry ok, q⟩
    | ret u =>
      obtain ⟨v, σ', H', J', r, q⟩ := hsp
      exact ⟨v, σ', H', J'.ofTry ok, r, q⟩
end
end DL

namespace DL
open PySem PySem.Spec PyProof.Rows L2

/-! ### lambdas handed to _law_tried -/
def noTbl : Option HO → Option HO
  | some (.tbl _) => none
  | x => x
theorem noTbl_ne {x : Option HO} {ps : Array Value} : noTbl x ≠ some (.tbl ps) := by
  cases x with
  | none => intro z; cases z
  | some o => cases o <;> intro z <;> cases z
theorem noTbl_some {o : HO} (h : ∀ ps, o ≠ .tbl ps) : noTbl (some o) = some o := by
  cases o with
  | tbl ps => exact absurd rfl (h ps)
  | _ => rfl
open Classical in
theorem St0.lam {m : Pm} {F G H H1 : Hp} (s : St0 m F G H) (e : LamX.ExtN H H1) (t : LamX.Tabs m.T H1) : ∃ G1, Same G G1 ∧ St0 m F G1 H1 := by
  have key : ∀ a o, G a = some o → H1 a = some o ∧ F a = none ∧ m.B ≠ some a ∧ ∀ p ∈ m.T, p.1 ≠ a := fun a o q => by
    refine ⟨e a o (s.same a o q) fun ps z => s.ntG a ps (by rw [q, z]), ?_, fun z => ?_, fun p hp z => ?_⟩
    · cases f : F a with
      | none => rfl
      | some u => rw [(s.fr a u f).2] at q; cases q
    · rw [(s.bag a z).2.1] at q
      cases q
    · rw [← z, (s.tab p hp).2.1] at q
      cases q
  have sm : Same G (fun a => if F a = none ∧ m.B ≠ some a ∧ (∀ p ∈ m.T, p.1 ≠ a) then noTbl (H1 a) else none) := fun a o q => by
    obtain ⟨h1, h2, h3, h4⟩ := key a o q
    show (if F a = none ∧ m.B ≠ some a ∧ (∀ p ∈ m.T, p.1 ≠ a) then noTbl (H1 a) else none) = some o
    rw [if_pos ⟨h2, h3, h4⟩, h1]
    exact noTbl_some fun ps z => s.ntG a ps (by rw [q, z])
  refine ⟨_, sm, fun a o q => ?_, fun b q => ?_, fun p hp => ?_, fun a h1 h2 h3 => ?_, fun a ps q => ?_, s.ntF⟩
  · refine ⟨e a o (s.fr a o q).1 fun ps z => s.ntF a ps (by rw [q, z]), ?_⟩
    show (if F a = none ∧ m.B ≠ some a ∧ (∀ p ∈ m.T, p.1 ≠ a) then noTbl (H1 a) else none) = none
    exact if_neg fun z => by rw [q] at z; cases z.1
  · obtain ⟨x1, x2, x3⟩ := s.bag b q
    refine ⟨?_, ?_, x3⟩
    · obtain ⟨c, ns, i, j, sv, tt, y1, y2, y3⟩ := x1
      exact ⟨c, ns, i, j, sv, tt, e _ _ y1 (lst_tbl ·), sm _ _ y2, y3⟩
    · show (if F b = none ∧ m.B ≠ some b ∧ (∀ p ∈ m.T, p.1 ≠ b) then noTbl (H1 b) else none) = none
      exact if_neg fun z => z.2.1 q
  · refine ⟨t p hp, ?_, (s.tab p hp).2.2⟩
    show (if F p.1 = none ∧ m.B ≠ some p.1 ∧ (∀ q ∈ m.T, q.1 ≠ p.1) then noTbl (H1 p.1) else none) = none
    exact if_neg fun z => z.2.2 p hp rfl
  · show H1 a = (if F a = none ∧ m.B ≠ some a ∧ (∀ p ∈ m.T, p.1 ≠ a) then noTbl (H1 a) else none) ∨ ((∃ ps, H1 a = some (.tbl ps)) ∧ (if F a = none ∧ m.B ≠ some a ∧ (∀ p ∈ m.T, p.1 ≠ a) then noTbl (H1 a) else none) = none)
    rw [if_pos ⟨h1, h2, h3⟩]
    cases q : H1 a with
    | none => exact .inl rfl
    | some o =>
      cases o with
      | tbl ps => exact .inr ⟨⟨ps, rfl⟩, rfl⟩
      | _ => exact .inl rfl
  · have q' : (if F a = none ∧ m.B ≠ some a ∧ (∀ p ∈ m.T, p.1 ≠ a) then noTbl (H1 a) else none) = some (.tbl ps) := q
    split at q'
    · exact noTbl_ne q'
    · cases q'
/-- what the clauses of _law_tried make of an exception -/
def HCase (K : PySem.W.Frag) (C1 C2 C3 C4 : Addr) (Q : VK) : XK := fun cls d H' =>
  ∃ (C dd : Addr) (fs : List (Str × V)) (w : V), cls = .ref C ∧ d = some dd ∧ H' dd = some (.xd fs) ∧ XfC K C ∧ PySem.W.findIn K (.ref C) "word" = some none ∧ fs.lookup ("word" : Str) = some w ∧
    (((PySem.W.exmOne K cls (.ref C1) = some true ∨ (PySem.W.exmOne K cls (.ref C1) = some false ∧ PySem.W.exmOne K cls (.ref C2) = some true)) ∧ PySem.W.findIn K (.ref C) "at" = some none ∧ ∃ v, fs.lookup ("at" : Str) = some v ∧ ∀ p, H' p = none → Q (.ref p) (upd H' p (.tup [w, v]))) ∨
      ((PySem.W.exmOne K cls (.ref C1) = some false ∧ PySem.W.exmOne K cls (.ref C2) = some false ∧ (PySem.W.exmOne K cls (.ref C3) = some true ∨ (PySem.W.exmOne K cls (.ref C3) = some false ∧ PySem.W.exmOne K cls (.ref C4) = some true))) ∧ ∀ p, H' p = none → Q (.ref p) (upd H' p (.tup [w]))))
section
variable {X : Cx} {a : Addr} {cls : Value} {d : Option Addr} {p1 p2 p3 p4 p5 p6 : Pos} {k1 : Nat}
/-- return (e.word, e.at) -/
theorem su_two {C dd : Addr} {fs : List (Str × V)} {w v : V} {D : Ends} {σ : L2.St} {H : Hp} (hN : X.N[1]? = some ("e" : Str)) (hv : Vis X.env.scope "e") (T : XfC X.K C) (n1 : PySem.W.findIn X.K (.ref C) "word" = some none) (n2 : PySem.W.findIn X.K (.ref C) "at" = some none)
    (hc : cls = .ref C) (hd : d = some dd) (hH : H dd = some (.xd fs)) (l1 : fs.lookup ("word" : Str) = some w) (l2 : fs.lookup ("at" : Str) = some v) (hσ : σ[1]? = some (some (.ref a))) (q : ∀ p, H p = none → D.rt (.ref p) (upd H p (.tup [w, v]))) :
    wSu X [.Return (some (.Tuple [.Attribute (.Name "e" p1) "word" p2, .Attribute (.Name "e" p3) "at" p4] k1 p5)) p6] a cls d D σ H := fun oe pn hz hf =>
  ⟨_, pss_one (ps_ret (pe_tup (pa_cons (pe_xf T n1 hz hf (pe_var (X := X.suite a ((a, oe) :: pn)) (i := 1) hN hv (by kernel_rfl) (by kernel_rfl)) (by kernel_rfl)) (pa_cons (pe_xf T n2 hz hf (pe_var (X := X.suite a ((a, oe) :: pn)) (i := 1) hN hv (by kernel_rfl) (by kernel_rfl)) (by kernel_rfl)) pa_nil)))),
    .ref a, hσ, rfl, hc, dd, fs, w, hd, hH, l1, .ref a, hσ, rfl, hc, dd, fs, v, hd, hH, l2, by show 2 ≤ sizeLine; decide, q⟩
theorem su_one {C dd : Addr} {fs : List (Str × V)} {w : V} {D : Ends} {σ : L2.St} {H : Hp} (hN : X.N[1]? = some ("e" : Str)) (hv : Vis X.env.scope "e") (T : XfC X.K C) (n1 : PySem.W.findIn X.K (.ref C) "word" = some none)
    (hc : cls = .ref C) (hd : d = some dd) (hH : H dd = some (.xd fs)) (l1 : fs.lookup ("word" : Str) = some w) (hσ : σ[1]? = some (some (.ref a))) (q : ∀ p, H p = none → D.rt (.ref p) (upd H p (.tup [w]))) :
    wSu X [.Return (some (.Tuple [.Attribute (.Name "e" p1) "word" p2] k1 p5)) p6] a cls d D σ H := fun oe pn hz hf =>
  ⟨_, pss_one (ps_ret (pe_tup (pa_cons (pe_xf T n1 hz hf (pe_var (X := X.suite a ((a, oe) :: pn)) (i := 1) hN hv (by kernel_rfl) (by kernel_rfl)) (by kernel_rfl)) pa_nil))),
    .ref a, hσ, rfl, hc, dd, fs, w, hd, hH, l1, by show 1 ≤ sizeLine; decide, q⟩
end
/-- the body of _law_tried, by its places -/
abbrev triedB (k0 k1 k2 k3 k4 : Nat) (k5 : Nat) (ps : Nat → Pos) : List Stmt :=
  [.Try [.Return (some (.Tuple [.Constant (.str "told") k0 (ps 0), .Call (.Name "_law_act" (ps 1)) [] [] (ps 2)] k1 (ps 3))) (ps 4)]
    [.ExceptHandler (some (.Name "BadTable" (ps 5))) (some "e") [.Return (some (.Tuple [.Attribute (.Name "e" (ps 6)) "word" (ps 7), .Attribute (.Name "e" (ps 8)) "at" (ps 9)] k2 (ps 10))) (ps 11)] (ps 12),
     .ExceptHandler (some (.Name "BadSheet" (ps 13))) (some "e") [.Return (some (.Tuple [.Attribute (.Name "e" (ps 14)) "word" (ps 15), .Attribute (.Name "e" (ps 16)) "at" (ps 17)] k3 (ps 18))) (ps 19)] (ps 20),
     .ExceptHandler (some (.Name "LagError" (ps 21))) (some "e") [.Return (some (.Tuple [.Attribute (.Name "e" (ps 22)) "word" (ps 23)] k4 (ps 24))) (ps 25)] (ps 26),
     .ExceptHandler (some (.Name "WorksError" (ps 27))) (some "e") [.Return (some (.Tuple [.Attribute (.Name "e" (ps 28)) "word" (ps 29)] k5 (ps 30))) (ps 31)] (ps 32)] [] [] (ps 33)]
/-- what is known of _law_tried and of the classes that it names -/
structure Tried (g : Gm) : Prop where
  ex : ∃ (f : Addr) (fd : FuncData) (params : Arguments) (scope : Scope) (k0 k1 k2 k3 k4 k5 : Nat) (ps : Nat → Pos), FunD g.K "_law_tried" "_law_tried" params (triedB k0 k1 k2 k3 k4 k5 ps) scope [] [] f fd ∧ g.mg "_law_tried" = some (.ref f) ∧
    FnScope ["_law_act", "e"] ["_law_act"] scope ∧ Binds g.K fd ["_law_act"] [] ∧ scope.names.lookup ("_law_act" : Str) = some .local ∧ scope.names.lookup ("e" : Str) = some .local ∧
    (∀ x : Str, x = "BadTable" ∨ x = "BadSheet" ∨ x = "LagError" ∨ x = "WorksError" → scope.names.lookup x = some .globalImplicit)
  cl : ∃ C1 C2 C3 C4 : Addr, g.mg "BadTable" = some (.ref C1) ∧ g.mg "BadSheet" = some (.ref C2) ∧ g.mg "LagError" = some (.ref C3) ∧ g.mg "WorksError" = some (.ref C4)
def TT4 (K : PySem.W.Frag) (C1 C2 C3 C4 : Addr) : (XK → Hp → VK → Prop) → Hp → VK → Prop := fun tl H Q =>
  tl (HCase K C1 C2 C3 C4 Q) H (fun v H' => ([.str "told", v] : List V).length ≤ sizeLine ∧ ∀ p, H' p = none → Q (.ref p) (upd H' p (.tup [.str "told", v])))
theorem gives4 {X : Cx} {sg : Scope} {g C1 C2 C3 C4 : Addr} {cdg : Value} {q : Str} {k0 k1 k2 k3 k4 k5 : Nat} {ps : Nat → Pos} (h1 : X.mg "BadTable" = some (.ref C1)) (h2 : X.mg "BadSheet" = some (.ref C2)) (h3 : X.mg "LagError" = some (.ref C3)) (h4 : X.mg "WorksError" = some (.ref C4))
    (hS : FnScope ["_law_act", "e"] ["_law_act"] sg) (he : sg.names.lookup ("e" : Str) = some .local) (hg : ∀ x : Str, x = "BadTable" ∨ x = "BadSheet" ∨ x = "LagError" ∨ x = "WorksError" → sg.names.lookup x = some .globalImplicit) :
    LamX.GivesTo X ["_law_act", "e"] "_law_tried" sg g cdg (triedB k0 k1 k2 k3 k4 k5 ps) "_law_act" q (TT4 X.K C1 C2 C3 C4) := by
  intro f c' s H Q tl act hc h
  generalize hZ : (cxOf C8.CX0 X.prog X.w X.K X.mg X.base ["_law_act", "e"] "_law_tried" sg g cdg X.A X.stack s H C8.E0) = Z at act
  have zK : Z.K = X.K := by rw [← hZ]; rfl
  have zmg : Z.mg = X.mg := by rw [← hZ]; rfl
  have zN : Z.N = (["_law_act", "e"] : List Str) := by rw [← hZ]; rfl
  have zsc : Z.env.scope = sg := by rw [← hZ]; rfl
  have zst : Z.stack = Z.env :: Z.outer := by rw [← hZ]; rfl
  have zfr : Z.env.frame = some Z.env.locals := by rw [← hZ]; rfl
  have nm : ∀ (x : Str) (C : Addr), (x = "BadTable" ∨ x = "BadSheet" ∨ x = "LagError" ∨ x = "WorksError") → (x == ("__debug__" : Str)) = false → X.mg x = some (.ref C) → Names Z.nox x (.ref C) := fun x C hx hd hm => ⟨by
    show Z.env.scope.names.lookup x = _
    rw [zsc]
    exact hg x hx, hd, .inl (by show Z.mg x = _; rw [zmg]; exact hm)⟩
  have hve : Vis Z.nox.env.scope "e" := .inl (by rw [zsc]; exact he)
  have hNe : Z.nox.N[1]? = some ("e" : Str) := by
    show Z.N[1]? = _
    rw [zN]
    rfl
  refine ⟨_, pss_one (ps_tryAs (X := Z.nox) (n := "e") (i := 1)
      (tb := fun W D σ H => ∃ Ech : XK, (∀ cls d σ' H', Ech cls d H' → W cls d σ' H') ∧ σ[0]? = some (some (.ref f)) ∧ H c' = some (LamX.CodeO c' q) ∧ tl Ech H fun v H' => ([.str "told", v] : List V).length ≤ sizeLine ∧ ∀ p, H' p = none → D.rt (.ref p) (upd H' p (.tup [.str "told", v])))
      zst zfr (by rw [zN]; exact hS.nd) hNe (by show Z.env.scope.names.lookup _ = _; rw [zsc]; exact he) (fun W pn xe tk => ?_)
      (.cons (nm _ C1 (.inl rfl) (by kernel_rfl) h1) (.cons (nm _ C2 (.inr (.inl rfl)) (by kernel_rfl) h2) (.cons (nm _ C3 (.inr (.inr (.inl rfl))) (by kernel_rfl) h3) (.cons (nm _ C4 (.inr (.inr (.inr rfl))) (by kernel_rfl) h4) .nil))))), ?_⟩
  · refine ⟨fun pins s' σ H' D I h' => ?_⟩
    obtain ⟨Ech, hW, x1, x2, x3⟩ := h'
    have hp := act W pn xe Ech (ps 1) (ps 2) tk hW
    have hq := pss_one (ps_ret (pos := ps 4) (pe_tup (x1 := k1) (pos := ps 3) (pa_cons (pe_str (x := "told") (j := k0) (pos := ps 0)) (pa_cons hp pa_nil))))
    exact hq.run pins s' σ H' D I ⟨x1, x2, x3⟩
  · refine ⟨HCase X.K C1 C2 C3 C4 Q, fun cls d σ' H' hcase => ?_, rfl, hc, h⟩
    obtain ⟨C, dd, fs, w, e1, e2, e3, T, n1, l1, r⟩ := hcase
    have T' : XfC Z.nox.K C := by rw [zK]; exact T
    have n1' : PySem.W.findIn Z.nox.K (.ref C) "word" = some none := by rw [zK]; exact n1
    have hset : ∀ a : Addr, 1 < σ'.length → (σ'.set 1 (some (V.ref a)))[1]? = some (some (.ref a)) := fun a hl => List.getElem?_set_self hl
    have two : ∀ {D : Ends} {v : V} (a : Addr) {p1 p2 p3 p4 p5 p6 : Pos} {kk : Nat}, D.rt = Q → 1 < σ'.length → PySem.W.findIn X.K (.ref C) "at" = some none → fs.lookup ("at" : Str) = some v → (∀ p, H' p = none → Q (.ref p) (upd H' p (.tup [w, v]))) →
        wSu Z.nox [.Return (some (.Tuple [.Attribute (.Name "e" p1) "word" p2, .Attribute (.Name "e" p3) "at" p4] kk p5)) p6] a cls d D (σ'.set 1 (some (V.ref a))) H' := fun {D v} a {p1 p2 p3 p4 p5 p6 kk} hD hl n2 l2 q =>
      su_two hNe hve T' n1' (by rw [zK]; exact n2) e1 e2 e3 l1 l2 (hset a hl) (by rw [hD]; exact q)
    have one : ∀ {D : Ends} (a : Addr) {p1 p2 p5 p6 : Pos} {kk : Nat}, D.rt = Q → 1 < σ'.length → (∀ p, H' p = none → Q (.ref p) (upd H' p (.tup [w]))) →
        wSu Z.nox [.Return (some (.Tuple [.Attribute (.Name "e" p1) "word" p2] kk p5)) p6] a cls d D (σ'.set 1 (some (V.ref a))) H' := fun {D} a {p1 p2 p5 p6 kk} hD hl q =>
      su_one hNe hve T' n1' e1 e2 e3 l1 (hset a hl) (by rw [hD]; exact q)
    have ex : ∀ {c : Value} {b : Bool}, PySem.W.exmOne X.K cls c = some b → PySem.W.exmOne Z.nox.K cls c = some b := fun {c b} h => by rw [zK]; exact h
    rcases r with ⟨r, n2, v, l2, q⟩ | ⟨⟨r1, r2, r⟩, q⟩
    · rcases r with r | ⟨r1, r⟩
      · exact ⟨true, ex r, fun _ hl a _ => two a rfl hl n2 l2 q, fun z => nomatch z⟩
      · exact ⟨false, ex r1, fun z => (nomatch z), fun _ => ⟨true, ex r, fun _ hl a _ => two a rfl hl n2 l2 q, fun z => nomatch z⟩⟩
    · rcases r with r | ⟨r3, r⟩
      · exact ⟨false, ex r1, fun z => (nomatch z), fun _ => ⟨false, ex r2, fun z => (nomatch z), fun _ => ⟨true, ex r, fun _ hl a _ => one a rfl hl q, fun z => nomatch z⟩⟩⟩
      · exact ⟨false, ex r1, fun z => (nomatch z), fun _ => ⟨false, ex r2, fun z => (nomatch z), fun _ => ⟨false, ex r3, fun z => (nomatch z), fun _ => ⟨true, ex r, fun _ hl a _ => one a rfl hl q, fun z => nomatch z⟩⟩⟩⟩
def noOwn : List En → Bool
  | [] => true
  | .own _ :: _ => false
  | _ :: r => noOwn r
theorem noOwn_ne : ∀ {ρ : List En} {i : Nat} {ds : List D}, noOwn ρ = true → ρ[i]? = some (.own ds) → False
  | [], _, _, _, h => by simp at h
  | .own _ :: _, _, _, h, _ => by cases h
  | .un :: r, 0, _, _, h => by simp at h
  | .dat _ :: r, 0, _, _, h => by simp at h
  | .bag :: r, 0, _, _, h => by simp at h
  | .un :: r, i + 1, _, h, e => noOwn_ne (ρ := r) (i := i) h (by simpa using e)
  | .dat _ :: r, i + 1, _, h, e => noOwn_ne (ρ := r) (i := i) h (by simpa using e)
  | .bag :: r, i + 1, _, h, e => noOwn_ne (ρ := r) (i := i) h (by simpa using e)
/-- the frame of a lambda's body -/
abbrev Ctx.lamc (Γ : Ctx) (scope : Scope) (k : Nat) : Ctx := { Γ with sc := scope, k := k, top := false, lam := none }
/-- by which clause an exception of the class x is caught: two: its at is told, too -/
structure Caught (g : Gm) (x : Str) (two : Bool) : Prop where
  ex : ∃ C C1 C2 C3 C4 : Addr, g.mg x = some (.ref C) ∧ g.mg "BadTable" = some (.ref C1) ∧ g.mg "BadSheet" = some (.ref C2) ∧ g.mg "LagError" = some (.ref C3) ∧ g.mg "WorksError" = some (.ref C4) ∧ XfC g.K C ∧ PySem.W.findIn g.K (.ref C) "word" = some none ∧
    ((two = true ∧ (PySem.W.exmOne g.K (.ref C) (.ref C1) = some true ∨ (PySem.W.exmOne g.K (.ref C) (.ref C1) = some false ∧ PySem.W.exmOne g.K (.ref C) (.ref C2) = some true)) ∧ PySem.W.findIn g.K (.ref C) "at" = some none) ∨
      (two = false ∧ PySem.W.exmOne g.K (.ref C) (.ref C1) = some false ∧ PySem.W.exmOne g.K (.ref C) (.ref C2) = some false ∧ (PySem.W.exmOne g.K (.ref C) (.ref C3) = some true ∨ (PySem.W.exmOne g.K (.ref C) (.ref C3) = some false ∧ PySem.W.exmOne g.K (.ref C) (.ref C4) = some true))))
theorem lookup_dp {K : PySem.W.Frag} {G : Hp} {x : Str} : ∀ {fs : List (Str × V)} {ds : List (Str × D)} {d : D}, fs.map (·.1) = ds.map (·.1) → DpAll K G (fs.map (·.2)) (ds.map (·.2)) → ds.lookup x = some d → ∃ v, fs.lookup x = some v ∧ Dp K G v d
  | [], [], _, _, _, h => by cases h
  | [], _ :: _, _, h, _, _ => by cases h
  | _ :: _, [], _, h, _, _ => by cases h
  | (y, v) :: fs, (z, d0) :: ds, d, h, hd, hl => by
    have h1 : y = z := (List.cons.inj h).1
    have h2 : fs.map (·.1) = ds.map (·.1) := (List.cons.inj h).2
    subst h1
    cases hd with
    | cons a r =>
      rw [List.lookup_cons] at hl ⊢
      cases q : (x == y) with
      | true =>
        rw [q] at hl
        cases hl
        exact ⟨v, rfl, a⟩
      | false =>
        rw [q] at hl
        exact lookup_dp h2 r hl
section
variable {Γ : Ctx} {Ψ Ψ1 : Exc → Prop} {ρ : List En} {body : Expr} {pos pp lpos : Pos} {Φ Φ1 : D → Prop} {params : Arguments} {scope : Scope} {c P : Addr} {q : Str} {k : Nat}
theorem ev_tried (tr : Tried Γ.g) (hlam : Γ.lam = some (c, P, q)) (hT : (P, q) ∈ Γ.g.T) (hu : ∀ p ∈ Γ.g.T, p.1 = P → p.2 = q) (hb : EV (Γ.lamc scope k) Ψ1 ρ body Φ1) (hΦ : ∀ d, Φ1 d → Φ (.tuple [.str "told", d]))
    (hΨ : ∀ x, Ψ1 x → ∃ two w, Caught Γ.g x.1 two ∧ x.2.lookup ("word" : Str) = some w ∧ ((two = true ∧ ∃ v, x.2.lookup ("at" : Str) = some v ∧ Φ (.tuple [w, v])) ∨ (two = false ∧ Φ (.tuple [w]))))
    (hno : noOwn ρ = true := by kernel_rfl) (hk : Nat.ble (k + 2) Γ.k = true := by kernel_rfl) (hg : glB Γ.sc "_law_tried" = true := by kernel_rfl) (hL : LamX.lamSB Γ.sc scope = true := by kernel_rfl) (hdef : ∀ env, defaultsOf params env = ([], []) := by intro _; kernel_rfl)
    (hbind : ∀ (q : Str) (cl : List (Str × Addr)) (pm cv ctv : Value), bindArgs (PySem.W.kla_fn "<lambda>" q params body scope cl pm cv ctv) ⟨[], []⟩ = pure [] := by intro _ _ _ _ _; kernel_rfl) :
    EV Γ Ψ ρ (.Call (.Name "_law_tried" pp) [.Lambda params body scope lpos] [] pos) Φ := ⟨fun {X m F0 G0 F ow σ G H} s Q qq => by
  obtain ⟨f, fd, prm, sg, k0, k1, k2, k3, k4, k5, ps, FD, hm, hS, hB, hva, hve, hgl⟩ := tr.ex
  obtain ⟨C1, C2, C3, C4, m1, m2, m3, m4⟩ := tr.cl
  obtain ⟨oc, od, dV, kV, doc, pm, an, cdv, ct, osl, rfl, lk, hcd, _, _⟩ := FD.ex
  have K1 := s.f.K
  have M1 := s.f.mg
  obtain ⟨hcode, hTB, hq⟩ := s.f.lam c P q hlam
  have hmT : m.T = Γ.g.T := s.x.T
  refine ⟨_, LamX.pe_lamcall (T := m.T) (TT := TT4 X.K C1 C2 C3 C4) (k := k) (a := "_law_act") (t := fun E σ' H' Q' => ∀ (A : Around) (outer : List Env) (s1 : Shared) (H1 : Hp) (f1 c1 : Addr), Room k (A.deeper (LamX.lamEnv X scope s1.heap.objs.size f1 c1)) → wE (LamX.lamCx X A outer s1 H1 E scope f1 c1) body σ' H' Q') (s.f.gl hg) (by rw [M1]; exact hm) (by rw [K1]; exact FD.kp) (by rw [K1]; exact lk) (by rw [K1]; exact hcd) (by rw [K1]; exact hB) hS rfl (.inl hva)
    (gives4 (by rw [M1]; exact m1) (by rw [M1]; exact m2) (by rw [M1]; exact m3) (by rw [M1]; exact m4) hS hve hgl) hTB hcode (by rw [hmT, hq]; exact hT) (fun p hp e => by rw [hq]; exact hu p (by rw [← hmT]; exact hp) e) (s.f.room.mono (Nat.le_of_ble_eq_true hk)) (LamX.lamS_by (by rw [s.f.sc]; exact hL)) (hdef _) hbind
    (fun A outer s1 H1 E f1 c1 hr => ⟨fun pins s2 σ2 H2 Q2 I h => pe_w.run pins s2 σ2 H2 Q2 I (h A outer s1 H1 f1 c1 hr)⟩) (by kernel_rfl) (by kernel_rfl) (by kernel_rfl), ?_⟩
  refine ⟨fun p hp => (s.st.tab p hp).1, fun H1 eN hT1 => ?_⟩
  obtain ⟨G1, e1, st1⟩ := s.st.lam eN hT1
  intro A outer s1 H1' f1 c1 hr
  have hX : Fr (Γ.lamc scope k) (LamX.lamCx X A outer s1 H1' (HCase X.K C1 C2 C3 C4 Q) scope f1 c1) :=
    ⟨s.f.prog, s.f.w, s.f.K, s.f.mg, s.f.base, s.f.N, rfl, hr, fun z => Bool.noConfusion z, fun z => Bool.noConfusion z, fun _ _ _ z => nomatch z⟩
  have tk : Takes (LamX.lamCx X A outer s1 H1' (HCase X.K C1 C2 C3 C4 Q) scope f1 c1) (fun cls d _ H' => ExcPost m F G1 Ψ1 cls d H') := by
    refine (takes_of (X := LamX.lamCx X A outer s1 H1' (HCase X.K C1 C2 C3 C4 Q) scope f1 c1) rfl rfl rfl rfl).imp fun cls d σ' H' z => ?_
    obtain ⟨x, G', dd, fs, y1, y2, y3, y4, y5, y6, y7, y8⟩ := z
    obtain ⟨two, w, ⟨⟨C, D1, D2, D3, D4, z0, z1, z2, z3, z4, z5, z6, z7⟩⟩, hw, hres⟩ := hΨ x y1
    rw [m1] at z1; cases z1
    rw [m2] at z2; cases z2
    rw [m3] at z3; cases z3
    rw [m4] at z4; cases z4
    rw [s.mg, z0] at y2
    cases y2
    obtain ⟨vw, lw, dw⟩ := lookup_dp y7 y8 hw
    refine ⟨C, dd, fs, vw, rfl, y3, y5.same _ _ y6, by rw [K1]; exact z5, by rw [K1]; exact z6, lw, ?_⟩
    rw [K1]
    have fin : ∀ (vs : List V) (dl : List D), DpAll m.K G' vs dl → Φ (.tuple dl) → ∀ p, H' p = none → Q (.ref p) (upd H' p (.tup vs)) := fun vs dl hdl hφ p hp => by
      have hG := y5.freshG hp
      exact qq _ _ (upd G' p (.tup vs)) _ hφ ((e1.trans y4).trans (same_upd hG)) (y5.alloc hp) (.tup (SqT.of upd_same) (dps_mono (same_upd hG) hdl))
    rcases hres with ⟨ht, v, lv, hφ⟩ | ⟨ht, hφ⟩
    · rcases z7 with ⟨_, z8, z9⟩ | ⟨z8, _⟩
      · obtain ⟨va, la, da⟩ := lookup_dp y7 y8 lv
        exact .inl ⟨z8, z9, va, la, fin _ _ (.cons dw (.cons da .nil)) hφ⟩
      · rw [ht] at z8
        cases z8
    · rcases z7 with ⟨z8, _⟩ | ⟨_, z8, z9, z10⟩
      · rw [ht] at z8
        cases z8
      · exact .inr ⟨⟨z8, z9, z10⟩, fin _ _ (.cons dw .nil) hφ⟩
  have xo : XOk Γ.g.T (LamX.lamCx X A outer s1 H1' (HCase X.K C1 C2 C3 C4 Q) scope f1 c1) m F G1 Ψ1 := ⟨s.x.K, s.x.mg, s.x.T, s.x.nd, rfl, passes_of (K := fun e s'' => L2.CX X.prog X.w outer H1' s1 (HCase X.K C1 C2 C3 C4 Q) e s'') rfl, tk⟩
  have sl1 : Slots m F F ow ρ σ G1 := ⟨s.sl.len, fun i en hi => (s.sl.ok i en hi).mono e1, s.sl.inj, fun _ _ z => z, fun i ds hi => (noOwn_ne hno hi).elim⟩
  refine hb.run (F0 := F) (G0 := G1) ⟨hX, xo, Same.refl _, sl1, st1⟩ _ fun d v G2 H2 p2 e2 s2 d2 => ⟨by show 2 ≤ sizeLine; decide, fun p hp => ?_⟩
  have hG := s2.freshG hp
  exact qq _ _ (upd G2 p (.tup [.str "told", v])) _ (hΦ d p2) ((e1.trans e2).trans (same_upd hG)) (s2.alloc hp) (.tup (SqT.of upd_same) (dps_mono (same_upd hG) (.cons (.str _) (.cons d2 .nil))))⟩
end
end DL

namespace DL
open PySem PySem.Spec PyProof.Rows L2

/-! ### the law itself -/
/-- _law_bag(script): a new bag -/
def spBag (K : PySem.W.Frag) : Sp := fun vs H Q _ => ∃ (a : Addr) (ns : List Int), vs = [.ref a] ∧ SqL K H a (ns.map V.int) ∧ ns.length ≤ 63 ∧
  ∀ (H' : Hp) (b c : Addr) (salt : Int), Same H H' → H b = none → c ≠ b → H' c = some (.lst (ns.map V.int)) → H' b = some (.lst (bagL c 0 0 salt 0)) → 0 ≤ salt ∧ salt < 2147483563 → Q (.ref b) H'
structure BagFn (g : Gm) (k : Nat) : Prop where
  ex : ∃ (f : Addr) (fd : FuncData) (ps : List Str), g.mg "_law_bag" = some (.ref f) ∧ PySem.W.keepIn g.K (.ref f) = true ∧ Binds g.K fd ps [] ∧ FnOk g.P g.w g.K g.mg g.base (L2.CX g.P g.w) k f fd ps (spBag g.K)
/-- law(script): True -/
def spLaw (g : Gm) : Sp := fun vs H Q _ => ∃ (a : Addr) (ns : List Int), vs = [.ref a] ∧ SqL g.K H a (ns.map V.int) ∧ ns.length ≤ 63 ∧ (∀ p ∈ g.T, H p.1 = some (.tbl #[])) ∧ ∀ H', Q (.bl true) H'
open Classical in
theorem law_start {g : Gm} {H H' : Hp} {b c : Addr} {ns : List Int} {salt : Int} (hT : ∀ p ∈ g.T, H p.1 = some (.tbl #[])) (hl : ns.length ≤ 63) (sm : Same H H') (nb : H b = none) (ncb : c ≠ b) (hc : H' c = some (.lst (ns.map V.int))) (hb : H' b = some (.lst (bagL c 0 0 salt 0))) (hs : 0 ≤ salt ∧ salt < 2147483563) :
    ∃ G, St0 ⟨g.K, g.mg, some b, g.T⟩ (fun _ => none) G H' := by
  have nT : ∀ p ∈ g.T, p.1 ≠ b := fun p hp z => by rw [← z, hT p hp] at nb; cases nb
  have tb : ∀ p ∈ g.T, H' p.1 = some (.tbl #[]) := fun p hp => sm _ _ (hT p hp)
  refine ⟨fun a => if a = b ∨ (∃ p ∈ g.T, p.1 = a) then none else noTbl (H' a), fun _ _ z => (nomatch z), fun b' e => ?_, fun p hp => ?_, fun a _ h2 h3 => ?_, fun a ps q => ?_, fun _ _ z => nomatch z⟩
  · cases e
    refine ⟨⟨c, ns, 0, 0, salt, 0, hb, ?_, hl, Int.le_refl _, by omega, Int.le_refl _, hs.1, hs.2, Int.le_refl _⟩, ?_, rfl⟩
    · show (if c = b ∨ (∃ p ∈ g.T, p.1 = c) then none else noTbl (H' c)) = _
      rw [if_neg (fun z => by
        rcases z with z | ⟨p, hp, z⟩
        · exact ncb z
        · rw [← z, tb p hp] at hc
          cases hc), hc]
      rfl
    · show (if b = b ∨ (∃ p ∈ g.T, p.1 = b) then none else noTbl (H' b)) = none
      exact if_pos (.inl rfl)
  · refine ⟨LamX.TabS.nil (tb p hp), ?_, rfl⟩
    show (if p.1 = b ∨ (∃ q ∈ g.T, q.1 = p.1) then none else noTbl (H' p.1)) = none
    exact if_pos (.inr ⟨p, hp, rfl⟩)
  · show H' a = (if a = b ∨ (∃ p ∈ g.T, p.1 = a) then none else noTbl (H' a)) ∨ ((∃ ps, H' a = some (.tbl ps)) ∧ (if a = b ∨ (∃ p ∈ g.T, p.1 = a) then none else noTbl (H' a)) = none)
    rw [if_neg (fun z => by
      rcases z with z | ⟨p, hp, z⟩
      · exact h2 (by rw [z])
      · exact h3 p hp z)]
    cases q : H' a with
    | none => exact .inl rfl
    | some o =>
      cases o with
      | tbl ps => exact .inr ⟨⟨ps, rfl⟩, rfl⟩
      | _ => exact .inl rfl
  · have q' : (if a = b ∨ (∃ p ∈ g.T, p.1 = a) then none else noTbl (H' a)) = some (.tbl ps) := q
    split at q'
    · cases q'
    · exact noTbl_ne q'
theorem law_ok {g : Gm} {params : Arguments} {scope : Scope} {f : Addr} {fd : FuncData} {N : List Str} {k kb : Nat} {p1 p2 p3 p4 p5 : Pos} {rest : List Stmt} {lam : Option (Addr × Addr × Str)}
    (F : FunD g.K "law" "law" params (.Assign [.Name "_law_bag_here" p1] (.Call (.Name "_law_bag" p2) [.Name "_law_script" p3] [] p4) p5 :: rest) scope [] [] f fd) (S : FnScope ("_law_script" :: "_law_bag_here" :: N) ["_law_script"] scope)
    (hlam : ∀ c P q, lam = some (c, P, q) → fd.code = .ref c ∧ LamX.TabB g.base g.mg c P ∧ q = "law.<locals>.<lambda>") (bag : BagFn g kb) (hkb : kb ≤ k) (hgb : scope.names.lookup ("_law_bag" : Str) = some .globalImplicit) (hv1 : visB scope "_law_script" = true) (hl1 : locB scope true "_law_bag_here" = true)
    (hrest : SD ⟨g, "_law_script" :: "_law_bag_here" :: N, scope, k, true, lam⟩ NoX (.un :: .bag :: List.replicate N.length .un) rest { nx := fun _ => False, rt := fun r => r = .dat (.bool true) }) :
    FnOk g.P g.w g.K g.mg g.base (L2.CX g.P g.w) (k + 1) f fd ["_law_script"] (spLaw g) := by
  obtain ⟨oc, od, dV, kV, doc, pm, an, cdv, ct, osl, rfl, lk, hcd, _, _⟩ := F.ex
  refine fn_of lk hcd S (fun vs H Q E h => ?_) fun A outer s H vs Q E hr h => ?_
  · obtain ⟨a, ns, rfl, _⟩ := h
    rfl
  · obtain ⟨a, ns, rfl, hS, hl, hT, hQ⟩ := h
    obtain ⟨fb, fdb, psb, mb, kpb, bb, fob⟩ := bag.ex
    have hX : Fr ⟨g, "_law_script" :: "_law_bag_here" :: N, scope, k, true, lam⟩ (cxOf (L2.CX g.P g.w) g.P g.w g.K g.mg g.base ("_law_script" :: "_law_bag_here" :: N) "law" scope f cdv A outer s H E) :=
      ⟨rfl, rfl, rfl, rfl, rfl, rfl, rfl, hr, fun _ _ => rfl, fun _ => ⟨rfl, rfl⟩, fun c P q e => by
        obtain ⟨h1, h2, h3⟩ := hlam c P q e
        exact ⟨h1, h2, by rw [h3]; kernel_rfl⟩⟩
    generalize hXe : cxOf (L2.CX g.P g.w) g.P g.w g.K g.mg g.base ("_law_script" :: "_law_bag_here" :: N) "law" scope f cdv A outer s H E = X at hX
    have tk : Takes X (fun _ _ _ _ => False) := L2.takes0
    have hgX : Gl X "_law_bag" := by
      show X.env.scope.names.lookup _ = _
      rw [hX.sc]
      exact hgb
    have hp0 : Passes (L2.CX X.prog X.w) X E0 := passL
    refine ⟨_, pss_cons (ps_set (i := 1) (by rw [hX.N]; exact S.nd) (by rw [hX.N]; rfl) (hX.loc hl1).1 (pe_call (call_fr hX fob) (hX.room.mono hkb) hgX (by rw [hX.mg]; exact mb) (by rw [hX.K]; exact kpb) (by rw [hX.K]; exact bb) .nil hp0 (pa_cons (pe_var (i := 0) (by rw [hX.N]; rfl) (hX.vis hv1) (by kernel_rfl) (by kernel_rfl)) pa_nil) (by kernel_rfl)) (by kernel_rfl) (hX.loc hl1).2) pss_w, ?_⟩
    refine ⟨.ref a, rfl, a, ns, rfl, hS, hl, fun H' b c salt sm nb ncb hc hb hs => ?_⟩
    obtain ⟨G, st⟩ := law_start hT hl sm nb ncb hc hb hs
    have xo : XOk g.T X ⟨g.K, g.mg, some b, g.T⟩ (fun _ => none) G NoX := ⟨hX.K.symm, hX.mg.symm, rfl, by rw [hX.N]; exact S.nd, by rw [← hXe]; rfl, by rw [← hXe]; exact passes_of (K := fun e s'' => L2.CX g.P g.w outer H s E e s'') rfl, tk.imp fun _ _ _ _ ⟨_, _, _, _, z, _⟩ => z⟩
    have sl : Slots ⟨g.K, g.mg, some b, g.T⟩ (fun _ => none) (fun _ => none) (fun _ => 0) (.un :: .bag :: List.replicate N.length .un) ((L2.start ("_law_script" :: "_law_bag_here" :: N) [V.ref a]).set 1 (some (.ref b))) G := by
      have ne : ∀ (i : Nat) (ds : List D), (En.un :: En.bag :: List.replicate N.length En.un)[i]? ≠ some (En.own ds) := fun i ds z => by
        match i, z with
        | 0, z => cases z
        | 1, z => cases z
        | i + 2, z =>
          have z' : (List.replicate N.length En.un)[i]? = some (En.own ds) := z
          rw [List.getElem?_replicate] at z'
          split at z' <;> cases z'
      refine ⟨by simp [L2.start], fun i en hi => ?_, fun i j ds es hi => (ne i ds hi).elim, fun _ _ z => z, fun i ds hi => (ne i ds hi).elim⟩
      match i, hi with
      | 0, hi =>
        cases hi
        exact True.intro
      | 1, hi =>
        cases hi
        exact ⟨b, rfl, rfl⟩
      | i + 2, hi =>
        have hi' : (List.replicate N.length En.un)[i]? = some en := hi
        rw [List.getElem?_replicate] at hi'
        split at hi'
        · cases hi'
          exact True.intro
        · cases hi'
    have q := hrest.run (F0 := fun _ => none) (G0 := G) (ow := fun _ => 0) ⟨hX, xo, Same.refl _, sl, st⟩
    refine wSs_mono q (fun σ' H2 z => ?_) (fun v H2 z => ?_) (fun σ' H2 z => ?_) (fun σ' H2 z => ?_)
    · obtain ⟨_, _, _, _, z, _⟩ := z
      exact z.elim
    · obtain ⟨r, rfl, z⟩ := z
      obtain ⟨G2, _, _, dp⟩ := z
      cases dp
      exact hQ H2
    · obtain ⟨_, _, _, _, z, _⟩ := z
      exact z.elim
    · obtain ⟨_, _, _, _, z, _⟩ := z
      exact z.elim
end DL

namespace DL
open PySem PySem.Spec PyProof.Rows L2

/-! ### own exception classes by Bools of the head -/
def clsB (K : PySem.W.Frag) (x : Str) : Bool := oexB K (He.ga K x) && (xfB K (He.ga K x) && (He.eqO (PySem.W.findIn K (.ref (He.ga K x)) "word") (some none) && (He.eqO (PySem.W.findIn K (.ref (He.ga K x)) "at") (some none) &&
  (He.eqO (PySem.W.findIn K (.ref (He.ga K x)) "__init__") (some (some (.ref (He.ma K (He.ga K x) "__init__")))) && decide (PySem.W.typeIn K (.ref (He.ma K (He.ga K x) "__init__")) = some (.type "function"))))))
structure Cls (K : PySem.W.Frag) (x : Str) : Prop where
  oex : OexC K (He.ga K x)
  xf : XfC K (He.ga K x)
  word : PySem.W.findIn K (.ref (He.ga K x)) "word" = some none
  at_ : PySem.W.findIn K (.ref (He.ga K x)) "at" = some none
  init : PySem.W.findIn K (.ref (He.ga K x)) "__init__" = some (some (.ref (He.ma K (He.ga K x) "__init__")))
  ty : PySem.W.typeIn K (.ref (He.ma K (He.ga K x) "__init__")) = some (.type "function")
theorem clsB_ok {K : PySem.W.Frag} {x : Str} (h : clsB K x = true) : Cls K x := by
  obtain ⟨h1, h⟩ := He.ba h
  obtain ⟨h2, h⟩ := He.ba h
  obtain ⟨h3, h⟩ := He.ba h
  obtain ⟨h4, h⟩ := He.ba h
  obtain ⟨h5, h6⟩ := He.ba h
  exact ⟨oexB_ok h1, xfB_ok h2, He.eqO_ok h3, He.eqO_ok h4, He.eqO_ok h5, of_decide_eq_true h6⟩
end DL

namespace DL
open PySem PySem.Spec PyProof.Rows L2
section
variable {Γ : Ctx} {Ψ : Exc → Prop} {ρ ρ' : List En} {a b c e tg iter : Expr} {es : List Expr} {pos pos' pp p2 p3 tpos : Pos} {Φ Φ1 : D → Prop} {p : Pst} {rest ss : List Stmt} {d : D} {ds xs ys : List D} {x : Str} {i n k : Nat} {as : List En} {ps : List Str} {kk : Nat} {elts : List Expr}
/-! ### zip -/
def zipD (xs ys : List D) : List D := (xs.zip ys).map fun q => .tuple [q.1, q.2]
theorem zipD_len : (zipD xs ys).length = min xs.length ys.length := by simp [zipD]
theorem zipD_get {d : D} (h : (zipD xs ys)[i]? = some d) : ∃ u v, xs[i]? = some u ∧ ys[i]? = some v ∧ d = .tuple [u, v] := by
  unfold zipD at h
  rw [List.getElem?_map] at h
  cases q : (xs.zip ys)[i]? with
  | none =>
    rw [q] at h
    cases h
  | some z =>
    rw [q] at h
    obtain ⟨h1, h2⟩ := List.getElem?_zip_eq_some.mp q
    exact ⟨z.1, z.2, h1, h2, (Option.some.inj h).symm⟩
theorem it_zip {m : Pm} {G1 : Hp} {p q : Addr} {us vs : List V} (h1 : SqL m.K G1 p us) (h2 : SqL m.K G1 q vs) (d1 : DpAll m.K G1 us xs) (d2 : DpAll m.K G1 vs ys) : ItOk m G1 (Itz m.K p q) (zipD xs ys) := fun i F G H e s => by
  have k1 := same_l (e.trans s.same) h1
  have k2 := same_l (e.trans s.same) h2
  refine ⟨fun hi => ⟨us, vs, k1, k2, ?_⟩, fun d hd => ?_⟩
  · rw [zipD_len] at hi
    have e1 := dps_len d1
    have e2 := dps_len d2
    omega
  · obtain ⟨u, v, g1, g2, rfl⟩ := zipD_get hd
    obtain ⟨y1, f1, r1⟩ := dps_get d1 g1
    obtain ⟨y2, f2, r2⟩ := dps_get d2 g2
    refine ⟨⟨us, vs, y1, y2, k1, k2, f1, f2⟩, fun x H' y => ?_⟩
    obtain ⟨T, z1, z2, rfl, hT, rfl, w1, w2⟩ := y
    have e1 := w1 us k1
    rw [f1] at e1
    cases e1
    have e2 := w2 vs k2
    rw [f2] at e2
    cases e2
    have hG := s.freshG hT
    exact ⟨upd G T (.tup [y1, y2]), same_upd hG, s.alloc hT, .tup (SqT.of upd_same) (dps_mono (e.trans (same_upd hG)) (.cons r1 (.cons r2 .nil)))⟩
theorem it_zipT {m : Pm} {G1 : Hp} {p q : Addr} {us vs : List V} (h1 : SqT m.K G1 p us) (h2 : SqT m.K G1 q vs) (d1 : DpAll m.K G1 us xs) (d2 : DpAll m.K G1 vs ys) : ItOk m G1 (RZ.ItzT m.K p q) (zipD xs ys) := fun i F G H e s => by
  have k1 := same_t (e.trans s.same) h1
  have k2 := same_t (e.trans s.same) h2
  refine ⟨fun hi => ⟨us, vs, k1, k2, ?_⟩, fun d hd => ?_⟩
  · rw [zipD_len] at hi
    have e1 := dps_len d1
    have e2 := dps_len d2
    omega
  · obtain ⟨u, v, g1, g2, rfl⟩ := zipD_get hd
    obtain ⟨y1, f1, r1⟩ := dps_get d1 g1
    obtain ⟨y2, f2, r2⟩ := dps_get d2 g2
    refine ⟨⟨us, vs, y1, y2, k1, k2, f1, f2⟩, fun x H' y => ?_⟩
    obtain ⟨T, z1, z2, rfl, hT, rfl, w1, w2⟩ := y
    have e1 := w1 us k1
    rw [f1] at e1
    cases e1
    have e2 := w2 vs k2
    rw [f2] at e2
    cases e2
    have hG := s.freshG hT
    exact ⟨upd G T (.tup [y1, y2]), same_upd hG, s.alloc hT, .tup (SqT.of upd_same) (dps_mono (e.trans (same_upd hG)) (.cons r1 (.cons r2 .nil)))⟩
theorem evi_zip {u v : D} (ha : EV Γ Ψ ρ a (· = u)) (hb : EV Γ Ψ ρ b (· = v)) (h : (u = .list xs ∧ v = .list ys) ∨ (u = .tuple xs ∧ v = .tuple ys)) (hm : Γ.g.mg "zip" = none) (hg : glB Γ.sc "zip" = true := by kernel_rfl)
    (hs : ∀ env, starEach [a, b] env = (false, eval a env) :: starEach [b] env := by intro _; kernel_rfl) (hs2 : ∀ env, starEach [b] env = (false, eval b env) :: starEach [] env := by intro _; kernel_rfl) (hpl : ∀ env, (backTo pos (starEach [b] env)).any (·.1) = false := by intro _; kernel_rfl) :
    EVI Γ Ψ ρ (.Tuple elts kk tpos) (.Call (.Name "zip" pp) [a, b] [] pos) (· = zipD xs ys) := ⟨fun {X m F0 G0 F ow σ G H} s R q => ⟨_, RZ.pi_zipA (s.f.gl hg) (by rw [s.f.mg]; exact hm) pa_w (hs _) (hpl _), (eva_cons1 ha (eva_cons1 hb eva_nil hs2) hs).run s _ fun as vs G2 H2 p2 e2 s2 d2 => by
  subst p2
  obtain ⟨va, vb, rfl, da, db⟩ := args2 d2
  rcases h with ⟨rfl, rfl⟩ | ⟨rfl, rfl⟩
  · obtain ⟨pa, us, rfl, h1, r1⟩ := sqL_list da
    obtain ⟨pb, ws, rfl, h2, r2⟩ := sqL_list db
    refine ⟨pa, pb, us, ws, rfl, .inl ⟨by rw [← s.x.K]; exact same_l s2.same h1, by rw [← s.x.K]; exact same_l s2.same h2, ?_⟩⟩
    rw [← s.x.K]
    exact q _ _ G2 H2 rfl e2 s2 (it_zip h1 h2 r1 r2)
  · obtain ⟨pa, us, rfl, h1, r1⟩ := sqT_tup da
    obtain ⟨pb, ws, rfl, h2, r2⟩ := sqT_tup db
    refine ⟨pa, pb, us, ws, rfl, .inr ⟨by rw [← s.x.K]; exact same_t s2.same h1, by rw [← s.x.K]; exact same_t s2.same h2, ?_⟩⟩
    rw [← s.x.K]
    exact q _ _ G2 H2 rfl e2 s2 (it_zipT h1 h2 r1 r2)⟩⟩
theorem evi_enum (ha : EV Γ Ψ ρ a (· = .list xs)) (hm : Γ.g.mg "enumerate" = none) (hg : glB Γ.sc "enumerate" = true := by kernel_rfl) (hs : ∀ env, starEach [a] env = [(false, eval a env)] := by intro _; kernel_rfl) : EVI Γ Ψ ρ (.Tuple elts kk tpos) (.Call (.Name "enumerate" pp) [a] [] pos) (· = zipD (rangeD 0 xs.length) xs) := ⟨fun {X m F0 G0 F ow σ G H} s R q => ⟨_, pi_enum (s.f.gl hg) (by rw [s.f.mg]; exact hm) pa_w (hs _), (eva_cons1 ha eva_nil fun env => by rw [hs]; rfl).run s _ fun as vs G2 H2 p2 e2 s2 d2 => by
  subst p2
  obtain ⟨va, rfl, da⟩ := args1 d2
  obtain ⟨pa, us, rfl, h1, r1⟩ := sqL_list da
  refine ⟨pa, us, rfl, by rw [← s.x.K]; exact same_l s2.same h1, q _ _ G2 H2 rfl e2 s2 fun i F' G' H' e' s' => ?_⟩
  have k1 := same_l (e'.trans s'.same) h1
  rw [← s.x.K]
  refine ⟨fun hi => ⟨us, k1, ?_⟩, fun d hd => ?_⟩
  · rw [zipD_len, rangeD_len] at hi
    have e1 := dps_len r1
    omega
  · obtain ⟨u, v, g1, g2, rfl⟩ := zipD_get hd
    obtain ⟨_, rfl⟩ := rangeD_get g1
    obtain ⟨y1, f1, r1⟩ := dps_get r1 g2
    refine ⟨⟨us, y1, k1, f1⟩, fun x H' y => ?_⟩
    obtain ⟨T, z1, rfl, hT, rfl, w1⟩ := y
    have e1 := w1 us k1
    rw [f1] at e1
    cases e1
    have hG := s'.freshG hT
    exact ⟨upd G' T (.tup [.int (i : Nat), y1]), same_upd hG, s'.alloc hT, .tup (SqT.of upd_same) (.cons (by rw [Int.zero_add]; exact .int _) (dps_mono (e'.trans (same_upd hG)) (.cons r1 .nil)))⟩⟩⟩
/-! ### draws: what is known of the result is given ahead -/
def sp_pull : Spec := fun as Φ _ => ∃ n : Int, as = [.bag, .dat (.int n)] ∧ 0 < n ∧ n < 2 ^ 80 ∧ ∀ r : Int, 0 ≤ r → r < n → Φ (.dat (.int r))
def sp_of : Spec := fun as Φ _ => ∃ ds : List D, as = [.bag, .dat (.list ds)] ∧ 0 < ds.length ∧ ds.length < 2 ^ 60 ∧ ∀ d ∈ ds, Φ (.dat d)
theorem EVA.bagE {Φ2 : List En → Prop} (h : Look Γ.N ρ x .bag i) (hr : EVA Γ Ψ ρ es Φ2) (hv : visB Γ.sc x = true := by kernel_rfl) (hd : (x == ("__debug__" : Str)) = false := by kernel_rfl) (hcd : (x == ("__classdict__" : Str)) = false := by kernel_rfl)
    (hs : ∀ env, starEach (.Name x pos :: es) env = (false, eval (.Name x pos) env) :: starEach es env := by intro _; kernel_rfl) : EVA Γ Ψ ρ (.Name x pos :: es) (fun as => ∃ r, as = .bag :: r ∧ Φ2 r) := eva_bag i h.at.2 hr h.at.1 hv hd hcd hs
theorem ev_pull {n : Int} (fn : FnD Γ.g k "_law_pull" ps [] sp_pull) (hb : Look Γ.N ρ "_law_bag_here" .bag i) (ha : EV Γ Ψ ρ a Φ1) (h : ∀ d, Φ1 d → ∃ n : Int, d = .int n ∧ 0 < n ∧ n < 2 ^ 80 ∧ ∀ r : Int, 0 ≤ r → r < n → Φ (.int r)) (hk : Nat.ble k Γ.k = true := by kernel_rfl) (hg : glB Γ.sc "_law_pull" = true := by kernel_rfl) (hv : visB Γ.sc "_law_bag_here" = true := by kernel_rfl)
    (hs2 : ∀ env, starEach [a] env = (false, eval a env) :: starEach [] env := by intro _; kernel_rfl) (hpl : ∀ env, (backTo pos (starEach [a] env)).any (·.1) = false := by intro _; kernel_rfl) : EV Γ Ψ ρ (.Call (.Name "_law_pull" pp) [.Name "_law_bag_here" p2, a] [] pos) Φ :=
  ev_call fn (EVA.bagE hb (eva_cons ha eva_nil hs2) hv) (fun as ⟨r, e1, d, r2, e2, h1, e3⟩ => by
    subst e1 e2 e3
    obtain ⟨n, rfl, h2, h3, h4⟩ := h d h1
    exact ⟨n, rfl, h2, h3, h4⟩) hk hg (he := fun env => ⟨by rfl, hpl env⟩)
theorem ev_pullI {n : Int} (fn : FnD Γ.g k "_law_pull" ps [] sp_pull) (hb : Look Γ.N ρ "_law_bag_here" .bag i) (ha : EV Γ Ψ ρ a (· = .int n)) (h0 : 0 < n) (h1 : n < 2 ^ 80) (h : ∀ r : Int, 0 ≤ r → r < n → Φ (.int r)) (hk : Nat.ble k Γ.k = true := by kernel_rfl) (hg : glB Γ.sc "_law_pull" = true := by kernel_rfl) (hv : visB Γ.sc "_law_bag_here" = true := by kernel_rfl)
    (hs2 : ∀ env, starEach [a] env = (false, eval a env) :: starEach [] env := by intro _; kernel_rfl) (hpl : ∀ env, (backTo pos (starEach [a] env)).any (·.1) = false := by intro _; kernel_rfl) : EV Γ Ψ ρ (.Call (.Name "_law_pull" pp) [.Name "_law_bag_here" p2, a] [] pos) Φ :=
  ev_pull (n := n) fn hb ha (fun d e => ⟨n, e, h0, h1, h⟩) hk hg hv hs2 hpl
/-- all of es tell something of which Φ is known -/
def EVL (Γ : Ctx) (Ψ : Exc → Prop) (ρ : List En) (es : List Expr) (Φ : D → Prop) : Prop := EVA Γ Ψ ρ es (fun as => ∃ ds : List D, as = ds.map .dat ∧ ds.length = es.length ∧ ∀ d ∈ ds, Φ d)
theorem evl_nil : EVL Γ Ψ ρ [] Φ := eva_nil.imp fun as e => ⟨[], e, rfl, fun _ z => nomatch z⟩
theorem evl_cons (ha : EV Γ Ψ ρ a Φ) (hr : EVL Γ Ψ ρ es Φ) (hs : ∀ env, starEach (a :: es) env = (false, eval a env) :: starEach es env := by intro _; kernel_rfl) : EVL Γ Ψ ρ (a :: es) Φ := (eva_cons ha hr hs).imp fun as ⟨d, r, e, h1, ds, e2, h2, h3⟩ => ⟨d :: ds, by rw [e, e2]; rfl, by simp [h2], fun z hz => by
  rcases List.mem_cons.mp hz with rfl | hz
  · exact h1
  · exact h3 z hz⟩
theorem evl_bag (hb : Look Γ.N ρ x .bag i) : True := trivial
theorem ev_lstL (h : EVL Γ Ψ ρ es Φ1) (hl : es.length ≤ sizeLine) (hΦ : ∀ ds : List D, ds.length = es.length → (∀ d ∈ ds, Φ1 d) → Φ (.list ds)) : EV Γ Ψ ρ (.List es pos) Φ :=
  (evn_lst (Φn := fun ds => ds.length = es.length ∧ ∀ d ∈ ds, Φ1 d) h fun as ⟨ds, e, h1, h2⟩ => ⟨ds, e, by rw [h1]; exact hl, h1, h2⟩).ev.imp fun d ⟨ds, e, h1, h2⟩ => by rw [e]; exact hΦ ds h1 h2
theorem ev_ofE (fn : FnD Γ.g k "_law_of" ps [] sp_of) (hb : Look Γ.N ρ "_law_bag_here" .bag i) (ha : EV Γ Ψ ρ a (fun d => ∃ ds, d = .list ds ∧ 0 < ds.length ∧ ds.length < 2 ^ 60 ∧ ∀ x ∈ ds, Φ x)) (hk : Nat.ble k Γ.k = true := by kernel_rfl) (hg : glB Γ.sc "_law_of" = true := by kernel_rfl) (hv : visB Γ.sc "_law_bag_here" = true := by kernel_rfl)
    (hs2 : ∀ env, starEach [a] env = (false, eval a env) :: starEach [] env := by intro _; kernel_rfl) (hpl : ∀ env, (backTo pos (starEach [a] env)).any (·.1) = false := by intro _; kernel_rfl) : EV Γ Ψ ρ (.Call (.Name "_law_of" pp) [.Name "_law_bag_here" p2, a] [] pos) Φ :=
  ev_call fn (EVA.bagE hb (eva_cons ha eva_nil hs2) hv) (fun as ⟨r, e1, d, r2, e2, ⟨ds, h1, h2, h3, h4⟩, e3⟩ => by
    subst e1 e2 e3 h1
    exact ⟨ds, rfl, h2, h3, h4⟩) hk hg (he := fun env => ⟨by rfl, hpl env⟩)
theorem ev_of (fn : FnD Γ.g k "_law_of" ps [] sp_of) (hb : Look Γ.N ρ "_law_bag_here" .bag i) (h : EVL Γ Ψ ρ es Φ) (hn : 0 < es.length := by decide) (hl : es.length ≤ sizeLine := by decide) (hk : Nat.ble k Γ.k = true := by kernel_rfl) (hg : glB Γ.sc "_law_of" = true := by kernel_rfl) (hv : visB Γ.sc "_law_bag_here" = true := by kernel_rfl) : EV Γ Ψ ρ (.Call (.Name "_law_of" pp) [.Name "_law_bag_here" p2, .List es p3] [] pos) Φ :=
  ev_ofE fn hb (ev_lstL h hl fun ds h1 h2 => ⟨ds, rfl, by rw [h1]; exact hn, by rw [h1]; exact Nat.lt_of_le_of_lt hl (by decide), h2⟩) hk hg hv
/-! ### backwards -/
def I (P : Int → Prop) : D → Prop := fun d => ∃ i : Int, d = .int i ∧ P i
variable {P Q R : Int → Prop} {z : Int}
theorem EV.toI (h : EV Γ Ψ ρ a (· = .int z)) (hp : P z) : EV Γ Ψ ρ a (I P) := h.imp fun d e => ⟨z, e, hp⟩
theorem EV.to (h : EV Γ Ψ ρ a (· = d)) (hp : Φ d) : EV Γ Ψ ρ a Φ := h.imp fun d' e => by rw [e]; exact hp
theorem ev_addI (ha : EV Γ Ψ ρ a (I P)) (hb : EV Γ Ψ ρ b (I Q)) (h : ∀ i j, P i → Q j → R (i + j)) : EV Γ Ψ ρ (.BinOp a .Add b pos) (I R) := ev_op (fun _ _ => op_add) ha hb fun x y ⟨i, e1, h1⟩ ⟨j, e2, h2⟩ => by
  subst e1 e2
  exact (rd_I0 (d := .int (i + j)) fun _ => .int _).imp fun d e => ⟨_, e, h i j h1 h2⟩
theorem ev_subI (ha : EV Γ Ψ ρ a (I P)) (hb : EV Γ Ψ ρ b (I Q)) (h : ∀ i j, P i → Q j → R (i - j)) : EV Γ Ψ ρ (.BinOp a .Sub b pos) (I R) := ev_op (fun _ _ => op_sub) ha hb fun x y ⟨i, e1, h1⟩ ⟨j, e2, h2⟩ => by
  subst e1 e2
  exact (rd_I0 (d := .int (i - j)) fun _ => .int _).imp fun d e => ⟨_, e, h i j h1 h2⟩
theorem ev_mulI (ha : EV Γ Ψ ρ a (I P)) (hb : EV Γ Ψ ρ b (I Q)) (h : ∀ i j, P i → Q j → CMul i j ∧ R (i * j)) : EV Γ Ψ ρ (.BinOp a .Mult b pos) (I R) := ev_op (fun _ _ => op_mul) ha hb fun x y ⟨i, e1, h1⟩ ⟨j, e2, h2⟩ => by
  subst e1 e2
  exact (rd_I (d := .int (i * j)) (h i j h1 h2).1 fun _ => .int _).imp fun d e => ⟨_, e, (h i j h1 h2).2⟩
theorem ev_modI (ha : EV Γ Ψ ρ a (I P)) (hb : EV Γ Ψ ρ b (I Q)) (h : ∀ i j, P i → Q j → 0 < j ∧ R (i % j)) : EV Γ Ψ ρ (.BinOp a .Mod b pos) (I R) := ev_op (fun _ _ => op_mod) ha hb fun x y ⟨i, e1, h1⟩ ⟨j, e2, h2⟩ => by
  subst e1 e2
  exact (rd_I (C := fun _ j => 0 < j) (d := .int (i % j)) (h i j h1 h2).1 fun _ => .int _).imp fun d e => ⟨_, e, (h i j h1 h2).2⟩
/-! ### a def by the head -/
theorem FnD.of {g : Gm} {k : Nat} {x : Str} {spec : Spec} {params : Arguments} {body : List Stmt} {scope : Scope} {qual : Str} {f : Addr} {fd : FuncData} (F : FunD g.K x qual params body scope [] [] f fd) (hm : g.mg x = some (.ref f)) (hb : Binds g.K fd ps []) (ok : FnOk g.P g.w g.K g.mg g.base (L2.CX g.P g.w) k f fd ps (spD g spec)) : FnD g k x ps [] spec :=
  ⟨f, fd, [], [], hm, F.kp, hb, .nil, fun _ => .nil, ok⟩
theorem FnD.up {g : Gm} {k k' : Nat} {x : Str} {dds : List D} {spec : Spec} (F : FnD g k x ps dds spec) (h : k ≤ k') : FnD g k' x ps dds spec := by
  obtain ⟨f, fd, dvs, ds, h1, h2, h3, h4, h5, h6⟩ := F.ex
  exact ⟨f, fd, dvs, ds, h1, h2, h3, h4, h5, h6.len, fun A outer s H a us vs Q E hr => h6.run A outer s H a us vs Q E (hr.mono h)⟩
end
end DL

namespace DL
open PySem PySem.Spec PyProof.Rows L2
/-! ### defs and names as the head tells them -/
def HasDef (g : Gm) (x : Str) (s : Stmt) (kws : List (Str × V)) : Prop := ∃ f fd, FunD g.K x x (defArgs s) (defBody s) (defScope s) [] kws f fd ∧ g.mg x = some (.ref f)
def GlD (g : Gm) (x : Str) (d : D) : Prop := ∃ v u, g.mg x = some u ∧ RelV v u ∧ ∀ G, Dp g.K G v d
section
variable {Γ : Ctx} {Ψ : Exc → Prop} {ρ ρ' : List En} {a b c e tg iter : Expr} {es : List Expr} {pos pos' pp p2 p3 tpos : Pos} {Φ Φ1 : D → Prop} {p : Pst} {rest ss : List Stmt} {d : D} {ds xs ys : List D} {x : Str} {i n k : Nat} {as : List En} {ps N : List Str} {kk : Nat} {elts : List Expr}
theorem ev_gl (h : GlD Γ.g x d) (hg : glB Γ.sc x = true := by kernel_rfl) (hdb : (x == ("__debug__" : Str)) = false := by kernel_rfl) : EV Γ Ψ ρ (.Name x pos) (· = d) := by
  obtain ⟨v, u, h1, h2, h3⟩ := h
  exact ev_glob hg h1 h2 h3 hdb
variable {g : Gm} {s : Stmt} {spec : Spec}
/-- THE RULE for a def -/
theorem fn_def (h : HasDef g x s []) (S : FnScope N ps (defScope s)) (hb : ∀ (kV doc pm : Value) (an : Option Addr) (cdv ct : Value) (us : List Value), us.length = ps.length → bindArgs (PySem.W.fnOf x x (defArgs s) (defBody s) (defScope s) .none kV doc pm an cdv ct) ⟨us, []⟩ = pure (ps.zip us))
    (len : ∀ as Φ Ψ, spec as Φ Ψ → as.length = ps.length) (hbody : ∀ as Φ Ψ, spec as Φ Ψ → SD ⟨g, N, defScope s, k, true, none⟩ Ψ (as ++ List.replicate (N.length - as.length) .un) (defBody s) { nx := fun _ => Φ (.dat .none), rt := Φ }) : FnD g (k + 1) x ps [] spec := by
  obtain ⟨f, fd, F, hm⟩ := h
  exact FnD.of F hm (F.bindsN hb) (fn_body F S len hbody)
/-- a def with keyword-only parameters ks, all with defaults: by place only -/
theorem fn_kw {kws : List (Str × V)} {dds : List D} (h : HasDef g x s kws) (S : FnScope N ps (defScope s)) (n : Nat) (hk : kws ≠ []) (hn : n + kws.length = ps.length)
    (hb : ∀ (D : Addr) (doc pm : Value) (an : Option Addr) (cdv ct : Value) (us ks : List Value), us.length = n → ks.length = kws.length → KwChain D ((kws.map (·.1)).zip ks) (bindArgs (PySem.W.fnOf x x (defArgs s) (defBody s) (defScope s) .none (.ref D) doc pm an cdv ct) ⟨us, []⟩) (ps.zip (us ++ ks)))
    (hd : ∀ G, DpAll g.K G (kws.map (·.2)) dds)
    (len : ∀ as Φ Ψ, spec as Φ Ψ → as.length = ps.length) (hbody : ∀ as Φ Ψ, spec as Φ Ψ → SD ⟨g, N, defScope s, k, true, none⟩ Ψ (as ++ List.replicate (N.length - as.length) .un) (defBody s) { nx := fun _ => Φ (.dat .none), rt := Φ }) : FnD g (k + 1) x ps dds spec := by
  obtain ⟨f, fd, F, hm⟩ := h
  obtain ⟨vs, hv, hB⟩ := F.binds0 (ps := ps) n hk hn hb
  exact ⟨f, fd, _, vs, hm, F.kp, hB, hv, hd, fn_body F S len hbody⟩
/-- with all keywords written, in the parameters' order -/
theorem fn_kwK {kws : List (Str × V)} {ks : List Str} (h : HasDef g x s kws) (S : FnScope N ps (defScope s)) (n : Nat)
    (hb : ∀ (kV doc pm : Value) (an : Option Addr) (cdv ct : Value) (us ws : List Value), us.length = n → ws.length = ks.length → bindArgs (PySem.W.fnOf x x (defArgs s) (defBody s) (defScope s) .none kV doc pm an cdv ct) ⟨us, ks.zip ws⟩ = pure (ps.zip (us ++ ws)))
    (len : ∀ as Φ Ψ, spec as Φ Ψ → as.length = ps.length) (hbody : ∀ as Φ Ψ, spec as Φ Ψ → SD ⟨g, N, defScope s, k, true, none⟩ Ψ (as ++ List.replicate (N.length - as.length) .un) (defBody s) { nx := fun _ => Φ (.dat .none), rt := Φ }) : FnK g (k + 1) x n ks (· ++ ·) spec := by
  obtain ⟨f, fd, F, hm⟩ := h
  refine ⟨f, fd, ps, (· ++ ·), (· ++ ·), hm, F.kp, ?_, fun _ h1 h2 _ _ => h1.app h2, fn_body F S len hbody⟩
  obtain ⟨oc, od, dV, kV, doc, pm, an, cdv, ct, osl, rfl, lk, hcd, hD, hK⟩ := F.ex
  rcases hD with ⟨_, rfl⟩ | ⟨e, _⟩
  · exact ⟨fun s us ws _ h1 h2 => .of_eq (hb kV doc pm an cdv ct us ws h1 h2), fun h1 h2 => h1.append h2⟩
  · exact absurd rfl e
end
end DL

namespace DL
open PySem PySem.Spec PyProof.Rows L2
section
variable {Γ : Ctx} {Ψ : Exc → Prop} {ρ ρ' : List En} {a b c e tg iter : Expr} {es : List Expr} {pos pos' pp p2 p3 p4 tpos : Pos} {Φ Φ1 : D → Prop} {p : Pst} {rest ss : List Stmt} {d : D} {ds xs ys : List D} {x : Str} {i n k : Nat} {as : List En} {ps N : List Str} {kk : Nat} {elts : List Expr}
theorem ev_isInt (ha : EV Γ Ψ ρ a (· = d)) (hm : Γ.g.mg "isinstance" = none) (hmT : Γ.g.mg "int" = none) (hg : glB Γ.sc "isinstance" = true := by kernel_rfl) (hgT : glB Γ.sc "int" = true := by kernel_rfl) (hs : ∀ env, starEach [a, .Name "int" p2] env = (false, eval a env) :: starEach [.Name "int" p2] env := by intro _; kernel_rfl) : EV Γ Ψ ρ (.Call (.Name "isinstance" pp) [a, .Name "int" p2] [] pos) (· = .bool (isD "int" d)) :=
  ev_isi ha (kit_int d) (by decide +kernel) hm hmT hg hgT (hs := hs)
theorem ev_isBool (ha : EV Γ Ψ ρ a (· = d)) (hm : Γ.g.mg "isinstance" = none) (hmT : Γ.g.mg "bool" = none) (hg : glB Γ.sc "isinstance" = true := by kernel_rfl) (hgT : glB Γ.sc "bool" = true := by kernel_rfl) (hs : ∀ env, starEach [a, .Name "bool" p2] env = (false, eval a env) :: starEach [.Name "bool" p2] env := by intro _; kernel_rfl) : EV Γ Ψ ρ (.Call (.Name "isinstance" pp) [a, .Name "bool" p2] [] pos) (· = .bool (isD "bool" d)) :=
  ev_isi ha (kit_bool d) (by decide +kernel) hm hmT hg hgT (hs := hs)
theorem ev_isStr (ha : EV Γ Ψ ρ a (· = d)) (hm : Γ.g.mg "isinstance" = none) (hmT : Γ.g.mg "str" = none) (hg : glB Γ.sc "isinstance" = true := by kernel_rfl) (hgT : glB Γ.sc "str" = true := by kernel_rfl) (hs : ∀ env, starEach [a, .Name "str" p2] env = (false, eval a env) :: starEach [.Name "str" p2] env := by intro _; kernel_rfl) : EV Γ Ψ ρ (.Call (.Name "isinstance" pp) [a, .Name "str" p2] [] pos) (· = .bool (isD "str" d)) :=
  ev_isi ha (kit_str d) (by decide +kernel) hm hmT hg hgT (hs := hs)
theorem ev_isList (ha : EV Γ Ψ ρ a (· = d)) (hm : Γ.g.mg "isinstance" = none) (hmT : Γ.g.mg "list" = none) (hg : glB Γ.sc "isinstance" = true := by kernel_rfl) (hgT : glB Γ.sc "list" = true := by kernel_rfl) (hs : ∀ env, starEach [a, .Name "list" p2] env = (false, eval a env) :: starEach [.Name "list" p2] env := by intro _; kernel_rfl) : EV Γ Ψ ρ (.Call (.Name "isinstance" pp) [a, .Name "list" p2] [] pos) (· = .bool (isD "list" d)) :=
  ev_isi ha (kit_list d) (by decide +kernel) hm hmT hg hgT (hs := hs)
theorem ev_isTup (ha : EV Γ Ψ ρ a (· = d)) (hm : Γ.g.mg "isinstance" = none) (hmT : Γ.g.mg "tuple" = none) (hg : glB Γ.sc "isinstance" = true := by kernel_rfl) (hgT : glB Γ.sc "tuple" = true := by kernel_rfl) (hs : ∀ env, starEach [a, .Name "tuple" p2] env = (false, eval a env) :: starEach [.Name "tuple" p2] env := by intro _; kernel_rfl) : EV Γ Ψ ρ (.Call (.Name "isinstance" pp) [a, .Name "tuple" p2] [] pos) (· = .bool (isD "tuple" d)) :=
  ev_isi ha (kit_tuple d) (by decide +kernel) hm hmT hg hgT (hs := hs)
theorem ev_isLT (ha : EV Γ Ψ ρ a (· = d)) (hm : Γ.g.mg "isinstance" = none) (hm1 : Γ.g.mg "list" = none) (hm2 : Γ.g.mg "tuple" = none) (hg : glB Γ.sc "isinstance" = true := by kernel_rfl) (hg1 : glB Γ.sc "list" = true := by kernel_rfl) (hg2 : glB Γ.sc "tuple" = true := by kernel_rfl)
    (hs : ∀ env, starEach [a, .Tuple [.Name "list" p2, .Name "tuple" p3] kk p4] env = (false, eval a env) :: starEach [.Tuple [.Name "list" p2, .Name "tuple" p3] kk p4] env := by intro _; kernel_rfl) :
    EV Γ Ψ ρ (.Call (.Name "isinstance" pp) [a, .Tuple [.Name "list" p2, .Name "tuple" p3] kk p4] [] pos) (· = .bool (isD "list" d || isD "tuple" d)) :=
  ev_isi2 ha (kit_list d) (kit_tuple d) (by decide +kernel) (by decide +kernel) hm hm1 hm2 hg hg1 hg2 (hs := hs)
/-- len of a list, a tuple -/
theorem ev_lenL (ha : EV Γ Ψ ρ a (· = .list ds)) (hm : Γ.g.mg "len" = none) (hg : glB Γ.sc "len" = true := by kernel_rfl) (hs : ∀ env, starEach [a] env = (false, eval a env) :: starEach [] env := by intro _; kernel_rfl) : EV Γ Ψ ρ (.Call (.Name "len" pp) [a] [] pos) (· = .int (ds.length : Nat)) := ev_len ha rfl hm hg hs
theorem ev_lenT (ha : EV Γ Ψ ρ a (· = .tuple ds)) (hm : Γ.g.mg "len" = none) (hg : glB Γ.sc "len" = true := by kernel_rfl) (hs : ∀ env, starEach [a] env = (false, eval a env) :: starEach [] env := by intro _; kernel_rfl) : EV Γ Ψ ρ (.Call (.Name "len" pp) [a] [] pos) (· = .int (ds.length : Nat)) := ev_len ha rfl hm hg hs
/-- lists, tuples of truth values -/
theorem eqv_bool (k l : Bool) : PyData.eqv (.bool k) (.bool l) = (k == l) := by cases k <;> cases l <;> rfl
theorem ev_neB {k l : Bool} (ha : EV Γ Ψ ρ a (· = .bool k)) (hb : EV Γ Ψ ρ b (· = .bool l)) : EV Γ Ψ ρ (.Compare a [.NotEq] [b] pos) (· = .bool (k != l)) := (ev_ne ha hb rfl rfl).imp fun d e => by rw [e, eqv_bool]; rfl
theorem ev_eqB {k l : Bool} (ha : EV Γ Ψ ρ a (· = .bool k)) (hb : EV Γ Ψ ρ b (· = .bool l)) : EV Γ Ψ ρ (.Compare a [.Eq] [b] pos) (· = .bool (k == l)) := (ev_eq ha hb rfl rfl).imp fun d e => by rw [e, eqv_bool]
/-- a test as a value -/
theorem evt_of {k : Bool} (ha : EV Γ Ψ ρ a (· = .bool k)) (he : ∀ env whole, isTrue a env whole = (do let v ← whole; standAt a.pos; holding [v] (truthy v)) := by intro _ _; kernel_rfl) : EVT Γ Ψ ρ a (· = k) := evt_val ha he
/-- 0 <= x < p -/
theorem ev_betw {i j k : Int} (ha : EV Γ Ψ ρ a (· = .int i)) (hb : EV Γ Ψ ρ b (· = .int j)) (hc : EV Γ Ψ ρ c (· = .int k)) (hm : lastMarks [.LtE, .Lt] [b, c] = false := by kernel_rfl) : EV Γ Ψ ρ (.Compare a [.LtE, .Lt] [b, c] pos) (· = .bool (decide (i ≤ j) && decide (j < k))) :=
  ev_chain (fun _ => op_le) (fun _ => op_lt) ha hb hc hm
theorem evt_betwS {i j k : Int} (ha : EV Γ Ψ ρ a (· = .int i)) (hb : EV Γ Ψ ρ b (· = .int j)) (hc : EV Γ Ψ ρ c (· = .int k)) (hm : lastMarks [.Lt, .Lt] [b, c] = false := by kernel_rfl) : EVT Γ Ψ ρ (.Compare a [.Lt, .Lt] [b, c] pos) (· = (decide (i < j) && decide (j < k))) :=
  evt_chain (fun _ => op_lt) (fun _ => op_lt) ha hb hc hm
theorem sd_exprg (he : EV Γ Ψ ρ e Φ) (h : ∀ d, Φ d → SD Γ Ψ ρ rest p) (hs : ∀ env, swapsWith e none pos.line env = pure false := by intro _; kernel_rfl) : SD Γ Ψ ρ (.Expr e pos :: rest) p := ⟨fun {X m F0 G0 F ow σ G H} s =>
  ⟨_, pss_cons (ps_expr pe_w (hs _)) pss_w, he.run s _ fun d v G2 H2 p2 e2 s2 d2 => (h d p2).run (s.next e2 s2)⟩⟩
/-- a or .. : the first part is true -/
theorem evw_orT {k : Bool} {rr : List Expr} (ha : EVT Γ Ψ ρ a (· = k)) (hk : k = true) : EVW Γ Ψ ρ (.BoolOp .Or (a :: b :: rr) pos) (· = true) := ⟨fun {X m F0 G0 F ow σ G H} s Q q => ⟨_, pw_or pt_w pw_w, ha.run s _ fun x G1 H1 p1 e1 s1 => by
  subst p1
  rw [hk]
  exact iteT (q true G1 H1 rfl e1 s1)⟩⟩
theorem evw_andF {k : Bool} {rr : List Expr} (ha : EVT Γ Ψ ρ a (· = k)) (hk : k = false) : EVW Γ Ψ ρ (.BoolOp .And (a :: b :: rr) pos) (· = false) := ⟨fun {X m F0 G0 F ow σ G H} s Q q => ⟨_, pw_and pt_w pw_w, ha.run s _ fun x G1 H1 p1 e1 s1 => by
  subst p1
  rw [hk]
  exact iteF (q false G1 H1 rfl e1 s1)⟩⟩
theorem sd_ifT {k : Bool} {body orelse : List Stmt} (hc : EVT Γ Ψ ρ c (· = k)) (hk : k = true) (ht : SD Γ Ψ ρ body { p with nx := fun ρ' => SD Γ Ψ ρ' rest p }) : SD Γ Ψ ρ (.If c body orelse pos :: rest) p := sd_if hc (fun _ => ht) fun z => by rw [hk] at z; cases z
theorem sd_ifF {k : Bool} {body orelse : List Stmt} (hc : EVT Γ Ψ ρ c (· = k)) (hk : k = false) (hf : SD Γ Ψ ρ orelse { p with nx := fun ρ' => SD Γ Ψ ρ' rest p }) : SD Γ Ψ ρ (.If c body orelse pos :: rest) p := sd_if hc (fun z => by rw [hk] at z; cases z) fun _ => hf
theorem eqv_self {d : D} (h : SeqAt.shaped d = true) : PyData.eqv d d = true := SeqAt.eqv_refl d (SeqAt.canLay_of_shaped h)
theorem evt_neB {k l : Bool} (ha : EV Γ Ψ ρ a (· = .bool k)) (hb : EV Γ Ψ ρ b (· = .bool l)) : EVT Γ Ψ ρ (.Compare a [.NotEq] [b] pos) (· = (k != l)) := (evt_ne ha hb rfl rfl).imp fun d e => by rw [e, eqv_bool]; rfl
theorem evt_eqB {k l : Bool} (ha : EV Γ Ψ ρ a (· = .bool k)) (hb : EV Γ Ψ ρ b (· = .bool l)) : EVT Γ Ψ ρ (.Compare a [.Eq] [b] pos) (· = (k == l)) := (evt_eq ha hb rfl rfl).imp fun d e => by rw [e, eqv_bool]
end
end DL

namespace DL
open PySem PySem.Spec PyProof.Rows L2
/-! ### data that may be compared -/
def Sh (n : Nat) (d : D) : Prop := d.canLay0 = true ∧ d.depth ≤ n
theorem Sh.shaped {n : Nat} {d : D} (h : Sh n d) (hn : n ≤ 64) : SeqAt.shaped d = true := Bool.and_eq_true_iff.mpr ⟨h.1, decide_eq_true (Nat.le_trans h.2 hn)⟩
theorem sh_int (i : Int) (n : Nat) : Sh n (.int i) := ⟨rfl, Nat.zero_le _⟩
theorem sh_bool (i : Bool) (n : Nat) : Sh n (.bool i) := ⟨rfl, Nat.zero_le _⟩
theorem sh_none (n : Nat) : Sh n .none := ⟨rfl, Nat.zero_le _⟩
theorem sh_all {n : Nat} : ∀ {ds : List D}, (∀ d ∈ ds, Sh n d) → PyData.canLayAll0 ds = true ∧ PyData.depthAll ds ≤ n
  | [], _ => ⟨rfl, Nat.zero_le _⟩
  | d :: ds, h => by
    have h1 := h d (List.mem_cons_self ..)
    have h2 := sh_all (ds := ds) fun x hx => h x (List.mem_cons_of_mem _ hx)
    exact ⟨Bool.and_eq_true_iff.mpr ⟨h1.1, h2.1⟩, Nat.max_le.mpr ⟨h1.2, h2.2⟩⟩
theorem sh_tuple {n : Nat} {ds : List D} (h : ∀ d ∈ ds, Sh n d) : Sh (n + 1) (.tuple ds) := by
  have := sh_all h
  refine ⟨this.1, ?_⟩
  show PyData.depthAll ds + 1 ≤ n + 1
  omega
theorem sh_list {n : Nat} {ds : List D} (h : ∀ d ∈ ds, Sh n d) : Sh (n + 1) (.list ds) := by
  have := sh_all h
  refine ⟨this.1, ?_⟩
  show PyData.depthAll ds + 1 ≤ n + 1
  omega
/-- a tuple, a list of numbers -/
abbrev tupI (ns : List Int) : D := .tuple (ns.map .int)
abbrev lstI (ns : List Int) : D := .list (ns.map .int)
theorem sh_tupI (ns : List Int) : Sh 1 (tupI ns) := sh_tuple fun d hd => by
  obtain ⟨i, _, rfl⟩ := List.mem_map.mp hd
  exact sh_int i 0
theorem sh_lstI (ns : List Int) : Sh 1 (lstI ns) := sh_list fun d hd => by
  obtain ⟨i, _, rfl⟩ := List.mem_map.mp hd
  exact sh_int i 0
theorem shaped_tupI (ns : List Int) : SeqAt.shaped (tupI ns) = true := (sh_tupI ns).shaped (by decide)
theorem shaped_lstI (ns : List Int) : SeqAt.shaped (lstI ns) = true := (sh_lstI ns).shaped (by decide)
theorem eqvAll_ints : ∀ (ns ms : List Int), PyData.eqvAll (ns.map .int) (ms.map .int) = decide (ns = ms)
  | [], [] => rfl
  | [], _ :: _ => rfl
  | _ :: _, [] => rfl
  | n :: ns, m :: ms => by
    show (PyData.eqv (.int n) (.int m) && PyData.eqvAll (ns.map .int) (ms.map .int)) = _
    rw [eqvAll_ints ns ms]
    show ((n == m) && decide (ns = ms)) = _
    rw [Bool.eq_iff_iff]
    simp
theorem eqv_tupI (ns ms : List Int) : PyData.eqv (tupI ns) (tupI ms) = decide (ns = ms) := eqvAll_ints ns ms
theorem eqv_lstI (ns ms : List Int) : PyData.eqv (lstI ns) (lstI ms) = decide (ns = ms) := eqvAll_ints ns ms
section
variable {Γ : Ctx} {Ψ : Exc → Prop} {ρ ρ' : List En} {a b c e tg iter : Expr} {es : List Expr} {pos pos' pp p2 p3 p4 tpos : Pos} {Φ Φ1 : D → Prop} {p : Pst} {rest ss : List Stmt} {d : D} {ds xs ys : List D} {x : Str} {i n k : Nat} {as : List En} {ps N : List Str} {kk : Nat} {elts : List Expr} {ns ms : List Int}
theorem ev_eqT (ha : EV Γ Ψ ρ a (· = tupI ns)) (hb : EV Γ Ψ ρ b (· = tupI ms)) : EV Γ Ψ ρ (.Compare a [.Eq] [b] pos) (· = .bool (decide (ns = ms))) := (ev_eq ha hb (shaped_tupI _) (shaped_tupI _)).imp fun d e => by rw [e, eqv_tupI]
theorem ev_neT (ha : EV Γ Ψ ρ a (· = tupI ns)) (hb : EV Γ Ψ ρ b (· = tupI ms)) : EV Γ Ψ ρ (.Compare a [.NotEq] [b] pos) (· = .bool (!decide (ns = ms))) := (ev_ne ha hb (shaped_tupI _) (shaped_tupI _)).imp fun d e => by rw [e, eqv_tupI]
theorem evt_eqT (ha : EV Γ Ψ ρ a (· = tupI ns)) (hb : EV Γ Ψ ρ b (· = tupI ms)) : EVT Γ Ψ ρ (.Compare a [.Eq] [b] pos) (· = decide (ns = ms)) := (evt_eq ha hb (shaped_tupI _) (shaped_tupI _)).imp fun d e => by rw [e, eqv_tupI]
theorem evt_neT (ha : EV Γ Ψ ρ a (· = tupI ns)) (hb : EV Γ Ψ ρ b (· = tupI ms)) : EVT Γ Ψ ρ (.Compare a [.NotEq] [b] pos) (· = !decide (ns = ms)) := (evt_ne ha hb (shaped_tupI _) (shaped_tupI _)).imp fun d e => by rw [e, eqv_tupI]
theorem ev_tup0 : EV Γ Ψ ρ (.Tuple [] kk pos) (· = tupI []) := ev_tup1 (ds := []) eva_nil rfl (by decide)
theorem last_item (h : ns ≠ []) : itemD (-1) (tupI ns) = some (.int (ns.getLast h)) := by
  show atI (ns.map PyData.int) (-1) = _
  have hl : 0 < ns.length := List.length_pos_iff.mpr h
  unfold atI ixN
  rw [List.length_map, if_neg (by decide), if_pos (by omega)]
  show (ns.map PyData.int)[((ns.length : Int) + -1).toNat]? = _
  rw [show ((ns.length : Int) + -1).toNat = ns.length - 1 by omega, List.getElem?_map, List.getElem?_eq_getElem (by omega), List.getLast_eq_getElem]
  rfl
end
end DL

namespace DL
open PySem PySem.Spec PyProof.Rows L2
/-! ### the head's facts -/
section
variable {P : Program} {w : World} {K : PySem.W.Frag} {h base : Heap} {mg : Str → Option Value} {T : List (Addr × Str)} {fa : List He.Fa} {fn : List He.DefD} {x y : Str} {s : Stmt}
theorem hasDef_of {kwd : List (Str × He.Dv)} {kws : List (Str × V)} (X : K.In h) (G : h.Ns mainGlobals mg) (c : He.SaysD fa fn K) (i j : Nat) (hi : fn[i]? = some ⟨(x, none), x, x, defArgs s, defBody s, defScope s, [], kwd⟩) (hj : fa[j]? = some (.glo x)) (hk : (kwd.map fun q => (q.1, q.2.v K)) = kws) : HasDef ⟨P, w, K, mg, base, T⟩ x s kws := by
  obtain ⟨fd, F⟩ := c.def_ i hi
  subst hk
  exact ⟨_, fd, F, He.glo_ok X G (c.fact j hj)⟩
theorem free_of (X : K.In h) (G : h.Ns mainGlobals mg) (c : He.SaysD fa fn K) (j : Nat) (hj : fa[j]? = some (.free x)) : mg x = none := He.free_ok X G (c.fact j hj)
theorem glInt_of {i : Int} (X : K.In h) (G : h.Ns mainGlobals mg) (c : He.SaysD fa fn K) (j : Nat) (hj : fa[j]? = some (.int x i)) : GlD ⟨P, w, K, mg, base, T⟩ x (.int i) := by
  obtain ⟨t, e⟩ := He.int_ok X G (c.fact j hj)
  exact ⟨.int i, _, e, ⟨t, rfl⟩, fun _ => .int i⟩
theorem glStr_of {z : Str} (X : K.In h) (G : h.Ns mainGlobals mg) (c : He.SaysD fa fn K) (j : Nat) (hj : fa[j]? = some (.str x z)) : GlD ⟨P, w, K, mg, base, T⟩ x (.str z) := by
  obtain ⟨t, e⟩ := He.str_ok X G (c.fact j hj)
  exact ⟨.str z, _, e, ⟨t, rfl⟩, fun _ => .str z⟩
theorem glTup_of {vs : List He.Dv} {ds : List D} (X : K.In h) (G : h.Ns mainGlobals mg) (c : He.SaysD fa fn K) (j : Nat) (hj : fa[j]? = some (.glo x)) (ht : He.tupB K x vs = true) (hd : ∀ G', DpAll K G' (vs.map (He.Dv.v K)) ds) : GlD ⟨P, w, K, mg, base, T⟩ x (.tuple ds) :=
  ⟨.ref (He.ga K x), _, He.glo_ok X G (c.fact j hj), rfl, fun G' => .tup (He.tupB_ok ht G') (hd G')⟩
theorem exC0_of {wd qual : Str} {p1 p2 p3 p4 : Pos} {k0 : Nat} (X : K.In h) (G : h.Ns mainGlobals mg) (c : He.SaysD fa fn K) (i j : Nat) (hi : fn[i]? = some ⟨(x, some "__init__"), "__init__", qual, defArgs s, defBody s, defScope s, [], []⟩) (hj : fa[j]? = some (.glo x)) (cl : Cls K x)
    (hb : defBody s = [.Assign [.Attribute (.Name "self" p1) "word" p2] (.Constant (.str wd) k0 p3) p4]) (S : FnScope ["self"] ["self"] (defScope s)) (hv : (defScope s).names.lookup ("self" : Str) = some .local)
    (hbi : ∀ (kV doc pm : Value) (an : Option Addr) (cdv ct : Value) (us : List Value), us.length = 1 → bindArgs (PySem.W.fnOf "__init__" qual (defArgs s) (defBody s) (defScope s) .none kV doc pm an cdv ct) ⟨us, []⟩ = pure ((["self"] : List Str).zip us)) : ExC ⟨P, w, K, mg, base, T⟩ 1 x 0 (fun _ => [("word", .str wd)]) := by
  obtain ⟨fd, F⟩ := c.def_ i hi
  have B := F.bindsN (ps := ["self"]) hbi
  refine ⟨He.ga K x, _, fd, ["self"], He.glo_ok X G (c.fact j hj), cl.oex, cl.init, cl.ty, B, ?_⟩
  have F' : FunD K "__init__" qual (defArgs s) (defBody s) (defScope s) [] [] (He.ma K (He.ga K x) "__init__") fd := F
  rw [hb] at F'
  exact init0 (g := ⟨P, w, K, mg, base, T⟩) F' S cl.oex cl.word hv
theorem exC1_of {wd fl qual : Str} {p1 p2 p3 p4 p5 p6 p7 p8 : Pos} {k0 : Nat} (X : K.In h) (G : h.Ns mainGlobals mg) (c : He.SaysD fa fn K) (i j : Nat) (hi : fn[i]? = some ⟨(x, some "__init__"), "__init__", qual, defArgs s, defBody s, defScope s, [], []⟩) (hj : fa[j]? = some (.glo x)) (cl : Cls K x)
    (hb : defBody s = [.Assign [.Attribute (.Name "self" p1) "word" p2] (.Constant (.str wd) k0 p3) p4, .Assign [.Attribute (.Name "self" p5) fl p6] (.Name fl p7) p8]) (hno : PySem.W.findIn K (.ref (He.ga K x)) fl = some none) (S : FnScope ["self", fl] ["self", fl] (defScope s)) (hv : (defScope s).names.lookup ("self" : Str) = some .local) (hv2 : (defScope s).names.lookup fl = some .local)
    (hd : (fl == ("__debug__" : Str)) = false) (hcd : (fl == ("__classdict__" : Str)) = false)
    (hbi : ∀ (kV doc pm : Value) (an : Option Addr) (cdv ct : Value) (us : List Value), us.length = 2 → bindArgs (PySem.W.fnOf "__init__" qual (defArgs s) (defBody s) (defScope s) .none kV doc pm an cdv ct) ⟨us, []⟩ = pure ((["self", fl] : List Str).zip us)) : ExC ⟨P, w, K, mg, base, T⟩ 1 x 1 (fun ws => [(fl, ws.getD 0 .non), ("word", .str wd)]) := by
  obtain ⟨fd, F⟩ := c.def_ i hi
  have B := F.bindsN (ps := ["self", fl]) hbi
  refine ⟨He.ga K x, _, fd, ["self", fl], He.glo_ok X G (c.fact j hj), cl.oex, cl.init, cl.ty, B, ?_⟩
  have F' : FunD K "__init__" qual (defArgs s) (defBody s) (defScope s) [] [] (He.ma K (He.ga K x) "__init__") fd := F
  rw [hb] at F'
  exact init1 (g := ⟨P, w, K, mg, base, T⟩) F' S cl.oex cl.word hno hv hv2 hd hcd
/-- j: the class; j1 .. j4: the four of _law_tried; e1 ..: by which -/
theorem caught1_of (X : K.In h) (G : h.Ns mainGlobals mg) (c : He.SaysD fa fn K) (cl : Cls K x) (j j1 j2 j3 j4 e1 e2 e3 : Nat) (hj : fa[j]? = some (.glo x)) (h1 : fa[j1]? = some (.glo "BadTable")) (h2 : fa[j2]? = some (.glo "BadSheet")) (h3 : fa[j3]? = some (.glo "LagError")) (h4 : fa[j4]? = some (.glo "WorksError"))
    (x1 : fa[e1]? = some (.exm x "BadTable" false)) (x2 : fa[e2]? = some (.exm x "BadSheet" false)) (x3 : fa[e3]? = some (.exm x "LagError" true)) : Caught ⟨P, w, K, mg, base, T⟩ x false :=
  ⟨_, _, _, _, _, He.glo_ok X G (c.fact j hj), He.glo_ok X G (c.fact j1 h1), He.glo_ok X G (c.fact j2 h2), He.glo_ok X G (c.fact j3 h3), He.glo_ok X G (c.fact j4 h4), cl.xf, cl.word, .inr ⟨rfl, He.exm_ok (c.fact e1 x1), He.exm_ok (c.fact e2 x2), .inl (He.exm_ok (c.fact e3 x3))⟩⟩
theorem caughtW_of (X : K.In h) (G : h.Ns mainGlobals mg) (c : He.SaysD fa fn K) (cl : Cls K x) (j j1 j2 j3 j4 e1 e2 e3 e4 : Nat) (hj : fa[j]? = some (.glo x)) (h1 : fa[j1]? = some (.glo "BadTable")) (h2 : fa[j2]? = some (.glo "BadSheet")) (h3 : fa[j3]? = some (.glo "LagError")) (h4 : fa[j4]? = some (.glo "WorksError"))
    (x1 : fa[e1]? = some (.exm x "BadTable" false)) (x2 : fa[e2]? = some (.exm x "BadSheet" false)) (x3 : fa[e3]? = some (.exm x "LagError" false)) (x4 : fa[e4]? = some (.exm x "WorksError" true)) : Caught ⟨P, w, K, mg, base, T⟩ x false :=
  ⟨_, _, _, _, _, He.glo_ok X G (c.fact j hj), He.glo_ok X G (c.fact j1 h1), He.glo_ok X G (c.fact j2 h2), He.glo_ok X G (c.fact j3 h3), He.glo_ok X G (c.fact j4 h4), cl.xf, cl.word, .inr ⟨rfl, He.exm_ok (c.fact e1 x1), He.exm_ok (c.fact e2 x2), .inr ⟨He.exm_ok (c.fact e3 x3), He.exm_ok (c.fact e4 x4)⟩⟩⟩
theorem caughtT_of (X : K.In h) (G : h.Ns mainGlobals mg) (c : He.SaysD fa fn K) (cl : Cls K x) (j j1 j2 j3 j4 e1 : Nat) (hj : fa[j]? = some (.glo x)) (h1 : fa[j1]? = some (.glo "BadTable")) (h2 : fa[j2]? = some (.glo "BadSheet")) (h3 : fa[j3]? = some (.glo "LagError")) (h4 : fa[j4]? = some (.glo "WorksError"))
    (x1 : fa[e1]? = some (.exm x "BadTable" true)) : Caught ⟨P, w, K, mg, base, T⟩ x true :=
  ⟨_, _, _, _, _, He.glo_ok X G (c.fact j hj), He.glo_ok X G (c.fact j1 h1), He.glo_ok X G (c.fact j2 h2), He.glo_ok X G (c.fact j3 h3), He.glo_ok X G (c.fact j4 h4), cl.xf, cl.word, .inl ⟨rfl, .inl (He.exm_ok (c.fact e1 x1)), cl.at_⟩⟩
theorem caughtS_of (X : K.In h) (G : h.Ns mainGlobals mg) (c : He.SaysD fa fn K) (cl : Cls K x) (j j1 j2 j3 j4 e1 e2 : Nat) (hj : fa[j]? = some (.glo x)) (h1 : fa[j1]? = some (.glo "BadTable")) (h2 : fa[j2]? = some (.glo "BadSheet")) (h3 : fa[j3]? = some (.glo "LagError")) (h4 : fa[j4]? = some (.glo "WorksError"))
    (x1 : fa[e1]? = some (.exm x "BadTable" false)) (x2 : fa[e2]? = some (.exm x "BadSheet" true)) : Caught ⟨P, w, K, mg, base, T⟩ x true :=
  ⟨_, _, _, _, _, He.glo_ok X G (c.fact j hj), He.glo_ok X G (c.fact j1 h1), He.glo_ok X G (c.fact j2 h2), He.glo_ok X G (c.fact j3 h3), He.glo_ok X G (c.fact j4 h4), cl.xf, cl.word, .inl ⟨rfl, .inr ⟨He.exm_ok (c.fact e1 x1), He.exm_ok (c.fact e2 x2)⟩, cl.at_⟩⟩
theorem tried_of {k0 k1 k2 k3 k4 k5 : Nat} {ps : Nat → Pos} (X : K.In h) (G : h.Ns mainGlobals mg) (c : He.SaysD fa fn K) (i j j1 j2 j3 j4 : Nat) (hi : fn[i]? = some ⟨("_law_tried", none), "_law_tried", "_law_tried", defArgs s, defBody s, defScope s, [], []⟩) (hj : fa[j]? = some (.glo "_law_tried"))
    (h1 : fa[j1]? = some (.glo "BadTable")) (h2 : fa[j2]? = some (.glo "BadSheet")) (h3 : fa[j3]? = some (.glo "LagError")) (h4 : fa[j4]? = some (.glo "WorksError")) (hb : defBody s = triedB k0 k1 k2 k3 k4 k5 ps) (S : FnScope ["_law_act", "e"] ["_law_act"] (defScope s))
    (hbi : ∀ (kV doc pm : Value) (an : Option Addr) (cdv ct : Value) (us : List Value), us.length = 1 → bindArgs (PySem.W.fnOf "_law_tried" "_law_tried" (defArgs s) (defBody s) (defScope s) .none kV doc pm an cdv ct) ⟨us, []⟩ = pure ((["_law_act"] : List Str).zip us))
    (hv : (defScope s).names.lookup ("_law_act" : Str) = some .local) (hv2 : (defScope s).names.lookup ("e" : Str) = some .local) (g1 : (defScope s).names.lookup ("BadTable" : Str) = some .globalImplicit) (g2 : (defScope s).names.lookup ("BadSheet" : Str) = some .globalImplicit) (g3 : (defScope s).names.lookup ("LagError" : Str) = some .globalImplicit) (g4 : (defScope s).names.lookup ("WorksError" : Str) = some .globalImplicit) : Tried ⟨P, w, K, mg, base, T⟩ := by
  obtain ⟨fd, F⟩ := c.def_ i hi
  have B := F.bindsN (ps := ["_law_act"]) hbi
  have F' : FunD K "_law_tried" "_law_tried" (defArgs s) (defBody s) (defScope s) [] [] _ fd := F
  rw [hb] at F'
  refine ⟨⟨_, fd, _, _, _, _, _, _, _, _, _, F', He.glo_ok X G (c.fact j hj), S, B, hv, hv2, fun z hz => ?_⟩, ⟨_, _, _, _, He.glo_ok X G (c.fact j1 h1), He.glo_ok X G (c.fact j2 h2), He.glo_ok X G (c.fact j3 h3), He.glo_ok X G (c.fact j4 h4)⟩⟩
  rcases hz with rfl | rfl | rfl | rfl
  · exact g1
  · exact g2
  · exact g3
  · exact g4
theorem code_of {qual : Str} {params : Arguments} {body : List Stmt} {scope : Scope} {q : Str × Option Str} {fd : FuncData} (F : FunD K x qual params body scope [] [] (He.fAd K q) fd) : fd.code = .ref (He.codeOf K q) := by
  obtain ⟨oc, od, dV, kV, doc, pm, an, cdv, ct, osl, rfl, lk, hcd, _, _⟩ := F.ex
  obtain ⟨cc, rfl⟩ := He.codeIn_ref hcd
  rw [He.codeOf_eq (c := cc) lk rfl]
theorem ex_of {exL : List (PySem.W.Frag → Bool)} {f : PySem.W.Frag → Bool} (h : (exL.all fun f => f K) = true) (i : Nat) (hi : exL[i]? = some f) : f K = true := List.all_eq_true.mp h f (List.mem_of_getElem? hi)
end
end DL
namespace DL
open PySem PySem.Spec PyProof.Rows L2
theorem noCX {P : Program} {w : World} {H : Hp} {s : Shared} {e : Value} {s' : Shared} (h : L2.CX P w [] H s (fun _ _ _ => False) e s') : False := by
  obtain ⟨_, _, _, _, _, _, _, _, _, _, _, _, z⟩ := h
  exact z
end DL
namespace DL
open PySem PySem.Spec PyProof.Rows L2
inductive AsL : List En → List D → Prop
  | nil : AsL [] []
  | cons {d : D} {as : List En} {ds : List D} : AsL as ds → AsL (.dat d :: as) (d :: ds)
theorem AsL.eq {as : List En} {ds : List D} (h : AsL as ds) : as = ds.map .dat := by
  induction h with
  | nil => rfl
  | cons _ ih => rw [ih]; rfl
section
variable {Γ : Ctx} {Ψ : Exc → Prop} {ρ : List En} {es : List Expr} {pos : Pos} {ds : List D} {as : List En} {k : Nat}
theorem ev_tupL (h : EVA Γ Ψ ρ es (· = as)) (e : AsL as ds) (hl : Nat.ble ds.length 1000 = true) : EV Γ Ψ ρ (.Tuple es k pos) (· = .tuple ds) := ev_tup1 h e.eq (Nat.le_trans (Nat.le_of_ble_eq_true hl) (by decide))
theorem evn_lstL (h : EVA Γ Ψ ρ es (· = as)) (e : AsL as ds) (hl : Nat.ble ds.length 1000 = true) : EVN Γ Ψ ρ (.List es pos) (· = ds) := evn_lst1 h e.eq (Nat.le_trans (Nat.le_of_ble_eq_true hl) (by decide))
end
end DL
namespace DL
open PySem PySem.Spec PyProof.Rows L2
section
variable {Γ : Ctx} {Ψ : Exc → Prop} {ρ : List En} {c : Expr} {pos : Pos} {p : Pst} {rest ss body orelse : List Stmt}
theorem SD.nx {A B : List En → Prop} (h : SD Γ Ψ ρ ss { p with nx := A }) (i : ∀ ρ', A ρ' → B ρ') : SD Γ Ψ ρ ss { p with nx := B } := ⟨fun {X m F0 G0 F ow σ G H} s =>
  wSs_mono (h.run s) (fun _ _ ⟨ρ', F', ow', G', z, r⟩ => ⟨ρ', F', ow', G', i ρ' z, r⟩) (fun _ _ z => z) (fun _ _ z => z) (fun _ _ z => z)⟩
/-- an if behind which A is known, then the rest -/
theorem sd_ifG {k : Bool} (A : List En → Prop) (hc : EVT Γ Ψ ρ c (· = k)) (ht : k = true → SD Γ Ψ ρ body { p with nx := A }) (hf : k = false → SD Γ Ψ ρ orelse { p with nx := A }) (hr : ∀ ρ', A ρ' → SD Γ Ψ ρ' rest p) : SD Γ Ψ ρ (.If c body orelse pos :: rest) p :=
  sd_if hc (fun z => (ht z).nx hr) fun z => (hf z).nx hr
/-- an if that leaves all as it was -/
theorem sd_ifS {k : Bool} (hc : EVT Γ Ψ ρ c (· = k)) (ht : k = true → SD Γ Ψ ρ body { p with nx := (· = ρ) }) (hf : k = false → SD Γ Ψ ρ orelse { p with nx := (· = ρ) }) (hr : SD Γ Ψ ρ rest p) : SD Γ Ψ ρ (.If c body orelse pos :: rest) p :=
  sd_ifG (· = ρ) hc ht hf fun ρ' e => by rw [e]; exact hr
end
end DL

namespace DL
open PySem PySem.Spec PyProof.Rows L2

/-! ### enumerate over a tuple -/
set_option maxHeartbeats 1000000 in
theorem meets_enum1 {v : Value} {o : Obj} {H : Heap → Prop} (B : Begins v o H) :
    Meets (Builtin.«enumerate.__new__» ⟨[.type "enumerate", v], []⟩) (fun _ R s => H s.heap ∧
      R (.ok (.ret (.ref (s.heap.push o).objs.size))) { s with heap := (s.heap.push o).push { cls := .type "enumerate", data := .fields #[.none, .bool false, .ref s.heap.objs.size, rawInt 0, .none, .none] } }) :=
  .of_wp fun prog w A R s h => by
    obtain ⟨hp, g, d, tk, os⟩ := s; obtain ⟨h1, h⟩ := h
    have hsub := sub_enumerate
    have q1 : ∀ {A' : Around} {E : Value → Shared → Prop} {Q : Value → Shared → Prop}, Q (.ref hp.objs.size) ⟨hp.push o, g, d, tk, os⟩ → wpAny (model prog w) A' (pyIter v) Q E ⟨hp, g, d, tk, os⟩ :=
      fun q => B.iter prog w _ _ ⟨hp, g, d, tk, os⟩ _ h1 q
    wp_walk using q1
    refine wpAny_stack_any fun st => wpAny_pure ?_
    split
    · rename_i c _ _ _ _ _
      cases (c == Value.type "enumerate")
      · wp_walk using q1
        exact ⟨_, rfl, h⟩
      · wp_walk using q1
        exact ⟨_, rfl, h⟩
    · wp_walk using q1
      exact ⟨_, rfl, h⟩
theorem enum_begins1 {prog : Program} {w : World} {A : Around} {E : Value → Shared → Prop} {s : Shared} {v : Value} {o : Obj} {H : Heap → Prop} {Q : Value → Shared → Prop} (B : Begins v o H) (h1 : H s.heap)
    (h : ∀ h', IsEnum h' (s.heap.objs.size + 1) s.heap.objs.size 0 .none → h'.get? s.heap.objs.size = some o → h'.objs.size = s.heap.objs.size + 2 →
      (∀ b o, s.heap.get? b = some o → h'.get? b = some o) → Q (.ref (s.heap.objs.size + 1)) { s with heap := h' }) :
    wpAny (model prog w) A (call (.type "enumerate") [v]) Q E s := by
  refine callType_new F.called_enumerate (by decide) (F.typeCall_enumerate_1 _) (F.newCall_enumerate_1 _) (fun obj => F.args_object_init_2 obj _) F.entry_enumerate_new
    (meets_enum1 B) ⟨h1, ?_⟩
  have hz : (s.heap.push o).objs.size = s.heap.objs.size + 1 := Heap.size_push ..
  show _ ∧ _
  rw [hz]
  have he : IsEnum ((s.heap.push o).push { cls := .type "enumerate", data := .fields #[.none, .bool false, .ref s.heap.objs.size, rawInt 0, .none, .none] }) (s.heap.objs.size + 1) s.heap.objs.size 0 .none := by
    have := Heap.get?_push_size (s.heap.push o) (o := { cls := .type "enumerate", data := .fields #[.none, .bool false, .ref s.heap.objs.size, rawInt 0, .none, .none] }) rfl
    rw [hz] at this; exact this
  refine ⟨⟨_, he, rfl⟩, h _ he (Heap.get?_push_of_some _ (Heap.get?_push_size _ B.free)) (by rw [Heap.size_push, hz]) fun b o x => Heap.get?_push_of_some _ (Heap.get?_push_of_some _ x)⟩
/-- the tuple at a, numbered -/
def IteT (K : PySem.W.Frag) (a : Addr) : It :=
  ⟨fun i H => ∃ (xs : List V) (x : V), SqT K H a xs ∧ xs[i]? = some x, fun i H v H' => ∃ T x, v = .ref T ∧ H T = none ∧ H' = upd H T (.tup [.int (i : Nat), x]) ∧ ∀ xs, SqT K H a xs → xs[i]? = some x, fun i H => ∃ xs : List V, SqT K H a xs ∧ xs.length ≤ i⟩
theorem turn_enumT {P : Program} {w : World} {K : PySem.W.Frag} {elts : List Expr} {kk : Nat} {tpos : Pos} (a e it : Addr) (hai : a ≠ it) (hae : a ≠ e) :
    Turn P w K (.Tuple elts kk tpos) (IteT K a) [e, it] e (fun i h => (∃ old, IsEnum h e it ((i : Nat) : Int) old) ∧ h.IsTupleIter it a i ∧ e ≠ it) where
  mem := by simp
  obj := fun i h st b hb => by
    obtain ⟨⟨old, he⟩, ⟨o, ho, hc, hd⟩, _⟩ := st
    have e' : b = e ∨ b = it := by simpa using hb
    rcases e' with z | z
    · rw [z]; exact ⟨_, he, fun v q => nomatch q⟩
    · rw [z]; exact ⟨o, ho, fun v q => by rw [hd] at q; cases q⟩
  keep := fun i h h' st k => let ⟨⟨old, he⟩, hi, hne⟩ := st; ⟨⟨old, k e (by simp) _ he⟩, hi.at fun o q => k it (by simp) o q, hne⟩
  item := by
    intro X hP hw hK hc i pins s σ H E I hf st hg
    subst hP hw hK
    obtain ⟨⟨old, he⟩, hit, hne⟩ := st
    obtain ⟨xs, x, hq, hx⟩ := hg
    obtain ⟨its, rv, p, hz⟩ := I.tuple hq
    obtain ⟨u, hu, ru⟩ := rv.get hx
    have hel : e < s.heap.objs.size := Heap.lt_size he
    have hil : it < s.heap.objs.size := by obtain ⟨_, q, _⟩ := hit; exact Heap.lt_size q
    have hlt : i < its.toArray.size := by
      have := (List.getElem?_eq_some_iff.mp hu).1
      simpa using this
    refine wpAny_pyNext_enum_itemD (Draws.tuple (show X.A.in1.handled = none from I.ok.hd hc) it a hai its.toArray) he ⟨hit, p⟩ hlt hne (by simp [hne, Ne.symm hae]) fun y h' tk hy ho hit' hT hsz hk => ?_
    have ey : y = u := by
      have : its.toArray[i]? = some u := by simpa using hu
      rw [this] at hy
      exact (Option.some.inj hy).symm
    subst ey
    refine ⟨_, rfl, wpAny_letOwnedTupleGo_enum (s := { s with heap := h', toks := tk + 1 }) ho fun h'' he' sb => ?_⟩
    have hT2 : h''.get? s.heap.objs.size = some { cls := .type "tuple", data := .seq #[.int i tk, y] } := (sb.2 _ (Nat.ne_of_gt hel)).trans hT
    have new : ObjOk X.prog X.w (upd H s.heap.objs.size (.tup [.int (i : Nat), x])) h'' s.heap.objs.size (.tup [.int (i : Nat), x]) :=
      ⟨by show 2 ≤ sizeLine; decide, [.int i tk, y], .cons ⟨_, rfl⟩ (.cons ru .nil), ⟨_, hT2, rfl, _, rfl⟩⟩
    have I1 : Inv X pins σ (upd H s.heap.objs.size (.tup [.int (i : Nat), x])) { s with heap := h'', toks := tk + 1 } :=
      I.turnedNew (ch := [e, it]) (fun b ob hb q => (sb.2 b (fun z => hb (by simp [z]))).trans (hk b ob (fun z => hb (by simp [z])) (fun z => hb (by simp [z])) q)) hf (Nat.le_refl _) new
    refine ⟨.ref s.heap.objs.size, _, I1, rfl, ⟨_, x, rfl, I.hok.fresh (Nat.le_refl _), rfl, fun ys hy => by rw [I.tuple_inj hy hq]; exact hx⟩, ⟨⟨y, ?_⟩, hit'.1.at fun o q => (sb.2 it (Ne.symm hne)).trans q, hne⟩, fun b hb => ?_⟩
    · have e1 : ((i + 1 : Nat) : Int) = (i : Int) + 1 := by omega
      rw [e1]; exact he'
    · have hb' : b < s.heap.objs.size := by
        have e' : b = e ∨ b = it := by simpa using hb
        rcases e' with z | z
        · rw [z]; exact hel
        · rw [z]; exact hil
      rw [upd_ne (Nat.ne_of_lt hb')]
      exact (hf b hb).1
  done := by
    intro X hP hw hK hc i pins s σ H E I hf st hg
    subst hP hw hK
    obtain ⟨⟨old, he⟩, hit, hne⟩ := st
    obtain ⟨xs, hq, hx⟩ := hg
    obtain ⟨its, rv, p, hz⟩ := I.tuple hq
    obtain ⟨f0, f1, f2, f3, f4, f5⟩ := hf it (by simp)
    have hl := rv.length
    have D : Draws X.prog X.w X.A.in1 it [it, a] i (fun _ _ => True) (fun j h => j = i ∧ h.IsTupleIter it a j ∧ h.IsTuple a its.toArray) := {
      live := fun _ _ st => let ⟨o, ho, _⟩ := st.2.1; ⟨o, ho⟩
      frame := fun _ _ _ st hk => ⟨st.1, st.2.1.at fun o e => hk it (by simp) o e, st.2.2.at fun o e => hk a (by simp) o e⟩
      item := fun j s Q E hj st hQ => absurd hj (by rw [st.1]; exact Nat.lt_irrefl _)
      done := fun s Q E st hE => wpAny_nextOf_tuple_end (show X.A.in1.handled = none from I.ok.hd hc) st.2.1 st.2.2 (by simp; omega) hE }
    exact wpAny_pyNext_enum_endD D he ⟨rfl, hit, p⟩ fun h' eb => ⟨rfl, I.turned (t' := s.toks) (fun b o hb q => eb b o hb q) f0 f1 f3 f4 f5⟩
  self := fun A i s Q E st h => let ⟨⟨_, he⟩, _⟩ := st; wpAny_pyIter_enum he h
def iEnumT (K : PySem.W.Frag) (ta : TA) : TI := fun σ H R => ta σ H fun vs H1 => ∃ a xs, vs = [.ref a] ∧ SqT K H1 a xs ∧ R (IteT K a) H1
theorem pi_enumT {X : Cx} {e : Expr} {ta : TA} {p pos tpos : Pos} {elts : List Expr} {kk : Nat} (hg : Gl X "enumerate") (hm : X.mg "enumerate" = none) (ha : PA X [e] ta) (hs : starEach [e] X.env = [(false, eval e X.env)] := by rfl) :
    PI X (.Tuple elts kk tpos) (.Call (.Name "enumerate" p) [e] [] pos) (iEnumT X.K ta) := by
  refine ⟨fun pins s σ H R I h => ?_⟩
  refine Call_ (ld_blt I hg hm boot_enumerate (PyProof.Rows.callWith_type1 (thn (ha.run pos pins s σ H _ I h) fun us s1 ⟨vs, H1, I1, r1, q1⟩ => ?_) hs rfl))
  obtain ⟨a, xs, ex, hq, q⟩ := q1
  subst ex
  cases r1 with
  | cons r rr =>
    cases rr
    cases r
    obtain ⟨its, rv, p', hz⟩ := I1.tuple hq
    have hal : a < s1.heap.objs.size := p'.lt
    refine enum_begins1 (begins_tuple a its.toArray) p' fun h' he hit hsz hk => wpAny_pyIter_enum he ?_
    have I2 : Inv X pins σ H1 { s1 with heap := h' } := I1.kept (t' := s1.toks) hk
    refine ⟨s1.heap.objs.size + 1, [s1.heap.objs.size + 1, s1.heap.objs.size], _, _, H1, rfl, I2, turn_enumT a (s1.heap.objs.size + 1) s1.heap.objs.size (Nat.ne_of_lt hal) (Nat.ne_of_lt (Nat.lt_succ_of_lt hal)), ⟨⟨.none, he⟩, ⟨_, hit, rfl, rfl⟩, Nat.succ_ne_self _⟩, fun b hb => ?_, q⟩
    have e' : b = s1.heap.objs.size + 1 ∨ b = s1.heap.objs.size := by simpa using hb
    have hle : s1.heap.objs.size ≤ b := by
      rcases e' with z | z
      · rw [z]; exact Nat.le_add_right _ _
      · rw [z]; exact Nat.le_refl _
    exact I1.fpOk hle (I1.hok.fresh hle)
section
variable {Γ : Ctx} {Ψ : Exc → Prop} {ρ : List En} {a : Expr} {pos pp tpos : Pos} {xs : List D} {kk : Nat} {elts : List Expr}
theorem evi_enumT (ha : EV Γ Ψ ρ a (· = .tuple xs)) (hm : Γ.g.mg "enumerate" = none) (hg : glB Γ.sc "enumerate" = true := by kernel_rfl) (hs : ∀ env, starEach [a] env = [(false, eval a env)] := by intro _; kernel_rfl) : EVI Γ Ψ ρ (.Tuple elts kk tpos) (.Call (.Name "enumerate" pp) [a] [] pos) (· = zipD (rangeD 0 xs.length) xs) := ⟨fun {X m F0 G0 F ow σ G H} s R q => ⟨_, pi_enumT (s.f.gl hg) (by rw [s.f.mg]; exact hm) pa_w (hs _), (eva_cons1 ha eva_nil fun env => by rw [hs]; rfl).run s _ fun as vs G2 H2 p2 e2 s2 d2 => by
  subst p2
  obtain ⟨va, rfl, da⟩ := args1 d2
  obtain ⟨pa, us, rfl, h1, r1⟩ := sqT_tup da
  refine ⟨pa, us, rfl, by rw [← s.x.K]; exact same_t s2.same h1, q _ _ G2 H2 rfl e2 s2 fun i F' G' H' e' s' => ?_⟩
  have k1 := same_t (e'.trans s'.same) h1
  rw [← s.x.K]
  refine ⟨fun hi => ⟨us, k1, ?_⟩, fun d hd => ?_⟩
  · rw [zipD_len, rangeD_len] at hi
    have e1 := dps_len r1
    omega
  · obtain ⟨u, v, g1, g2, rfl⟩ := zipD_get hd
    obtain ⟨_, rfl⟩ := rangeD_get g1
    obtain ⟨y1, f1, r1⟩ := dps_get r1 g2
    refine ⟨⟨us, y1, k1, f1⟩, fun x H' y => ?_⟩
    obtain ⟨T, z1, rfl, hT, rfl, w1⟩ := y
    have e1 := w1 us k1
    rw [f1] at e1
    cases e1
    have hG := s'.freshG hT
    exact ⟨upd G' T (.tup [.int (i : Nat), y1]), same_upd hG, s'.alloc hT, .tup (SqT.of upd_same) (.cons (by rw [Int.zero_add]; exact .int _) (dps_mono (e'.trans (same_upd hG)) (.cons r1 .nil)))⟩⟩⟩
end
end DL

namespace DL
open PySem PySem.Spec PyProof.Rows L2
/-! ### tuple * int, any int -/
theorem tuple_mul0 (l : Addr) (items : Array Value) (n : Nat) (dd : Option Addr) (sl : Array (Option Value)) (x : Int) (u : Tok) (c0 : (decide (x < -(2 ^ 63)) || decide (x ≥ 2 ^ 63)) = false) (c1 : (items.isEmpty || x == 1) = false) (c2 : (decide (x ≤ 0) || items.isEmpty) = true) :
    Meets (Builtin.«tuple.__mul__» ⟨[.ref l, .int x u], []⟩) (fun _ R s => s.heap.get? l = some { cls := .type "tuple", dict := dd, data := .seq items n, slots := sl } ∧
      R (.ok (.ret (Value.ref s.heap.objs.size))) { s with heap := s.heap.push { cls := Value.type "tuple", data := Data.seq #[] }, toks := s.toks }) :=
  .of_wp fun prog w A R s h => by
    obtain ⟨hp, g, d, tk, os⟩ := s
    obtain ⟨hl, h⟩ := h
    have f1 := AutoSeq1.idx_int
    wp_walk using wpAny_loadPart' hl
    repeat (first
      | (refine wpAny_ite_false (decide_eq_false (by rw [c0]; exact Bool.false_ne_true)) ?_; wp_walk using wpAny_loadPart' hl)
      | (refine wpAny_ite_false (decide_eq_false (by rw [c1]; exact Bool.false_ne_true)) ?_; wp_walk using wpAny_loadPart' hl)
      | (refine wpAny_ite_true (decide_eq_true c2) ?_; wp_walk using wpAny_loadPart' hl))
    exact ⟨_, rfl, h⟩
theorem tuple_mul1 (l : Addr) (items : Array Value) (n : Nat) (dd : Option Addr) (sl : Array (Option Value)) (x : Int) (u : Tok) (c0 : (decide (x < -(2 ^ 63)) || decide (x ≥ 2 ^ 63)) = false) (c1 : (items.isEmpty || x == 1) = true) :
    Meets (Builtin.«tuple.__mul__» ⟨[.ref l, .int x u], []⟩) (fun _ R s => s.heap.get? l = some { cls := .type "tuple", dict := dd, data := .seq items n, slots := sl } ∧
      R (.ok (.ret (Value.ref l))) s) :=
  .of_wp fun prog w A R s h => by
    obtain ⟨hp, g, d, tk, os⟩ := s
    obtain ⟨hl, h⟩ := h
    have f1 := AutoSeq1.idx_int
    wp_walk using wpAny_loadPart' hl
    repeat (first
      | (refine wpAny_ite_false (decide_eq_false (by rw [c0]; exact Bool.false_ne_true)) ?_; wp_walk using wpAny_loadPart' hl)
      | (refine wpAny_ite_true (decide_eq_true c1) ?_; wp_walk using wpAny_loadPart' hl))
    exact ⟨_, rfl, h⟩
def rRepA (K : PySem.W.Frag) : R2 := fun x y H Q => ∃ l k xs, x = .ref l ∧ y = .int k ∧ SqT K H l xs ∧ xs ≠ [] ∧ -1000 ≤ k ∧ k ≤ 1000 ∧ xs.length ≤ 1000 ∧ (k = 1 → Q (.ref l) H) ∧ (k ≠ 1 → ∀ p, H p = none → Q (.ref p) (upd H p (.tup (List.replicate k.toNat xs).flatten)))
theorem op_repA {X : Cx} : OpR X (binaryOp .Mult) (rRepA X.K) := by
  intro pins s σ H x y v u Q I rx ry h
  obtain ⟨l, k, xs, rfl, rfl, hT, hne, h0, h2, hz, q1, q⟩ := h
  by_cases hk : 2 ≤ k
  · exact op_repT pins s σ H _ _ v u Q I rx ry ⟨l, k, xs, rfl, rfl, hT, hne, hk, h2, hz, q (by omega)⟩
  cases rx
  obtain ⟨t, rfl⟩ := ry
  obtain ⟨its, r, ⟨⟨cls, dd, data, sl⟩, ho, hc, n, hd⟩, hs⟩ := I.tuple hT
  simp only at hc hd
  subst hc hd
  have hle : its.length = xs.length := r.length.symm
  have hn : its ≠ [] := fun e => hne (by
    rw [e] at hle
    exact List.eq_nil_of_length_eq_zero hle.symm)
  have hi : its.toArray.isEmpty = false := by
    cases its with
    | nil => exact absurd rfl hn
    | cons a b => rfl
  have c0 : (decide (k < -(2 ^ 63)) || decide (k ≥ 2 ^ 63)) = false := by
    rw [decide_eq_false (by omega), decide_eq_false (by omega)] <;> rfl
  by_cases hk1 : k = 1
  · have c1 : (its.toArray.isEmpty || k == 1) = true := by
      rw [hi, Bool.false_or]
      exact beq_iff_eq.mpr hk1
    exact wpAny_binaryOp_repeat_ref (T := "tuple") (U := "int") (by decide) ⟨_, ho, rfl⟩ (fun s' => typeIs_int s' k t) noFill_tuple_mul F.fills_int_mul F.slot_int_rmul repeat_tuple F.slot_int_index.lookup
      (call_meets F.slot_int_rmul (typeIs_int s k t) F.entry_int_rmul (F.args_int_rmul_2 _ _) (int_rmul_tuple k t l its.toArray n dd sl)
        ⟨ho, rfl, ⟨_, ho, rfl⟩, call_meets F.slot_tuple_mul ⟨_, ho, rfl⟩ F.entry_tuple_mul (F.args_tuple_mul_2 _ _) (tuple_mul1 l its.toArray n dd sl k t c0 c1) ⟨ho, .ref l, H, I, rfl, q1 hk1⟩⟩)
  · have c1 : (its.toArray.isEmpty || k == 1) = false := by
      rw [hi, Bool.false_or]
      exact beq_eq_false_iff_ne.mpr hk1
    have c2 : (decide (k ≤ 0) || its.toArray.isEmpty) = true := by
      rw [decide_eq_true (by omega)]
      rfl
    have e : (List.replicate k.toNat xs).flatten = [] := by
      rw [show k.toNat = 0 by omega]
      rfl
    have q' := q hk1
    rw [e] at q'
    refine wpAny_binaryOp_repeat_ref (T := "tuple") (U := "int") (by decide) ⟨_, ho, rfl⟩ (fun s' => typeIs_int s' k t) noFill_tuple_mul F.fills_int_mul F.slot_int_rmul repeat_tuple F.slot_int_index.lookup
      (call_meets F.slot_int_rmul (typeIs_int s k t) F.entry_int_rmul (F.args_int_rmul_2 _ _) (int_rmul_tuple k t l its.toArray n dd sl)
        ⟨ho, rfl, ⟨_, ho, rfl⟩, call_meets F.slot_tuple_mul ⟨_, ho, rfl⟩ F.entry_tuple_mul (F.args_tuple_mul_2 _ _) (tuple_mul0 l its.toArray n dd sl k t c0 c1 c2) ⟨ho, ?_⟩⟩)
    refine ⟨.ref s.heap.objs.size, _, I.laid (t' := s.toks) (o := .tup []) (fun b ob q => Heap.get?_push_of_some _ q) (Nat.le_refl _) ?_, rfl, q' _ (I.hok.fresh (Nat.le_refl _))⟩
    exact ⟨Nat.zero_le _, [], .nil, IsTup.new _ _⟩
section
variable {Γ : Ctx} {Ψ : Exc → Prop} {ρ ρ' : List En} {a b c e : Expr} {lo hi : Option Expr} {pos pp p2 p3 p4 tpos spos npos : Pos} {p : Pst} {rest ss : List Stmt} {d : D} {ds xs ys : List D} {x y : Str} {i j : Nat} {as : List En} {k : Int} {l u : Option Int} {ns ms : List Int}
theorem dps_repF {K : PySem.W.Frag} {G : Hp} {vs : List V} {xs : List D} (h1 : DpAll K G vs xs) : ∀ n : Nat, DpAll K G (List.replicate n vs).flatten (List.replicate n xs).flatten
  | 0 => .nil
  | n + 1 => by
    rw [List.replicate_succ, List.replicate_succ, List.flatten_cons, List.flatten_cons]
    exact dps_app h1 (dps_repF h1 n)
theorem dps_nil {K : PySem.W.Frag} {G : Hp} {vs : List V} {xs : List D} (h : DpAll K G vs xs) : vs = [] ↔ xs = [] := by
  cases h with
  | nil => simp
  | cons _ _ => simp
/-- a tuple and a tuple -/
theorem ev_catT (ha : EV Γ Ψ ρ a (· = .tuple xs)) (hb : EV Γ Ψ ρ b (· = .tuple ys)) (hl : xs.length + ys.length ≤ sizeLine) : EV Γ Ψ ρ (.BinOp a .Add b pos) (· = .tuple (xs ++ ys)) :=
  ev_op (r := rCatA Γ.g.K) (fun X f => by rw [← f.K]; exact op_catA) ha hb fun x' y' h1 h2 => by
    subst h1 h2
    intro m F G H vx vy Q eK s d1 d2 q
    generalize Γ.g.K = K0 at eK d1 d2 q ⊢
    subst eK
    obtain ⟨pa, us, rfl, s1, r1⟩ := sqT_tup d1
    obtain ⟨pb, ws, rfl, s2, r2⟩ := sqT_tup d2
    refine ⟨pa, pb, us, ws, rfl, rfl, same_t s.same s1, same_t s.same s2, by rw [dps_len r1, dps_len r2]; exact hl, fun z => ?_, fun z1 z2 => ?_, fun z1 z2 p hp => ?_⟩
    · refine q _ _ G H rfl (Same.refl _) s ?_
      rw [(dps_nil r1).mp z, List.nil_append]
      exact d2
    · refine q _ _ G H rfl (Same.refl _) s ?_
      rw [(dps_nil r2).mp z2, List.append_nil]
      exact d1
    · have hG := s.freshG hp
      exact q _ _ _ _ rfl (same_upd hG) (s.alloc hp) (.tup (SqT.of upd_same) (dps_mono (same_upd hG) (dps_app r1 r2)))
theorem ev_repT (ha : EV Γ Ψ ρ a (· = .tuple xs)) (hb : EV Γ Ψ ρ b (· = .int k)) (hx : xs ≠ []) (hl : xs.length ≤ 1000) (h0 : -1000 ≤ k) (h1 : k ≤ 1000) : EV Γ Ψ ρ (.BinOp a .Mult b pos) (· = .tuple (List.replicate k.toNat xs).flatten) :=
  ev_op (r := rRepA Γ.g.K) (fun X f => by rw [← f.K]; exact op_repA) ha hb fun x' y' h1' h2 => by
    subst h1' h2
    intro m F G H vx vy Q eK s d1 d2 q
    generalize Γ.g.K = K0 at eK d1 d2 q ⊢
    subst eK
    obtain ⟨pa, us, rfl, s1, r1⟩ := sqT_tup d1
    cases d2
    refine ⟨pa, k, us, rfl, rfl, same_t s.same s1, fun z => hx ((dps_nil r1).mp z), h0, h1, by rw [dps_len r1]; exact hl, fun z => ?_, fun z p hp => ?_⟩
    · refine q _ _ G H rfl (Same.refl _) s ?_
      rw [z, show (1 : Int).toNat = 1 from rfl, List.replicate_one, List.flatten_singleton]
      exact d1
    · have hG := s.freshG hp
      exact q _ _ _ _ rfl (same_upd hG) (s.alloc hp) (.tup (SqT.of upd_same) (dps_mono (same_upd hG) (dps_repF r1 _)))
/-! ### slices -/
def cutD {α : Type} (xs : List α) (lo hi : Option Int) : List α := (xs.drop (HT.sIx xs.length 0 lo)).take (HT.sIx xs.length xs.length hi - HT.sIx xs.length 0 lo)
theorem dps_cut {K : PySem.W.Frag} {G : Hp} {vs : List V} {xs : List D} (h : DpAll K G vs xs) (lo hi : Option Int) : DpAll K G (cutV vs lo hi) (cutD xs lo hi) := by
  unfold cutV cutD
  rw [dps_len h]
  exact dps_take _ (dps_drop _ h)
def wO (X : Cx) (e : Option Expr) : TO := fun σ H Q => ∃ t, PO X e t ∧ t σ H Q
theorem po_w {X : Cx} {e : Option Expr} : PO X e (wO X e) := ⟨fun pins s σ H Q I h => by
  obtain ⟨t, ht, q⟩ := h
  exact ht.run pins s σ H Q I q⟩
structure EVO (Γ : Ctx) (Ψ : Exc → Prop) (ρ : List En) (e : Option Expr) (o : Option Int) : Prop where
  run : ∀ {X : Cx} {m : Pm} {F0 G0 F : Hp} {ow : Nat → Addr} {σ : L2.St} {G H : Hp}, Stt Γ X Ψ ρ m F0 G0 F ow σ G H →
    ∀ Q : Option Int → Hp → Prop, (∀ G2 H2, Same G G2 → St0 m F G2 H2 → Q o H2) → wO X e σ H Q
theorem evo_none : EVO Γ Ψ ρ none none := ⟨fun {X m F0 G0 F ow σ G H} s Q q => ⟨_, po_none, q G H (Same.refl _) s.st⟩⟩
theorem evo_some (ha : EV Γ Ψ ρ a (· = .int k)) : EVO Γ Ψ ρ (some a) (some k) := ⟨fun {X m F0 G0 F ow σ G H} s Q q => ⟨_, po_some pe_w, ha.run s _ fun d v G2 H2 p2 e2 s2 d2 => by
  subst p2
  cases d2
  exact ⟨k, rfl, q G2 H2 e2 s2⟩⟩⟩
theorem evn_sl (ha : EV Γ Ψ ρ a (· = .list xs)) (hl : EVO Γ Ψ ρ lo l) (hu : EVO Γ Ψ ρ hi u) : EVN Γ Ψ ρ (.Subscript a (.Slice lo hi none p2) pos) (· = cutD xs l u) := ⟨fun {X m F0 G0 F ow σ G H} s Q q => ⟨_, pe_slice sl_list pe_w po_w po_w, ha.run s _ fun d v G2 H2 p2 e2 s2 d2 => hl.run (s.next e2 s2) _ fun G3 H3 e3 s3 => hu.run (s.next (e2.trans e3) s3) _ fun G4 H4 e4 s4 => by
  subst p2
  obtain ⟨aa, vs, rfl, h1, h2⟩ := sqL_list d2
  refine ⟨aa, vs, rfl, by rw [← s.x.K]; exact same_l ((e3.trans e4).trans s4.same) h1, fun p hp => ?_⟩
  exact q _ p _ G4 _ rfl ((e2.trans e3).trans e4) (s4.freshF hp) (s4.allocF hp) (dps_mono (e3.trans e4) (dps_cut h2 l u))⟩⟩
theorem ev_slT (ha : EV Γ Ψ ρ a (· = .tuple xs)) (hl : EVO Γ Ψ ρ lo l) (hu : EVO Γ Ψ ρ hi u) : EV Γ Ψ ρ (.Subscript a (.Slice lo hi none p2) pos) (· = .tuple (cutD xs l u)) := ⟨fun {X m F0 G0 F ow σ G H} s Q q => ⟨_, pe_slice sl_tupA pe_w po_w po_w, ha.run s _ fun d v G2 H2 p2 e2 s2 d2 => hl.run (s.next e2 s2) _ fun G3 H3 e3 s3 => hu.run (s.next (e2.trans e3) s3) _ fun G4 H4 e4 s4 => by
  subst p2
  obtain ⟨aa, vs, rfl, h1, h2⟩ := sqT_tup d2
  refine ⟨aa, vs, rfl, by rw [← s.x.K]; exact same_t ((e3.trans e4).trans s4.same) h1, fun z => ?_, fun _ p hp => ?_⟩
  · refine q _ _ G4 H4 rfl ((e2.trans e3).trans e4) s4 ?_
    have e : cutD xs l u = xs := by
      unfold cutD
      rw [← dps_len h2, z.1, z.2, List.drop_zero, Nat.sub_zero, dps_len h2, List.take_length]
    rw [e]
    exact dp_mono (e3.trans e4) d2
  · have hG := s4.freshG hp
    exact q _ _ _ _ rfl (((e2.trans e3).trans e4).trans (same_upd hG)) (s4.alloc hp) (.tup (SqT.of upd_same) (dps_mono ((e3.trans e4).trans (same_upd hG)) (dps_cut h2 l u)))⟩⟩
end
end DL

namespace DL
open PySem PySem.Spec PyProof.Rows L2
section
variable {Γ : Ctx} {Ψ : Exc → Prop} {ρ ρ' ρ'' : List En} {a b c e idx : Expr} {pos pp p2 p3 p4 tpos spos npos px py pt pt2 : Pos} {p : Pst} {rest ss : List Stmt} {d d' : D} {ds xs ys : List D} {x y : Str} {i j kt k2 : Nat} {as : List En} {k n : Int}
theorem upd_ne_none {F : Hp} {p q : Addr} {o : HO} (h : upd F p o q = none) : q ≠ p ∧ F q = none := by
  by_cases z : q = p
  · rw [z, upd_same] at h
    cases h
  · rw [upd_ne z] at h
    exact ⟨z, h⟩
/-- new list and new list -/
theorem evn_cat (ha : EVN Γ Ψ ρ a (· = xs)) (hb : EVN Γ Ψ ρ b (· = ys)) (hl : xs.length + ys.length ≤ sizeLine) : EVN Γ Ψ ρ (.BinOp a .Add b pos) (· = xs ++ ys) := ⟨fun {X m F0 G0 F ow σ G H} s Q q => ⟨_, pe_op op_cat pe_w pe_w, ha.run s _ fun ds1 p1 vs1 G1 H1 e1 sm1 hF1 st1 dp1 => hb.run (F := upd F p1 (.lst vs1)) ⟨s.f, s.x, s.s0.trans sm1, (s.sl.mono sm1).grow hF1, st1⟩ _ fun ds2 p2 vs2 G2 H2 e2 sm2 hF2 st2 dp2 => by
  subst e1 e2
  obtain ⟨ne, hF2'⟩ := upd_ne_none hF2
  have h2 := st2.fr p2 _ upd_same
  have h1 := st2.fr p1 (.lst vs1) (by rw [upd_ne (Ne.symm ne), upd_same])
  refine ⟨p1, p2, vs1, vs2, rfl, rfl, h1.1, h2.1, by rw [dps_len dp1, dps_len dp2]; exact hl, fun r hr => ?_⟩
  have st3 := st2.freeze hF2
  have sm3 : Same G2 (upd G2 p2 (.lst vs2)) := same_upd h2.2
  have st4 := st3.freeze hF1
  have sm4 : Same (upd G2 p2 (.lst vs2)) (upd (upd G2 p2 (.lst vs2)) p1 (.lst vs1)) := same_upd (by rw [upd_ne (Ne.symm ne)]; exact h1.2)
  exact q _ r _ _ _ rfl (((sm1.trans sm2).trans sm3).trans sm4) (st4.freshF hr) (st4.allocF hr) (dps_app (dps_mono ((sm2.trans sm3).trans sm4) dp1) (dps_mono (sm3.trans sm4) dp2))⟩⟩
/-- new list times a number -/
theorem evn_rep (ha : EVN Γ Ψ ρ a (· = xs)) (hb : EV Γ Ψ ρ b (· = .int k)) (h0 : -(2 ^ 63) ≤ k) (h1 : k < 2 ^ 63) (hl : xs.length * k.toNat ≤ sizeLine) : EVN Γ Ψ ρ (.BinOp a .Mult b pos) (· = (List.replicate k.toNat xs).flatten) := ⟨fun {X m F0 G0 F ow σ G H} s Q q => ⟨_, pe_op op_rep pe_w pe_w, ha.run s _ fun ds1 p1 vs1 G1 H1 e1 sm1 hF1 st1 dp1 => hb.run (F := upd F p1 (.lst vs1)) ⟨s.f, s.x, s.s0.trans sm1, (s.sl.mono sm1).grow hF1, st1⟩ _ fun d2 v2 G2 H2 e2 sm2 st2 dp2 => by
  subst e1 e2
  cases dp2
  have h1' := st2.fr p1 (.lst vs1) upd_same
  refine ⟨p1, k, vs1, rfl, rfl, h1'.1, h0, h1, by rw [dps_len dp1]; exact hl, fun r hr => ?_⟩
  have st4 := st2.freeze hF1
  have sm4 : Same G2 (upd G2 p1 (.lst vs1)) := same_upd h1'.2
  exact q _ r _ _ _ rfl ((sm1.trans sm2).trans sm4) (st4.freshF hr) (st4.allocF hr) (dps_repF (dps_mono (sm2.trans sm4) dp1) _)⟩⟩
/-- x[k] of an own list -/
theorem ev_ixO (hx : Look Γ.N ρ x (.own ds) i) (hb : EV Γ Ψ ρ idx (· = .int k)) (h : atI ds k = some d) (hv : visB Γ.sc x = true := by kernel_rfl) (hd : (x == ("__debug__" : Str)) = false := by kernel_rfl) (hcd : (x == ("__classdict__" : Str)) = false := by kernel_rfl) (hp : PlainIx idx := by intro _ _; kernel_rfl) : EV Γ Ψ ρ (.Subscript (.Name x pp) idx pos) (· = d) := ⟨fun {X m F0 G0 F ow σ G H} s Q q => by
  obtain ⟨h1, vs, h2, h3⟩ := s.sl.ok i _ hx.at.2
  refine ⟨_, pe_ix ix_list (pe_var (s.f.nth hx.at.1) (s.f.vis hv) hd hcd) pe_w hp, .ref (ow i), h1, hb.run s _ fun d2 v2 G2 H2 e2 sm2 st2 dp2 => ?_⟩
  subst e2
  cases dp2
  obtain ⟨v, g1, g2⟩ := dps_at h3 h
  exact ⟨ow i, vs, k, v, rfl, rfl, SqL.of (st2.fr _ _ h2).1, g1, q _ _ G2 H2 rfl sm2 st2 (dp_mono sm2 g2)⟩⟩
theorem ev_lenO (hx : Look Γ.N ρ x (.own ds) i) (hm : Γ.g.mg "len" = none) (hg : glB Γ.sc "len" = true := by kernel_rfl) (hv : visB Γ.sc x = true := by kernel_rfl) (hd : (x == ("__debug__" : Str)) = false := by kernel_rfl) (hcd : (x == ("__classdict__" : Str)) = false := by kernel_rfl) (hs : ∀ env, starEach [.Name x p2] env = (false, eval (.Name x p2) env) :: starEach [] env := by intro _; kernel_rfl) : EV Γ Ψ ρ (.Call (.Name "len" pp) [.Name x p2] [] pos) (· = .int (ds.length : Nat)) := ⟨fun {X m F0 G0 F ow σ G H} s Q q => by
  obtain ⟨h1, vs, h2, h3⟩ := s.sl.ok i _ hx.at.2
  refine ⟨_, pe_callB call_len (s.f.gl hg) (by rw [s.f.mg]; exact hm) boot_len (pa_cons (pe_var (s.f.nth hx.at.1) (s.f.vis hv) hd hcd) pa_nil (hs _)) (he := hs _), .ref (ow i), h1, ?_⟩
  refine ⟨.ref (ow i), ds.length, rfl, .inl ⟨vs, SqL.of (s.st.fr _ _ h2).1, (dps_len h3).symm⟩, ?_⟩
  exact q _ _ G H rfl (Same.refl _) s.st (.int _)⟩
/-- x[k] = e of an own list -/
theorem sd_subO (he : EV Γ Ψ ρ e (· = d)) (hb : EV Γ Ψ ρ idx (· = .int k)) (hx : Look Γ.N ρ x (.own ds) i) (hj : ixN ds.length k = some j) (hp : Put Γ.N ρ x (.own (ds.set j d)) ρ' i) (h : SD Γ Ψ ρ' rest p)
    (hv : visB Γ.sc x = true := by kernel_rfl) (hd : (x == ("__debug__" : Str)) = false := by kernel_rfl) (hcd : (x == ("__classdict__" : Str)) = false := by kernel_rfl)
    (ha : ∀ env v, assign (.Subscript (.Name x pp) idx tpos) env v = (do
      let ov ← holding [v] (eval (.Name x pp) env)
      let iv ← holding [v, ov] (eval idx env)
      standAt tpos
      holding [v, ov, iv] (setItem ov iv v)
      release [v, ov, iv] []) := by intro _ _; kernel_rfl)
    (hs : ∀ env, swapsWithSole [.Subscript (.Name x pp) idx tpos] e pos.line env = pure false := by intro _; kernel_rfl) (hw : ∀ env, swappedStores [.Subscript (.Name x pp) idx tpos] e env = pure none := by intro _; kernel_rfl)
    (h1 : ∀ env, (assignEach [.Subscript (.Name x pp) idx tpos] env).map (·.2) = [assign (.Subscript (.Name x pp) idx tpos) env] := by intro _; kernel_rfl) :
    SD Γ Ψ ρ (.Assign [.Subscript (.Name x pp) idx tpos] e pos :: rest) p := ⟨fun {X m F0 G0 F ow σ G H} s => by
  obtain ⟨g1, vs, g2, g3⟩ := s.sl.ok i _ hx.at.2
  refine ⟨_, pss_cons (ps_asg pe_w (pg_sub (pe_var (s.f.nth hx.at.1) (s.f.vis hv) hd hcd) pe_w set_list (ha _)) (hs _) (hw _) (h1 _)) pss_w, he.run s _ fun d1 v1 G1 H1 e1 sm1 st1 dp1 => ?_⟩
  refine ⟨.ref (ow i), g1, hb.run (s.next sm1 st1) _ fun d2 v2 G2 H2 e2 sm2 st2 dp2 => ?_⟩
  subst e1 e2
  cases dp2
  refine ⟨ow i, vs, k, j, rfl, rfl, (st2.fr _ _ g2).1, by rw [dps_len g3]; exact hj, ?_⟩
  have sl := (s.sl.mono (sm1.trans sm2)).write (i := i) hx.at.2 (dps_set (dp_mono sm2 dp1) j (dps_mono (sm1.trans sm2) g3))
  rw [hp.at.2] at sl
  exact h.run ⟨s.f, s.x, (s.s0.trans sm1).trans sm2, sl, st2.write g2 (fun _ z => by cases z) (fun _ _ z => by cases z)⟩⟩
/-- x op= e, numbers -/
theorem sd_augSub (hx : Look Γ.N ρ x (.dat (.int n)) i) (he : EV Γ Ψ ρ e (· = .int k)) (hp : Put Γ.N ρ x (.dat (.int (n - k))) ρ' i) (h : SD Γ Ψ ρ' rest p) (hl : locB Γ.sc Γ.top x = true := by kernel_rfl) : SD Γ Ψ ρ (.AugAssign (.Name x pp) .Sub e pos :: rest) p := ⟨fun {X m F0 G0 F ow σ G H} s => by
  obtain ⟨v, g1, g2⟩ := s.sl.ok i _ hx.at.2
  cases g2
  refine ⟨_, pss_cons (ps_aug s.x.nd (s.f.nth hx.at.1) (s.f.loc hl).1 pe_w ip_sub (s.f.loc hl).2) pss_w, .int n, g1, he.run s _ fun d2 v2 G2 H2 e2 sm2 st2 dp2 => ?_⟩
  subst e2
  cases dp2
  refine ⟨n, k, rfl, rfl, ?_⟩
  have sl := (s.sl.mono sm2).put (i := i) (v := .int (n - k)) (en := .dat (.int (n - k))) ⟨_, rfl, .int _⟩ (fun _ z => by cases z)
  rw [hp.at.2] at sl
  exact h.run ⟨s.f, s.x, s.s0.trans sm2, sl, st2⟩⟩
theorem sd_augAdd (hx : Look Γ.N ρ x (.dat (.int n)) i) (he : EV Γ Ψ ρ e (· = .int k)) (hp : Put Γ.N ρ x (.dat (.int (n + k))) ρ' i) (h : SD Γ Ψ ρ' rest p) (hl : locB Γ.sc Γ.top x = true := by kernel_rfl) : SD Γ Ψ ρ (.AugAssign (.Name x pp) .Add e pos :: rest) p := ⟨fun {X m F0 G0 F ow σ G H} s => by
  obtain ⟨v, g1, g2⟩ := s.sl.ok i _ hx.at.2
  cases g2
  refine ⟨_, pss_cons (ps_aug s.x.nd (s.f.nth hx.at.1) (s.f.loc hl).1 pe_w ip_add (s.f.loc hl).2) pss_w, .int n, g1, he.run s _ fun d2 v2 G2 H2 e2 sm2 st2 dp2 => ?_⟩
  subst e2
  cases dp2
  refine ⟨n, k, rfl, rfl, ?_⟩
  have sl := (s.sl.mono sm2).put (i := i) (v := .int (n + k)) (en := .dat (.int (n + k))) ⟨_, rfl, .int _⟩ (fun _ z => by cases z)
  rw [hp.at.2] at sl
  exact h.run ⟨s.f, s.x, s.s0.trans sm2, sl, st2⟩⟩
/-- x, y = e1, e2 (plain local names) -/
theorem sd_par {Φa : List En → Prop} {R : D → D → List En} {R' : D → List En} (ha : EVA Γ Ψ ρ [a, b] Φa) (h : ∀ as, Φa as → ∃ u v, as = [.dat u, .dat v] ∧ SD Γ Ψ (R u v) rest p) (hp : ∀ u v, Put Γ.N ρ x (.dat u) (R' u) i ∧ Put Γ.N (R' u) y (.dat v) (R u v) j) (hij : i ≠ j)
    (hx : Γ.sc.names.lookup x = some .local := by kernel_rfl) (hy : Γ.sc.names.lookup y = some .local := by kernel_rfl)
    (hw : ∀ env : Env, swappedStores [.Tuple [.Name x px, .Name y py] kt pt] (.Tuple [a, b] k2 pt2) { env with scope := Γ.sc } = pure (some [x, y]) := by intro _; kernel_rfl)
    (hs : ∀ env, swapsWithSole [.Tuple [.Name x px, .Name y py] kt pt] (.Tuple [a, b] k2 pt2) pos.line env = pure false := by intro _; kernel_rfl) :
    SD Γ Ψ ρ (.Assign [.Tuple [.Name x px, .Name y py] kt pt] (.Tuple [a, b] k2 pt2) pos :: rest) p := ⟨fun {X m F0 G0 F ow σ G H} s => by
  have ex : { X.env with scope := Γ.sc } = X.env := by rw [← s.f.sc]
  have hw' := hw X.env
  rw [ex] at hw'
  refine ⟨_, pss_cons (ps_par s.x.calm s.x.nd (s.f.nth (hp .none .none).1.at.1) (s.f.nth (hp .none .none).2.at.1) hij (by rw [s.f.sc]; exact hx) (by rw [s.f.sc]; exact hy) pa_w hw' (hs _)) pss_w, ha.run s _ fun as vs G2 H2 p2 e2 s2 d2 => ?_⟩
  obtain ⟨u, v, rfl, hr⟩ := h as p2
  obtain ⟨vu, vv, rfl, du, dv⟩ := args2 d2
  refine ⟨vu, vv, rfl, ?_⟩
  have sl := ((s.sl.mono e2).put (i := i) (v := vu) (en := .dat u) ⟨_, rfl, du⟩ (fun _ z => by cases z)).put (i := j) (v := vv) (en := .dat v) ⟨_, rfl, dv⟩ (fun _ z => by cases z)
  rw [(hp u v).1.at.2, (hp u v).2.at.2] at sl
  exact hr.run ⟨s.f, s.x, s.s0.trans e2, sl, s2⟩⟩
end
end DL

namespace DL
open PySem PySem.Spec PyProof.Rows L2
/-! ### sums, plainly -/
abbrev co (ns : List Int) (i : Nat) : Int := ns.getD i 0
def cutN (ns : List Int) : List Int := (ns.reverse.dropWhile fun z => z == 0).reverse
theorem cutN_nil : cutN [] = [] := rfl
theorem cutN_zero (ns : List Int) : cutN (ns ++ [0]) = cutN ns := by
  unfold cutN
  rw [List.reverse_append]
  rfl
theorem cutN_last {ns : List Int} {z : Int} (h : z ≠ 0) : cutN (ns ++ [z]) = ns ++ [z] := by
  unfold cutN
  rw [List.reverse_append]
  show ((z :: ns.reverse).dropWhile fun z => z == 0).reverse = _
  rw [List.dropWhile_cons_of_neg (by simpa using h), List.reverse_cons, List.reverse_reverse]
/-- backwards over a list -/
theorem snoc_ind {P : List Int → Prop} (h0 : P []) (h1 : ∀ xs x, P xs → P (xs ++ [x])) (xs : List Int) : P xs := by
  have : ∀ ys : List Int, P ys.reverse := fun ys => by
    induction ys with
    | nil => exact h0
    | cons y ys ih =>
      rw [List.reverse_cons]
      exact h1 _ _ ih
  have h := this xs.reverse
  rwa [List.reverse_reverse] at h
theorem cutN_or (xs : List Int) : cutN xs = [] ∨ ∃ ys z, z ≠ 0 ∧ cutN xs = ys ++ [z] := by
  induction xs using snoc_ind with
  | h0 => exact .inl rfl
  | h1 xs x ih =>
    by_cases hx : x = 0
    · rw [hx, cutN_zero]
      exact ih
    · exact .inr ⟨xs, x, hx, cutN_last hx⟩
theorem co_app (xs : List Int) (i : Nat) : co (xs ++ [0]) i = co xs i := by
  unfold co
  rw [List.getD_eq_getElem?_getD, List.getD_eq_getElem?_getD, List.getElem?_append]
  split
  · rfl
  · rename_i h
    rw [List.getElem?_eq_none (l := xs) (by omega)]
    cases q : i - xs.length with
    | zero => rfl
    | succ n => rfl
theorem co_cut (xs : List Int) (i : Nat) : co (cutN xs) i = co xs i := by
  induction xs using snoc_ind with
  | h0 => rfl
  | h1 xs x ih =>
    by_cases hx : x = 0
    · rw [hx, cutN_zero, co_app]
      exact ih
    · rw [cutN_last hx]
theorem cutN_prefix (xs : List Int) : ∃ n, n ≤ xs.length ∧ cutN xs = xs.take n := by
  induction xs using snoc_ind with
  | h0 => exact ⟨0, Nat.le_refl _, rfl⟩
  | h1 xs x ih =>
    by_cases hx : x = 0
    · obtain ⟨n, h1, h2⟩ := ih
      refine ⟨n, by rw [List.length_append]; omega, ?_⟩
      rw [hx, cutN_zero, h2, List.take_append_of_le_length h1]
    · exact ⟨(xs ++ [x]).length, Nat.le_refl _, by rw [cutN_last hx, List.take_length]⟩
theorem cutN_len (xs : List Int) : (cutN xs).length ≤ xs.length := by
  obtain ⟨n, h1, h2⟩ := cutN_prefix xs
  rw [h2, List.length_take]
  omega
theorem co_beyond {xs : List Int} {i : Nat} (h : xs.length ≤ i) : co xs i = 0 := by
  unfold co
  rw [List.getD_eq_getElem?_getD, List.getElem?_eq_none h]
  rfl
/-- lists that end by no nought are told by their parts -/
theorem canon_ext {xs ys : List Int} (hx : xs = [] ∨ ∃ us z, z ≠ 0 ∧ xs = us ++ [z]) (hy : ys = [] ∨ ∃ us z, z ≠ 0 ∧ ys = us ++ [z]) (h : ∀ i, co xs i = co ys i) : xs = ys := by
  have key : ∀ {xs ys : List Int}, (xs = [] ∨ ∃ us z, z ≠ 0 ∧ xs = us ++ [z]) → (∀ i, co xs i = co ys i) → xs.length ≤ ys.length := fun {xs ys} hx h => by
    rcases hx with rfl | ⟨us, z, hz, rfl⟩
    · exact Nat.zero_le _
    · rw [List.length_append]
      show us.length + 1 ≤ _
      by_cases hl : us.length < ys.length
      · exact hl
      · have := h us.length
        rw [co_beyond (xs := ys) (by omega)] at this
        unfold co at this
        rw [List.getD_eq_getElem?_getD, List.getElem?_append_right (Nat.le_refl _), Nat.sub_self] at this
        exact absurd this hz
  have hl : xs.length = ys.length := Nat.le_antisymm (key hx h) (key hy fun i => (h i).symm)
  refine List.ext_getElem hl fun i h1 h2 => ?_
  have := h i
  unfold co at this
  rw [List.getD_eq_getElem?_getD, List.getD_eq_getElem?_getD, List.getElem?_eq_getElem h1, List.getElem?_eq_getElem h2] at this
  exact this
theorem cutN_ext {xs ys : List Int} (h : ∀ i, co xs i = co ys i) : cutN xs = cutN ys :=
  canon_ext (cutN_or xs) (cutN_or ys) fun i => by rw [co_cut, co_cut]; exact h i
/-- a sum of the prime p: residues, the last one not nought -/
def Sm (p : Int) (ns : List Int) : Prop := (∀ z ∈ ns, 0 ≤ z ∧ z < p) ∧ cutN ns = ns
theorem Sm.co {p : Int} {ns : List Int} (hp : 0 < p) (h : ∀ z ∈ ns, 0 ≤ z ∧ z < p) (i : Nat) : 0 ≤ co ns i ∧ co ns i < p := by
  unfold DL.co
  rw [List.getD_eq_getElem?_getD]
  cases q : ns[i]? with
  | none => exact ⟨Int.le_refl _, hp⟩
  | some z => exact h z (List.mem_of_getElem? q)
theorem cut_sm {p : Int} {ns : List Int} (h : ∀ z ∈ ns, 0 ≤ z ∧ z < p) : Sm p (cutN ns) := by
  refine ⟨fun z hz => ?_, ?_⟩
  · obtain ⟨n, _, e⟩ := cutN_prefix ns
    rw [e] at hz
    exact h z (List.mem_of_mem_take hz)
  · rcases cutN_or ns with e | ⟨us, z, hz, e⟩
    · rw [e]
      rfl
    · rw [e, cutN_last hz]
/-! ### joined -/
def joinL (p number : Int) : List Int → List Int → Nat → List Int
  | found, [], _ => found
  | found, q :: qs, at_ => joinL p number (found.set at_ ((co found at_ + number * q) % p)) qs (at_ + 1)
theorem joinL_len (p number : Int) : ∀ (qs found : List Int) (at_ : Nat), (joinL p number found qs at_).length = found.length
  | [], _, _ => rfl
  | q :: qs, found, at_ => by
    rw [joinL, joinL_len p number qs, List.length_set]
theorem co_set {xs : List Int} {n i : Nat} {z : Int} (h : n < xs.length) : co (xs.set n z) i = if i = n then z else co xs i := by
  unfold co
  rw [List.getD_eq_getElem?_getD, List.getElem?_set]
  by_cases e : n = i
  · rw [if_pos e, if_pos h, if_pos e.symm]
    rfl
  · rw [if_neg e, if_neg (Ne.symm e), List.getD_eq_getElem?_getD]
theorem joinL_co (p number : Int) : ∀ (qs found : List Int) (at_ : Nat), at_ + qs.length ≤ found.length → ∀ i, co (joinL p number found qs at_) i = if at_ ≤ i ∧ i < at_ + qs.length then (co found i + number * co qs (i - at_)) % p else co found i
  | [], found, at_, _, i => by
    rw [joinL, if_neg (by rw [List.length_nil]; omega)]
  | q :: qs, found, at_, h, i => by
    have hl : at_ + qs.length + 1 ≤ found.length := h
    rw [joinL, joinL_co p number qs _ (at_ + 1) (by rw [List.length_set]; omega), co_set (by omega)]
    by_cases e : i = at_
    · subst e
      rw [if_neg (by omega), if_pos rfl, if_pos ⟨Nat.le_refl _, by rw [List.length_cons]; omega⟩, Nat.sub_self]
      rfl
    · rw [if_neg e]
      by_cases h1 : at_ + 1 ≤ i ∧ i < at_ + 1 + qs.length
      · rw [if_pos h1, if_pos ⟨by omega, by rw [List.length_cons]; omega⟩]
        obtain ⟨k, rfl⟩ : ∃ k, i = at_ + 1 + k := ⟨i - (at_ + 1), by omega⟩
        rw [show at_ + 1 + k - (at_ + 1) = k by omega, show at_ + 1 + k - at_ = k + 1 by omega]
        rfl
      · rw [if_neg h1, if_neg (by rw [List.length_cons]; omega)]
def padN (one : List Int) (n : Int) : List Int := one ++ List.replicate n.toNat 0
theorem co_pad (one : List Int) (n : Int) (i : Nat) : co (padN one n) i = co one i := by
  unfold padN co
  rw [List.getD_eq_getElem?_getD, List.getD_eq_getElem?_getD, List.getElem?_append]
  split
  · rfl
  · rename_i h
    rw [List.getElem?_eq_none (l := one) (by omega), List.getElem?_replicate]
    split <;> rfl
def joinedN (p number : Int) (one other : List Int) (at_ : Nat) : List Int := cutN (joinL p number (padN one ((other.length : Int) + at_ - one.length)) other at_)
theorem pad_len (one : List Int) (m : Nat) (at_ : Nat) : at_ + m ≤ (padN one ((m : Int) + at_ - one.length)).length := by
  unfold padN
  rw [List.length_append, List.length_replicate]
  omega
theorem joined_co (p number : Int) (hp : 0 < p) (one other : List Int) (at_ : Nat) (h1 : ∀ z ∈ one, 0 ≤ z ∧ z < p) (i : Nat) : co (joinedN p number one other at_) i = if at_ ≤ i then (co one i + number * co other (i - at_)) % p else co one i := by
  unfold joinedN
  rw [co_cut, joinL_co p number other _ at_ (pad_len one other.length at_), co_pad]
  have hr := Sm.co hp h1 i
  by_cases h2 : at_ ≤ i
  · rw [if_pos h2]
    by_cases h3 : i < at_ + other.length
    · rw [if_pos ⟨h2, h3⟩]
    · rw [if_neg (fun z => h3 z.2), co_beyond (xs := other) (by omega), Int.mul_zero, Int.add_zero, Int.emod_eq_of_lt hr.1 hr.2]
  · rw [if_neg (fun z => h2 z.1), if_neg h2]
theorem co_all {p : Int} {ns : List Int} (h : ∀ i, 0 ≤ co ns i ∧ co ns i < p) : ∀ z ∈ ns, 0 ≤ z ∧ z < p := fun z hz => by
  obtain ⟨i, hi, rfl⟩ := List.mem_iff_getElem.mp hz
  have := h i
  unfold co at this
  rw [List.getD_eq_getElem?_getD, List.getElem?_eq_getElem hi] at this
  exact this
theorem joined_sm {p number : Int} (hp : 0 < p) {one other : List Int} {at_ : Nat} (h1 : ∀ z ∈ one, 0 ≤ z ∧ z < p) : Sm p (joinedN p number one other at_) := by
  refine ⟨co_all fun i => ?_, ?_⟩
  · rw [joined_co p number hp one other at_ h1]
    split
    · exact ⟨Int.emod_nonneg _ (by omega), Int.emod_lt_of_pos _ hp⟩
    · exact Sm.co hp h1 i
  · unfold joinedN
    rcases cutN_or (joinL p number (padN one ((other.length : Int) + at_ - one.length)) other at_) with e | ⟨us, z, hz, e⟩
    · rw [e]
      rfl
    · rw [e, cutN_last hz]
theorem joined_len {p number : Int} {one other : List Int} {at_ n : Nat} (h1 : one.length ≤ n) (h2 : other.length + at_ ≤ n) : (joinedN p number one other at_).length ≤ n := by
  unfold joinedN
  refine Nat.le_trans (cutN_len _) ?_
  rw [joinL_len]
  unfold padN
  rw [List.length_append, List.length_replicate]
  omega
def isSumB (ns : List Int) (p : Int) : Bool := ns.all (fun i => decide (0 ≤ i) && decide (i < p)) && (decide (ns = []) || (match ns.getLast? with | some z => !decide (z = 0) | none => false))
theorem isSumB_of {p : Int} {ns : List Int} (h : Sm p ns) : isSumB ns p = true := by
  unfold isSumB
  refine Bool.and_eq_true_iff.mpr ⟨List.all_eq_true.mpr fun z hz => ?_, ?_⟩
  · have := h.1 z hz
    rw [decide_eq_true this.1, decide_eq_true this.2]
    rfl
  · rcases cutN_or ns with e | ⟨us, z, hz, e⟩
    · rw [h.2] at e
      rw [e]
      rfl
    · rw [h.2] at e
      rw [e, List.getLast?_append]
      simp [hz]
theorem sm_of_isSumB {p : Int} {ns : List Int} (h : isSumB ns p = true) : Sm p ns := by
  unfold isSumB at h
  obtain ⟨h1, h2⟩ := Bool.and_eq_true_iff.mp h
  refine ⟨fun z hz => ?_, ?_⟩
  · have := List.all_eq_true.mp h1 z hz
    obtain ⟨q1, q2⟩ := Bool.and_eq_true_iff.mp this
    exact ⟨of_decide_eq_true q1, of_decide_eq_true q2⟩
  · rcases List.eq_nil_or_concat ns with rfl | ⟨us, z, rfl⟩
    · rfl
    · rw [List.concat_eq_append]
      refine cutN_last fun z0 => ?_
      rw [List.concat_eq_append, List.getLast?_append] at h2
      subst z0
      simp at h2
/-! ### multiplied -/
def mulL (p : Int) (other : List Int) : List Int → Nat → List Int → List Int
  | [], _, found => found
  | q :: qs, at_, found => mulL p other qs (at_ + 1) (if q = 0 then found else joinedN p q found other at_)
end DL
namespace DL
open PySem PySem.Spec PyProof.Rows L2
/-! ### keywords in any order -/
def pick {α : Type} (ix : List Nat) (z : α) (xs : List α) : List α := ix.map fun i => xs.getD i z
theorem args_pick {m : Pm} {G : Hp} {vs : List V} {as : List En} (h : Args m G vs as) : ∀ {ix : List Nat}, (∀ i ∈ ix, i < vs.length) → Args m G (pick ix .non vs) (pick ix .un as)
  | [], _ => .nil
  | i :: ix, hi => by
    refine .cons ?_ (args_pick h fun j hj => hi j (List.mem_cons_of_mem _ hj))
    have hl := hi i (List.mem_cons_self ..)
    clear hi
    induction h generalizing i with
    | nil => cases hl
    | cons h1 _ ih =>
      cases i with
      | zero => exact h1
      | succ i => exact ih i (Nat.lt_of_succ_lt_succ hl)
theorem vals_pick {us : List Value} {vs : List V} (h : Vals vs us) : ∀ {ix : List Nat}, Vals (pick ix .non vs) (pick ix .none us)
  | [] => .nil
  | i :: ix => by
    refine .cons ?_ (vals_pick h)
    induction h generalizing i with
    | nil => exact rfl
    | cons h1 _ ih =>
      cases i with
      | zero => exact h1
      | succ i => exact ih i
section
variable {x : Str} {n k : Nat} {ps N : List Str} {g : Gm} {s : Stmt} {spec : Spec}
/-- all parameters are written, some by keywords in any order: ix: where each parameter's value stands -/
theorem fn_kwP {kws : List (Str × V)} {ks : List Str} (ix : List Nat) (h : HasDef g x s kws) (S : FnScope N ps (defScope s)) (n : Nat) (hix : ∀ i ∈ ix, i < n + ks.length)
    (hb : ∀ (kV doc pm : Value) (an : Option Addr) (cdv ct : Value) (us ws : List Value), us.length = n → ws.length = ks.length → bindArgs (PySem.W.fnOf x x (defArgs s) (defBody s) (defScope s) .none kV doc pm an cdv ct) ⟨us, ks.zip ws⟩ = pure (ps.zip (pick ix .none (us ++ ws))))
    (len : ∀ as Φ Ψ, spec as Φ Ψ → as.length = ps.length) (hbody : ∀ as Φ Ψ, spec as Φ Ψ → SD ⟨g, N, defScope s, k, true, none⟩ Ψ (as ++ List.replicate (N.length - as.length) .un) (defBody s) { nx := fun _ => Φ (.dat .none), rt := Φ }) : FnK g (k + 1) x n ks (fun as bs => pick ix .un (as ++ bs)) spec := by
  obtain ⟨f, fd, F, hm⟩ := h
  refine ⟨f, fd, ps, (fun us ws => pick ix .none (us ++ ws)), (fun us ws => pick ix .non (us ++ ws)), hm, F.kp, ?_, fun _ h1 h2 l1 l2 => args_pick (h1.app h2) (by rw [List.length_append, l1, l2]; exact hix), fn_body F S len hbody⟩
  obtain ⟨oc, od, dV, kV, doc, pm, an, cdv, ct, osl, rfl, lk, hcd, hD, hK⟩ := F.ex
  rcases hD with ⟨_, rfl⟩ | ⟨e, _⟩
  · exact ⟨fun s us ws _ h1 h2 => .of_eq (hb kV doc pm an cdv ct us ws h1 h2), fun h1 h2 => vals_pick (h1.append h2)⟩
  · exact absurd rfl e
end
end DL

namespace DL
open PySem PySem.Spec PyProof.Rows L2
def top (i : Nat) : Stmt := PySem.Challenge.pw_lagworks_k02_sums_added_and_multiplied.main.body.getD i (.Pass ⟨0, 0, 0, 0⟩)
abbrev s_is_whole : Stmt := top 7
abbrev N_is_whole : List Str := ["thing"]
abbrev P_is_whole : List Str := ["thing"]
abbrev s_is_prime : Stmt := top 8
abbrev N_is_prime : List Str := ["number"]
abbrev P_is_prime : List Str := ["number"]
abbrev s_need_prime : Stmt := top 9
abbrev N_need_prime : List Str := ["prime"]
abbrev P_need_prime : List Str := ["prime"]
abbrev s_is_residue : Stmt := top 10
abbrev N_is_residue : List Str := ["thing", "prime"]
abbrev P_is_residue : List Str := ["thing", "prime"]
abbrev s_is_sum : Stmt := top 13
abbrev N_is_sum : List Str := ["thing", "prime", "one"]
abbrev P_is_sum : List Str := ["thing", "prime"]
abbrev s_need_sums : Stmt := top 14
abbrev N_need_sums : List Str := ["some", "prime", "one"]
abbrev P_need_sums : List Str := ["some", "prime"]
abbrev s_cut : Stmt := top 15
abbrev N_cut : List Str := ["numbers", "many"]
abbrev P_cut : List Str := ["numbers"]
abbrev s_joined : Stmt := top 16
abbrev N_joined : List Str := ["one", "other", "number", "by", "prime", "found", "at", "part"]
abbrev P_joined : List Str := ["one", "other", "number", "by", "prime"]
abbrev s_added : Stmt := top 17
abbrev N_added : List Str := ["one", "other", "prime"]
abbrev P_added : List Str := ["one", "other", "prime"]
abbrev s_lessened : Stmt := top 18
abbrev N_lessened : List Str := ["one", "other", "prime"]
abbrev P_lessened : List Str := ["one", "other", "prime"]
abbrev s_multiplied : Stmt := top 19
abbrev N_multiplied : List Str := ["one", "other", "prime", "found", "at", "part"]
abbrev P_multiplied : List Str := ["one", "other", "prime"]
abbrev s_plus : Stmt := top 20
abbrev N_plus : List Str := ["one", "other", "prime"]
abbrev P_plus : List Str := ["one", "other", "prime"]
abbrev s_minus : Stmt := top 21
abbrev N_minus : List Str := ["one", "other", "prime"]
abbrev P_minus : List Str := ["one", "other", "prime"]
abbrev s_times : Stmt := top 22
abbrev N_times : List Str := ["one", "other", "prime"]
abbrev P_times : List Str := ["one", "other", "prime"]
abbrev s__law_bag : Stmt := top 24
abbrev N__law_bag : List Str := ["_law_script", "_law_salt", "_law_cell"]
abbrev P__law_bag : List Str := ["_law_script"]
abbrev s__law_pull : Stmt := top 25
abbrev N__law_pull : List Str := ["_law_bag_here", "_law_many", "_law_cell", "_law_digit", "_law_s", "_law_t"]
abbrev P__law_pull : List Str := ["_law_bag_here", "_law_many"]
abbrev s__law_of : Stmt := top 26
abbrev N__law_of : List Str := ["_law_bag_here", "_law_some"]
abbrev P__law_of : List Str := ["_law_bag_here", "_law_some"]
abbrev s__law_primes : Stmt := top 27
abbrev N__law_primes : List Str := []
abbrev P__law_primes : List Str := []
abbrev s__law_prime : Stmt := top 28
abbrev N__law_prime : List Str := ["_law_bag_here"]
abbrev P__law_prime : List Str := ["_law_bag_here"]
abbrev s__law_cut : Stmt := top 29
abbrev N__law_cut : List Str := ["_law_numbers", "_law_many", "_law_k", "_law_one_"]
abbrev P__law_cut : List Str := ["_law_numbers"]
abbrev s__law_sum : Stmt := top 30
abbrev N__law_sum : List Str := ["_law_bag_here", "_law_p", "_law_most", "_law_many", "_law_k"]
abbrev P__law_sum : List Str := ["_law_bag_here", "_law_p", "_law_most"]
abbrev s__law_scaled : Stmt := top 31
abbrev N__law_scaled : List Str := ["_law_one_", "_law_number", "_law_p", "_law_part"]
abbrev P__law_scaled : List Str := ["_law_one_", "_law_number", "_law_p"]
abbrev s__law_plus : Stmt := top 32
abbrev N__law_plus : List Str := ["_law_one_", "_law_other_", "_law_p", "_law_long", "_law_numbers", "_law_k", "_law_number"]
abbrev P__law_plus : List Str := ["_law_one_", "_law_other_", "_law_p"]
abbrev s__law_minus : Stmt := top 33
abbrev N__law_minus : List Str := ["_law_one_", "_law_other_", "_law_p"]
abbrev P__law_minus : List Str := ["_law_one_", "_law_other_", "_law_p"]
abbrev s__law_times : Stmt := top 34
abbrev N__law_times : List Str := ["_law_one_", "_law_other_", "_law_p", "_law_numbers", "_law_at", "_law_to"]
abbrev P__law_times : List Str := ["_law_one_", "_law_other_", "_law_p"]
abbrev s__law_same : Stmt := top 35
abbrev N__law_same : List Str := ["_law_got", "_law_due", "_law_good", "_law_a", "_law_b"]
abbrev P__law_same : List Str := ["_law_got", "_law_due"]
abbrev s_law : Stmt := top 36
abbrev N_law : List Str := ["_law_script", "_law_bag_here", "_law_again", "_law_p", "_law_a", "_law_b", "_law_due", "_law_named"]
abbrev P_law : List Str := ["_law_script"]
theorem sc_is_whole : FnScope N_is_whole P_is_whole (defScope s_is_whole) := ⟨rfl, rfl, rfl, by decide +kernel, rfl, by decide +kernel, by decide +kernel⟩
theorem sc_is_prime : FnScope N_is_prime P_is_prime (defScope s_is_prime) := ⟨rfl, rfl, rfl, by decide +kernel, rfl, by decide +kernel, by decide +kernel⟩
theorem sc_need_prime : FnScope N_need_prime P_need_prime (defScope s_need_prime) := ⟨rfl, rfl, rfl, by decide +kernel, rfl, by decide +kernel, by decide +kernel⟩
theorem sc_is_residue : FnScope N_is_residue P_is_residue (defScope s_is_residue) := ⟨rfl, rfl, rfl, by decide +kernel, rfl, by decide +kernel, by decide +kernel⟩
theorem sc_is_sum : FnScope N_is_sum P_is_sum (defScope s_is_sum) := ⟨rfl, rfl, rfl, by decide +kernel, rfl, by decide +kernel, by decide +kernel⟩
theorem sc_need_sums : FnScope N_need_sums P_need_sums (defScope s_need_sums) := ⟨rfl, rfl, rfl, by decide +kernel, rfl, by decide +kernel, by decide +kernel⟩
theorem sc_cut : FnScope N_cut P_cut (defScope s_cut) := ⟨rfl, rfl, rfl, by decide +kernel, rfl, by decide +kernel, by decide +kernel⟩
theorem sc_joined : FnScope N_joined P_joined (defScope s_joined) := ⟨rfl, rfl, rfl, by decide +kernel, rfl, by decide +kernel, by decide +kernel⟩
theorem sc_added : FnScope N_added P_added (defScope s_added) := ⟨rfl, rfl, rfl, by decide +kernel, rfl, by decide +kernel, by decide +kernel⟩
theorem sc_lessened : FnScope N_lessened P_lessened (defScope s_lessened) := ⟨rfl, rfl, rfl, by decide +kernel, rfl, by decide +kernel, by decide +kernel⟩
theorem sc_multiplied : FnScope N_multiplied P_multiplied (defScope s_multiplied) := ⟨rfl, rfl, rfl, by decide +kernel, rfl, by decide +kernel, by decide +kernel⟩
theorem sc_plus : FnScope N_plus P_plus (defScope s_plus) := ⟨rfl, rfl, rfl, by decide +kernel, rfl, by decide +kernel, by decide +kernel⟩
theorem sc_minus : FnScope N_minus P_minus (defScope s_minus) := ⟨rfl, rfl, rfl, by decide +kernel, rfl, by decide +kernel, by decide +kernel⟩
theorem sc_times : FnScope N_times P_times (defScope s_times) := ⟨rfl, rfl, rfl, by decide +kernel, rfl, by decide +kernel, by decide +kernel⟩
theorem sc__law_bag : FnScope N__law_bag P__law_bag (defScope s__law_bag) := ⟨rfl, rfl, rfl, by decide +kernel, rfl, by decide +kernel, by decide +kernel⟩
theorem sc__law_pull : FnScope N__law_pull P__law_pull (defScope s__law_pull) := ⟨rfl, rfl, rfl, by decide +kernel, rfl, by decide +kernel, by decide +kernel⟩
theorem sc__law_of : FnScope N__law_of P__law_of (defScope s__law_of) := ⟨rfl, rfl, rfl, by decide +kernel, rfl, by decide +kernel, by decide +kernel⟩
theorem sc__law_primes : FnScope N__law_primes P__law_primes (defScope s__law_primes) := ⟨rfl, rfl, rfl, by decide +kernel, rfl, by decide +kernel, by decide +kernel⟩
theorem sc__law_prime : FnScope N__law_prime P__law_prime (defScope s__law_prime) := ⟨rfl, rfl, rfl, by decide +kernel, rfl, by decide +kernel, by decide +kernel⟩
theorem sc__law_cut : FnScope N__law_cut P__law_cut (defScope s__law_cut) := ⟨rfl, rfl, rfl, by decide +kernel, rfl, by decide +kernel, by decide +kernel⟩
theorem sc__law_sum : FnScope N__law_sum P__law_sum (defScope s__law_sum) := ⟨rfl, rfl, rfl, by decide +kernel, rfl, by decide +kernel, by decide +kernel⟩
theorem sc__law_scaled : FnScope N__law_scaled P__law_scaled (defScope s__law_scaled) := ⟨rfl, rfl, rfl, by decide +kernel, rfl, by decide +kernel, by decide +kernel⟩
theorem sc__law_plus : FnScope N__law_plus P__law_plus (defScope s__law_plus) := ⟨rfl, rfl, rfl, by decide +kernel, rfl, by decide +kernel, by decide +kernel⟩
theorem sc__law_minus : FnScope N__law_minus P__law_minus (defScope s__law_minus) := ⟨rfl, rfl, rfl, by decide +kernel, rfl, by decide +kernel, by decide +kernel⟩
theorem sc__law_times : FnScope N__law_times P__law_times (defScope s__law_times) := ⟨rfl, rfl, rfl, by decide +kernel, rfl, by decide +kernel, by decide +kernel⟩
theorem sc__law_same : FnScope N__law_same P__law_same (defScope s__law_same) := ⟨rfl, rfl, rfl, by decide +kernel, rfl, by decide +kernel, by decide +kernel⟩
theorem sc_law : FnScope N_law P_law (defScope s_law) := ⟨rfl, rfl, rfl, by decide +kernel, rfl, by decide +kernel, by decide +kernel⟩
class Hd (g : Gm) : Prop where
  D_is_whole : HasDef g "is_whole" s_is_whole []
  D_is_prime : HasDef g "is_prime" s_is_prime []
  D_need_prime : HasDef g "need_prime" s_need_prime []
  D_is_residue : HasDef g "is_residue" s_is_residue []
  D_is_sum : HasDef g "is_sum" s_is_sum []
  D_need_sums : HasDef g "need_sums" s_need_sums []
  D_cut : HasDef g "cut" s_cut []
  D_joined : HasDef g "joined" s_joined []
  D_added : HasDef g "added" s_added []
  D_lessened : HasDef g "lessened" s_lessened []
  D_multiplied : HasDef g "multiplied" s_multiplied []
  D_plus : HasDef g "plus" s_plus [("prime", .int 2)]
  D_minus : HasDef g "minus" s_minus [("prime", .int 2)]
  D_times : HasDef g "times" s_times [("prime", .int 2)]
  D__law_bag : HasDef g "_law_bag" s__law_bag []
  D__law_pull : HasDef g "_law_pull" s__law_pull []
  D__law_of : HasDef g "_law_of" s__law_of []
  D__law_primes : HasDef g "_law_primes" s__law_primes []
  D__law_prime : HasDef g "_law_prime" s__law_prime []
  D__law_cut : HasDef g "_law_cut" s__law_cut []
  D__law_sum : HasDef g "_law_sum" s__law_sum []
  D__law_scaled : HasDef g "_law_scaled" s__law_scaled []
  D__law_plus : HasDef g "_law_plus" s__law_plus []
  D__law_minus : HasDef g "_law_minus" s__law_minus []
  D__law_times : HasDef g "_law_times" s__law_times []
  D__law_same : HasDef g "_law_same" s__law_same []
  B_ValueError : g.mg "ValueError" = none
  B_all : g.mg "all" = none
  B_any : g.mg "any" = none
  B_bool : g.mg "bool" = none
  B_enumerate : g.mg "enumerate" = none
  B_int : g.mg "int" = none
  B_isinstance : g.mg "isinstance" = none
  B_len : g.mg "len" = none
  B_list : g.mg "list" = none
  B_max : g.mg "max" = none
  B_min : g.mg "min" = none
  B_range : g.mg "range" = none
  B_str : g.mg "str" = none
  B_tuple : g.mg "tuple" = none
  B_zip : g.mg "zip" = none
  V_PRIMES : GlD g "PRIMES" (.tuple [(.int 2), (.int 3), (.int 5), (.int 7), (.int 11), (.int 13), (.int 17), (.int 19), (.int 23), (.int 29), (.int 31), (.int 37), (.int 41), (.int 43), (.int 47), (.int 53), (.int 59), (.int 61), (.int 67), (.int 71), (.int 73), (.int 79), (.int 83), (.int 89), (.int 97)])
  V_LEAST : GlD g "LEAST" (.int 2)
  V_MOST_PLACES : GlD g "MOST_PLACES" (.int 12)
  X_BadPrime : ExC g 1 "BadPrime" 0 (fun _ => [("word", .str "BadPrime")])
  X_BadSum : ExC g 1 "BadSum" 0 (fun _ => [("word", .str "BadSum")])
local macro_rules | `(tactic| wtm_at "asl") => `(tactic| first | with_reducible exact AsL.nil | (with_reducible apply AsL.cons; wtm_at "asl"))
local macro_rules | `(tactic| wtm_at "evn") => `(tactic| ((with_reducible apply evn_lstL); (focus (wtm_at "eva")); (focus (wtm_at "asl")); (focus (rfl))))
local macro_rules | `(tactic| wtm_at "look") => `(tactic| first | with_reducible exact Look.here | (with_reducible apply Look.there; wtm_at "look"))
local macro_rules | `(tactic| wtm_at "put") => `(tactic| first | with_reducible exact Put.here | (with_reducible apply Put.there; wtm_at "put"))
local macro_rules | `(tactic| wtm_at "side") => `(tactic| first | assumption | omega | decide | rfl)
local macro_rules | `(tactic| wtm_at "auto") => `(tactic| first | kernel_rfl | (intro _; kernel_rfl) | (intro _ _; kernel_rfl) | (intro _; exact ⟨by kernel_rfl, by kernel_rfl⟩) | decide +kernel)
local macro_rules | `(tactic| wtm_at "hyp") => `(tactic| first | with_reducible assumption | with_reducible apply_assumption | skip)
local macro_rules | `(tactic| wtm_at "eva") => `(tactic| first
  | with_reducible exact eva_nil
  | ((with_reducible apply eva_cons1); (focus (wtm_at "ev")); (focus (wtm_at "eva")); (focus (wtm_at "auto")))
  | ((with_reducible apply eva_bg); (focus (wtm_at "look")); (focus (wtm_at "eva")); (all_goals (wtm_at "auto"))))
local macro_rules | `(tactic| wtm_at "ev") => `(tactic| first
  | with_reducible exact ev_int
  | with_reducible exact ev_bool
  | with_reducible exact ev_none
  | with_reducible exact ev_str
  | ((with_reducible apply ev_nm); (focus (wtm_at "look")); (all_goals (wtm_at "auto")))
  | ((with_reducible apply ev_add); (focus (wtm_at "ev")); (focus (wtm_at "ev")))
  | ((with_reducible apply ev_sub); (focus (wtm_at "ev")); (focus (wtm_at "ev")))
  | ((with_reducible apply ev_mul); (focus (wtm_at "ev")); (focus (wtm_at "ev")); (focus (wtm_at "side")))
  | ((with_reducible apply ev_mod); (focus (wtm_at "ev")); (focus (wtm_at "ev")); (focus (wtm_at "side")))
  | ((with_reducible apply ev_pow); (focus (wtm_at "ev")); (focus (wtm_at "ev")); (focus (exact ⟨by decide, by decide, by decide⟩)))
  | ((with_reducible apply ev_neg); (focus (wtm_at "ev")))
  | ((with_reducible apply ev_lt); (focus (wtm_at "ev")); (focus (wtm_at "ev")))
  | ((with_reducible apply ev_le); (focus (wtm_at "ev")); (focus (wtm_at "ev")))
  | ((with_reducible apply ev_gt); (focus (wtm_at "ev")); (focus (wtm_at "ev")))
  | ((with_reducible apply ev_ge); (focus (wtm_at "ev")); (focus (wtm_at "ev")))
  | ((with_reducible apply ev_eqI); (focus (wtm_at "ev")); (focus (wtm_at "ev")))
  | ((with_reducible apply ev_neI); (focus (wtm_at "ev")); (focus (wtm_at "ev")))
  | ((with_reducible apply ev_isN); (focus (wtm_at "ev")))
  | ((with_reducible apply ev_notN); (focus (wtm_at "ev")))
  | ((with_reducible apply ev_one); (focus (wtm_at "ev")))
  | ((with_reducible apply ev_not); (focus (wtm_at "ev")))
  | ((with_reducible apply ev_tupL); (focus (wtm_at "eva")); (focus (wtm_at "asl")); (focus (rfl)))
  | ((with_reducible apply EVN.ev1); (focus (wtm_at "evn")))
  | ((with_reducible apply ev_isInt); (focus (wtm_at "ev")); (focus (with_reducible exact Hd.B_isinstance)); (focus (with_reducible exact Hd.B_int)); (all_goals (wtm_at "auto")))
  | ((with_reducible apply ev_isBool); (focus (wtm_at "ev")); (focus (with_reducible exact Hd.B_isinstance)); (focus (with_reducible exact Hd.B_bool)); (all_goals (wtm_at "auto")))
  | ((with_reducible apply ev_isStr); (focus (wtm_at "ev")); (focus (with_reducible exact Hd.B_isinstance)); (focus (with_reducible exact Hd.B_str)); (all_goals (wtm_at "auto")))
  | ((with_reducible apply ev_isList); (focus (wtm_at "ev")); (focus (with_reducible exact Hd.B_isinstance)); (focus (with_reducible exact Hd.B_list)); (all_goals (wtm_at "auto")))
  | ((with_reducible apply ev_isTup); (focus (wtm_at "ev")); (focus (with_reducible exact Hd.B_isinstance)); (focus (with_reducible exact Hd.B_tuple)); (all_goals (wtm_at "auto")))
  | ((with_reducible apply ev_isLT); (focus (wtm_at "ev")); (focus (with_reducible exact Hd.B_isinstance)); (focus (with_reducible exact Hd.B_list)); (focus (with_reducible exact Hd.B_tuple)); (all_goals (wtm_at "auto")))
  | ((with_reducible apply ev_lenL); (focus (wtm_at "ev")); (focus (with_reducible exact Hd.B_len)); (all_goals (wtm_at "auto")))
  | ((with_reducible apply ev_lenT); (focus (wtm_at "ev")); (focus (with_reducible exact Hd.B_len)); (all_goals (wtm_at "auto")))
  | ((with_reducible apply ev_neB); (focus (wtm_at "ev")); (focus (wtm_at "ev")))
  | ((with_reducible apply ev_eqB); (focus (wtm_at "ev")); (focus (wtm_at "ev")))
  | ((with_reducible apply ev_betw); (focus (wtm_at "ev")); (focus (wtm_at "ev")); (focus (wtm_at "ev")); (all_goals (wtm_at "auto"))))

local macro_rules | `(tactic| wtm_at "evt") => `(tactic| first
  | ((with_reducible apply evt_lt); (focus (wtm_at "ev")); (focus (wtm_at "ev")))
  | ((with_reducible apply evt_le); (focus (wtm_at "ev")); (focus (wtm_at "ev")))
  | ((with_reducible apply evt_gt); (focus (wtm_at "ev")); (focus (wtm_at "ev")))
  | ((with_reducible apply evt_ge); (focus (wtm_at "ev")); (focus (wtm_at "ev")))
  | ((with_reducible apply evt_eqI); (focus (wtm_at "ev")); (focus (wtm_at "ev")))
  | ((with_reducible apply evt_neI); (focus (wtm_at "ev")); (focus (wtm_at "ev")))
  | ((with_reducible apply evt_neB); (focus (wtm_at "ev")); (focus (wtm_at "ev")))
  | ((with_reducible apply evt_eqB); (focus (wtm_at "ev")); (focus (wtm_at "ev")))
  | ((with_reducible apply evt_isN); (focus (wtm_at "ev")))
  | ((with_reducible apply evt_notN); (focus (wtm_at "ev")))
  | ((with_reducible apply evt_not); (focus (wtm_at "evt")))
  | ((with_reducible apply evt_betwS); (focus (wtm_at "ev")); (focus (wtm_at "ev")); (focus (wtm_at "ev")); (all_goals (wtm_at "auto")))
  | ((with_reducible apply EVW.evt); (focus (wtm_at "evw")))
  | ((with_reducible apply evt_of); (focus (wtm_at "ev")); (all_goals (wtm_at "auto"))))
local macro_rules | `(tactic| wtm_at "evw") => `(tactic| first
  | ((with_reducible apply evw_and1); (focus (wtm_at "evt")))
  | ((with_reducible apply evw_or1); (focus (wtm_at "evt")))
  | ((with_reducible apply evw_and); (focus (wtm_at "evt")); (focus (intro _; wtm_at "evw")))
  | ((with_reducible apply evw_or); (focus (wtm_at "evt")); (focus (intro _; wtm_at "evw"))))

/-! ### numbers -/
def isWholeD (d : D) : Bool := isD "int" d && !isD "bool" d
theorem isWhole_int {d : D} (h : isWholeD d = true) : ∃ i, d = .int i := by
  cases d with
  | int i => exact ⟨i, rfl⟩
  | _ => cases h
def sp_is_whole : Spec := fun as Φ _ => ∃ d, as = [.dat d] ∧ Φ (.dat (.bool (isWholeD d)))
theorem fn_is_whole {g : Gm} [Hd g] : FnD g 1 "is_whole" P_is_whole [] sp_is_whole := by
  refine fn_def Hd.D_is_whole sc_is_whole (fun _ _ _ _ _ _ us hl => match us, hl with | [_], _ => rfl) (fun as Φ Ψ h => ?_) fun as Φ Ψ h => ?_
  · obtain ⟨d, rfl, _⟩ := h
    rfl
  · obtain ⟨d, rfl, hΦ⟩ := h
    show SD _ Ψ [.dat d] _ _
    exact sd_ret1 (ev_andB (by wtm_at "ev") fun _ => by wtm_at "ev") hΦ
def primesL : List Int := [2, 3, 5, 7, 11, 13, 17, 19, 23, 29, 31, 37, 41, 43, 47, 53, 59, 61, 67, 71, 73, 79, 83, 89, 97]
def isPrimeD : D → Bool
  | .int i => decide (i ∈ primesL)
  | _ => false
def sp_is_prime : Spec := fun as Φ _ => ∃ d, as = [.dat d] ∧ Φ (.dat (.bool (isPrimeD d)))
theorem fn_is_prime {g : Gm} [Hd g] : FnD g 2 "is_prime" P_is_prime [] sp_is_prime := by
  refine fn_def Hd.D_is_prime sc_is_prime (fun _ _ _ _ _ _ us hl => match us, hl with | [_], _ => rfl) (fun as Φ Ψ h => ?_) fun as Φ Ψ h => ?_
  · obtain ⟨d, rfl, _⟩ := h
    rfl
  · obtain ⟨d, rfl, hΦ⟩ := h
    show SD _ Ψ [.dat d] _ _
    cases hw : isWholeD d with
    | false =>
      refine sd_ret1 (ev_andF (ev_callD fn_is_whole (by wtm_at "eva") ⟨d, rfl, rfl⟩) hw) ?_
      have e : isPrimeD d = false := by
        cases d with
        | int i => cases hw
        | _ => rfl
      rw [e] at hΦ
      exact hΦ
    | true =>
      obtain ⟨i, rfl⟩ := isWhole_int hw
      refine sd_ret1 (ev_andB (ev_callD fn_is_whole (by wtm_at "eva") ⟨_, rfl, rfl⟩) fun _ => ev_one (ev_inI (ns := primesL) (by wtm_at "ev") (ev_gl Hd.V_PRIMES) (.inr rfl))) ?_
      exact hΦ
abbrev xBadPrime : Exc := ("BadPrime", [("word", .str "BadPrime")])
abbrev xBadNumber : Exc := ("BadNumber", [("word", .str "BadNumber")])
def sp_need_prime : Spec := fun as Φ Ψ => ∃ d, as = [.dat d] ∧ (isPrimeD d = true → Φ (.dat .none)) ∧ (isPrimeD d = false → Ψ xBadPrime)
theorem fn_need_prime {g : Gm} [Hd g] : FnD g 3 "need_prime" P_need_prime [] sp_need_prime := by
  refine fn_def Hd.D_need_prime sc_need_prime (fun _ _ _ _ _ _ us hl => match us, hl with | [_], _ => rfl) (fun as Φ Ψ h => ?_) fun as Φ Ψ h => ?_
  · obtain ⟨d, rfl, _⟩ := h
    rfl
  · obtain ⟨d, rfl, h1, h2⟩ := h
    show SD _ Ψ [.dat d] _ _
    refine sd_if (evt_not (evt_of (ev_callD fn_is_prime (by wtm_at "eva") ⟨d, rfl, rfl⟩))) (fun z => ?_) fun z => sd_nil (sd_nil (h1 (by simpa using z)))
    exact sd_raise0 Hd.X_BadPrime (h2 (by simpa using z))
def isResD : D → Int → Bool
  | .int i, p => decide (0 ≤ i) && decide (i < p)
  | _, _ => false
def sp_is_residue : Spec := fun as Φ _ => ∃ d p, as = [.dat d, .dat (.int p)] ∧ Φ (.dat (.bool (isResD d p)))
theorem fn_is_residue {g : Gm} [Hd g] : FnD g 2 "is_residue" P_is_residue [] sp_is_residue := by
  refine fn_def Hd.D_is_residue sc_is_residue (fun _ _ _ _ _ _ us hl => match us, hl with | [_, _], _ => rfl) (fun as Φ Ψ h => ?_) fun as Φ Ψ h => ?_
  · obtain ⟨d, p, rfl, _⟩ := h
    rfl
  · obtain ⟨d, p, rfl, hΦ⟩ := h
    show SD _ Ψ [.dat d, .dat (.int p)] _ _
    cases hw : isWholeD d with
    | false =>
      refine sd_ret1 (ev_andF (ev_callD fn_is_whole (by wtm_at "eva") ⟨d, rfl, rfl⟩) hw) ?_
      have e : isResD d p = false := by
        cases d with
        | int i => cases hw
        | _ => rfl
      rw [e] at hΦ
      exact hΦ
    | true =>
      obtain ⟨i, rfl⟩ := isWhole_int hw
      refine sd_ret1 (ev_andB (ev_callD fn_is_whole (by wtm_at "eva") ⟨_, rfl, rfl⟩) fun _ => by wtm_at "ev") ?_
      exact hΦ
theorem primes_range {p : Int} (h : p ∈ primesL) : 2 ≤ p ∧ p < 1000 := by
  have : ∀ q ∈ primesL, 2 ≤ q ∧ q < 1000 := by decide
  exact this p h

/-! ### _law_pull: some number from 0 to below the second argument -/
theorem bag_ix {K : PySem.W.Frag} {H : Hp} {b c : Addr} {i j s t : Int} (h : H b = some (.lst (bagL c i j s t))) : SqL K H b (bagL c i j s t) := SqL.of h
theorem ok_pull {g : Gm} {f : Addr} {fd : FuncData} (F : FunD g.K "_law_pull" "_law_pull" (defArgs s__law_pull) (defBody s__law_pull) (defScope s__law_pull) [] [] f fd) (hlen : g.mg "len" = none) :
    FnOk g.P g.w g.K g.mg g.base (L2.CX g.P g.w) 1 f fd P__law_pull (spD g sp_pull) := by
  refine F.ok sc__law_pull (fun vs H Q E h => ?_) fun cdv A outer s H vs Q E hr h => ?_
  · obtain ⟨m, F', G, as, _, _, _, _, ha, Φ, Ψ, ⟨n, rfl, _⟩, _⟩ := h
    rw [ha.len]
    rfl
  · obtain ⟨m, F', G, as, hK, hmg, hT, st, ha, Φ, Ψ, ⟨n, rfl, n0, n1, hΦ⟩, hQ, _⟩ := h
    cases ha with
    | cons a1 r1 =>
      cases r1 with
      | cons a2 r2 =>
        cases r2
        obtain ⟨b, hB, rfl⟩ := a1
        have a2' : Dp m.K G _ (.int n) := a2
        cases a2'
        obtain ⟨⟨c, ns, i, j, sv, t, eb, hc, hl, i0, i1, j0, s0, s1, t0⟩, hG, hF⟩ := st.bag b hB
        have nc : c ≠ b := fun z => by
          rw [z, hG] at hc
          cases hc
        have hcH : ∀ o, SqL g.K (upd H b o) c (ns.map V.int) := fun o => SqL.of (by rw [upd_ne nc]; exact st.same _ _ hc)
        have hcH0 : SqL g.K H c (ns.map V.int) := SqL.of (st.same _ _ hc)
        -- the end
        have fin : ∀ (r i' j' s' t' : Int), 0 ≤ r → r < n → 0 ≤ i' ∧ i' ≤ ns.length → 0 ≤ j' → 0 ≤ s' ∧ s' < 2147483563 → 0 ≤ t' → Q (.int r) (upd H b (.lst (bagL c i' j' s' t'))) := fun r i' j' s' t' q1 q2 q3 q4 q5 q6 =>
          hQ _ _ _ (hΦ r q1 q2) ⟨G, Same.refl _, st.bagw hB hc hl q3 q4 q5 q6, .int r⟩
        obtain ⟨X, hX⟩ : ∃ X, X = cxOf (L2.CX g.P g.w) g.P g.w g.K g.mg g.base N__law_pull "_law_pull" (defScope s__law_pull) f cdv A outer s H E := ⟨_, rfl⟩
        have mul1 : ∀ a k : Int, -(2 ^ 64) < k ∧ k < 2 ^ 64 → CMul a k := fun a k h => .inr h
        -- behind the third statement
        have tail2 : ∀ (z2 z3 : Option V) (i' j' s' t' : Int), 0 ≤ i' ∧ i' ≤ ns.length → 0 ≤ j' → 0 ≤ s' ∧ s' < 2147483563 → 0 ≤ t' →
            wSs X ((defBody s__law_pull).drop 3) { nx := fun _ H' => Q .non H', rt := Q } [some (.ref b), some (.int n), z2, z3, none, none] (upd H b (.lst (bagL c i' j' s' t'))) := by
          intro z2 z3 i' j' s' t' q1 q2 q3 q4
          subst hX
          refine ⟨_, pss_cons (ps_set (i := 4) sc__law_pull.nd rfl (.inl rfl) (pe_ix ix_list (pv 0) pe_int (fun _ _ => rfl)))
            (pss_cons (ps_set (i := 5) sc__law_pull.nd rfl (.inl rfl) (pe_op op_add (pe_op op_mul (pe_op op_mod (pe_op op_mul (pv 4) (pv 4)) pe_int) pe_int) (pe_op op_mul (pv 4) pe_int)))
            (pss_cons (ps_asg (pe_op op_mod (pe_op op_add (pe_op op_add (pv 5) pe_int) (pe_ix ix_list (pv 0) pe_int (fun _ _ => rfl))) pe_int) (pg_sub (pv 0) pe_int set_list))
            (pss_cons (ps_set (i := 4) sc__law_pull.nd rfl (.inl rfl) (pe_ix ix_list (pv 0) pe_int (fun _ _ => rfl)))
            (pss_one (ps_ret (pe_op op_mod (pe_op op_add (pe_op op_add (pe_op op_fdiv (pv 4) pe_int) (pe_op op_mul (pe_op op_mod (pv 4) pe_int) pe_int)) (pe_op op_mul (pe_op op_mul (pv 4) (pe_ix ix_list (pv 0) pe_int (fun _ _ => rfl))) pe_int)) (pv 1))))))), ?_⟩
          refine ⟨.ref b, rfl, b, bagL c i' j' s' t', 3, (.int s'), rfl, rfl, SqL.of upd_same, rfl, ?_⟩
          refine ⟨_, rfl, _, rfl, s', s', rfl, rfl, .inl ⟨by omega, by omega⟩, _, 2147483629, rfl, rfl, (show (0 : Int) < 2147483629 by decide), _, 16807, rfl, rfl, mul1 _ _ ⟨by decide, by decide⟩, _, rfl, s', 48271, rfl, rfl, mul1 _ _ ⟨by decide, by decide⟩, _, _, rfl, rfl, ?_⟩
          refine ⟨_, rfl, s' * s' % 2147483629 * 16807 + s' * 48271, 40692, rfl, rfl, .ref b, rfl, b, bagL c i' j' s' t', 4, (.int t'), rfl, rfl, SqL.of upd_same, rfl, ?_⟩
          generalize s' * s' % 2147483629 * 16807 + s' * 48271 = w
          refine ⟨_, t', rfl, rfl, _, 2147483563, rfl, rfl, (show (0 : Int) < 2147483563 by decide), _, rfl, b, _, 3, 3, rfl, rfl, upd_same, rfl, ?_⟩
          rw [upd_upd]
          have hs2 : 0 ≤ (w + 40692 + t') % 2147483563 ∧ (w + 40692 + t') % 2147483563 < 2147483563 := ⟨Int.emod_nonneg _ (by decide), Int.emod_lt_of_pos _ (by decide)⟩
          refine ⟨.ref b, rfl, b, bagL c i' j' ((w + 40692 + t') % 2147483563) t', 3, (.int ((w + 40692 + t') % 2147483563)), rfl, rfl, SqL.of upd_same, rfl, ?_⟩
          refine ⟨_, rfl, ((w + 40692 + t') % 2147483563), 89, rfl, rfl, ⟨by decide, by decide⟩, _, rfl, ((w + 40692 + t') % 2147483563), 7919, rfl, rfl, (show (0 : Int) < 7919 by decide), _, 31, rfl, rfl, mul1 _ _ ⟨by decide, by decide⟩, _, _, rfl, rfl, _, rfl, .ref b, rfl, b, bagL c i' j' ((w + 40692 + t') % 2147483563) t', 4, (.int t'), rfl, rfl, SqL.of upd_same, rfl, ?_⟩
          refine ⟨((w + 40692 + t') % 2147483563), t', rfl, rfl, .inl ⟨by omega, by omega⟩, _, 2147483629, rfl, rfl, mul1 _ _ ⟨by decide, by decide⟩, _, _, rfl, rfl, _, rfl, _, n, rfl, rfl, n0, ?_⟩
          exact fin _ _ _ _ _ (Int.emod_nonneg _ (by omega)) (Int.emod_lt_of_pos _ n0) q1 q2 hs2 q4
        -- behind the second
        have tail1 : ∀ (z2 : Option V) (i' j' s' t' : Int), 0 ≤ i' ∧ i' ≤ ns.length → 0 ≤ j' → 0 ≤ s' ∧ s' < 2147483563 → 0 ≤ t' →
            wSs X ((defBody s__law_pull).drop 2) { nx := fun _ H' => Q .non H', rt := Q } [some (.ref b), some (.int n), z2, none, none, none] (upd H b (.lst (bagL c i' j' s' t'))) := by
          intro z2 i' j' s' t' q1 q2 q3 q4
          have t2 := tail2 z2 none i' j' s' t' q1 q2 q3 q4
          subst hX
          refine ⟨_, pss_cons (ps_if (pt_cmpR op_gt (pe_ix ix_list (pv 0) pe_int (fun _ _ => rfl)) pe_int (nomark _))
            (pss_cons (ps_set (i := 3) sc__law_pull.nd rfl (.inl rfl) (pe_op op_mod (pe_ix ix_list (pv 0) pe_int (fun _ _ => rfl)) (pv 1)))
              (pss_cons (ps_asg (pe_op op_fdivW (pe_ix ix_list (pv 0) pe_int (fun _ _ => rfl)) (pv 1)) (pg_sub (pv 0) pe_int set_list)) (pss_one (ps_ret (pv 3)))))
            pss_nil) pss_w, ?_⟩
          refine ⟨.ref b, rfl, b, bagL c i' j' s' t', 2, (.int j'), rfl, rfl, SqL.of upd_same, rfl, j', 0, rfl, rfl, _, rfl, ?_⟩
          refine ite2 (fun hj => ?_) fun hj => t2
          refine ⟨.ref b, rfl, b, bagL c i' j' s' t', 2, (.int j'), rfl, rfl, SqL.of upd_same, rfl, _, rfl, j', n, rfl, rfl, n0, ?_⟩
          refine ⟨.ref b, rfl, b, bagL c i' j' s' t', 2, (.int j'), rfl, rfl, SqL.of upd_same, rfl, _, rfl, j', n, rfl, rfl, ?_, _, rfl, b, _, 2, 2, rfl, rfl, upd_same, rfl, ?_⟩
          · exact wide_div (b := 80) n0 (by omega) (by decide) (by decide)
          · rw [upd_upd]
            exact ⟨_, rfl, fin (j' % n) i' (j' / n) s' t' (Int.emod_nonneg _ (by omega)) (Int.emod_lt_of_pos _ n0) q1 (Int.ediv_nonneg q2 (by omega)) q3 q4⟩
        have g1 := fun z2 i' j' s' h1 h2 h3 => tail1 z2 i' j' s' (t + 1) h1 h2 h3 (by omega)
        subst hX
        refine ⟨_, pss_cons (ps_asg (pe_op op_add (pe_ix ix_list (pv 0) pe_int (fun _ _ => rfl)) pe_int) (pg_sub (pv 0) pe_int set_list))
          (pss_cons (ps_if (PW.pt (pw_and (pt_cmpR op_eq (pe_ix ix_list (pv 0) pe_int (fun _ _ => rfl)) pe_int (nomark _)) (pw_and1 (pt_cmpR op_lt (pe_ix ix_list (pv 0) pe_int (fun _ _ => rfl)) (pe_callB call_len (by rfl) hlen boot_len (pa_cons (pe_ix ix_list (pv 0) pe_int (fun _ _ => rfl)) pa_nil)) (nomark _)))))
            (pss_cons (ps_set (i := 2) sc__law_pull.nd rfl (.inl rfl) (pe_ix ix_list (pe_ix ix_list (pv 0) pe_int (fun _ _ => rfl)) (pe_ix ix_list (pv 0) pe_int (fun _ _ => rfl)) (fun _ _ => rfl)))
              (pss_cons (ps_asg (pe_op op_add (pe_ix ix_list (pv 0) pe_int (fun _ _ => rfl)) pe_int) (pg_sub (pv 0) pe_int set_list))
                (pss_one (ps_if (pt_cmpR op_ge (pv 2) (pe_op op_pow pe_int pe_int) (nomark _)) (pss_one (ps_asg (pv 2) (pg_sub (pv 0) pe_int set_list)))
                  (pss_one (ps_asg (pe_op op_mod (pe_op op_add (pe_op op_add (pe_op op_mul (pe_ix ix_list (pv 0) pe_int (fun _ _ => rfl)) pe_int) (pe_op op_mul (pe_op op_mod (pv 2) pe_int) pe_int)) pe_int) pe_int) (pg_sub (pv 0) pe_int set_list)))))))
            pss_nil) pss_w), ?_⟩
        refine ⟨.ref b, rfl, b, bagL c i j sv t, 4, .int t, rfl, rfl, SqL.of eb, rfl, t, 1, rfl, rfl, .ref b, rfl, b, bagL c i j sv t, 4, 4, rfl, rfl, eb, rfl, ?_⟩
        refine ⟨.ref b, rfl, b, bagL c i j sv (t + 1), 2, (.int j), rfl, rfl, SqL.of upd_same, rfl, rfl, _, rfl, ?_⟩
        refine ite2 (fun hj => ?_) fun hj => iteF (g1 none i j sv ⟨i0, i1⟩ j0 ⟨s0, s1⟩)
        refine ⟨.ref b, rfl, b, bagL c i j sv (t + 1), 1, (.int i), rfl, rfl, SqL.of upd_same, rfl, .ref b, rfl, b, bagL c i j sv (t + 1), 0, (.ref c), rfl, rfl, SqL.of upd_same, rfl, .ref c, (ns.map V.int).length, rfl, .inl ⟨_, hcH _, rfl⟩, i, _, rfl, rfl, _, rfl, ?_⟩
        rw [List.length_map]
        refine ite2 (fun hi => ?_) fun hi => g1 none i j sv ⟨i0, i1⟩ j0 ⟨s0, s1⟩
        have hi' : i < ns.length := of_decide_eq_true hi
        have hin : i.toNat < ns.length := by omega
        refine ⟨.ref b, rfl, b, bagL c i j sv (t + 1), 0, (.ref c), rfl, rfl, SqL.of upd_same, rfl, .ref b, rfl, b, bagL c i j sv (t + 1), 1, (.int i), rfl, rfl, SqL.of upd_same, rfl, c, _, i, .int ns[i.toNat], rfl, rfl, hcH _, ?_, ?_⟩
        · unfold atI ixN
          rw [List.length_map, if_pos i0, if_pos hi']
          show (ns.map V.int)[i.toNat]? = _
          rw [List.getElem?_map, List.getElem?_eq_getElem hin]
          rfl
        generalize ns[i.toNat] = cell
        refine ⟨.ref b, rfl, b, bagL c i j sv (t + 1), 1, (.int i), rfl, rfl, SqL.of upd_same, rfl, i, 1, rfl, rfl, _, rfl, b, _, 1, 1, rfl, rfl, upd_same, rfl, ?_⟩
        rw [upd_upd]
        refine ⟨_, rfl, 10, 18, rfl, rfl, ⟨by decide, by decide, by decide⟩, cell, _, rfl, rfl, _, rfl, ?_⟩
        refine ite2 (fun hcell => ?_) fun hcell => ?_
        · have hc2 : (10 : Int) ^ (18 : Int).toNat ≤ cell := of_decide_eq_true hcell
          have hc3 : 0 ≤ cell := Int.le_trans (by decide) hc2
          refine ⟨_, rfl, _, rfl, b, _, 2, 2, rfl, rfl, upd_same, rfl, ?_⟩
          rw [upd_upd]
          exact g1 _ (i + 1) cell sv ⟨by omega, by omega⟩ hc3 ⟨s0, s1⟩
        · refine ⟨.ref b, rfl, b, bagL c (i + 1) j sv (t + 1), 3, (.int sv), rfl, rfl, SqL.of upd_same, rfl, sv, 69069, rfl, rfl, mul1 _ _ ⟨by decide, by decide⟩, _, rfl, cell, 2147483629, rfl, rfl, (show (0 : Int) < 2147483629 by decide), _, 40503, rfl, rfl, mul1 _ _ ⟨by decide, by decide⟩, _, _, rfl, rfl, _, 11, rfl, rfl, _, 2147483563, rfl, rfl, (show (0 : Int) < 2147483563 by decide), _, rfl, b, _, 3, 3, rfl, rfl, upd_same, rfl, ?_⟩
          rw [upd_upd]
          exact g1 _ (i + 1) j _ ⟨by omega, by omega⟩ j0 ⟨Int.emod_nonneg _ (by decide), Int.emod_lt_of_pos _ (by decide)⟩

theorem fn_pull {g : Gm} [Hd g] : FnD g 1 "_law_pull" P__law_pull [] sp_pull := by
  obtain ⟨f, fd, F, hm⟩ := Hd.D__law_pull (g := g)
  exact FnD.of F hm (F.bindsN fun _ _ _ _ _ _ us hl => match us, hl with | [_, _], _ => rfl) (ok_pull F Hd.B_len)

/-! ### draws -/
theorem itemD_list {ds : List D} {r : Int} (h0 : 0 ≤ r) (h1 : r < ds.length) : ∃ d, itemD r (.list ds) = some d ∧ d ∈ ds := by
  have hl : r.toNat < ds.length := by omega
  refine ⟨ds[r.toNat], ?_, List.getElem_mem hl⟩
  show atI ds r = _
  unfold atI ixN
  rw [if_pos h0, if_pos h1]
  show ds[r.toNat]? = _
  rw [List.getElem?_eq_getElem hl]
theorem fn_of_ {g : Gm} [Hd g] : FnD g 2 "_law_of" P__law_of [] sp_of := by
  refine fn_def Hd.D__law_of sc__law_of (fun _ _ _ _ _ _ us hl => match us, hl with | [_, _], _ => rfl) (fun as Φ Ψ h => ?_) fun as Φ Ψ h => ?_
  · obtain ⟨ds, rfl, _⟩ := h
    rfl
  · obtain ⟨ds, rfl, h1, h2, hΦ⟩ := h
    show SD _ Ψ [.bag, .dat (.list ds)] _ _
    refine sd_ret (Φ := fun d => d ∈ ds) (ev_ixg (by wtm_at "ev") (ev_pullI (Φ := fun d => ∃ r : Int, d = .int r ∧ 0 ≤ r ∧ r < ds.length) fn_pull (by wtm_at "look") (by wtm_at "ev") (by omega) (by omega) (fun r r0 r1 => ⟨r, rfl, r0, r1⟩)) ?_) fun d hd => hΦ d hd
    rintro _ _ rfl ⟨r, rfl, r0, r1⟩
    obtain ⟨d, e1, e2⟩ := itemD_list r0 r1
    exact ⟨r, d, rfl, e1, e2⟩

/-! ### primes, _law_same -/
def sp_primes : Spec := fun as Φ _ => as = [] ∧ Φ (.new (primesL.map .int))
theorem fn_primes {g : Gm} [Hd g] : FnD g 1 "_law_primes" P__law_primes [] sp_primes := by
  refine fn_def Hd.D__law_primes sc__law_primes (fun _ _ _ _ _ _ us hl => match us, hl with | [], _ => rfl) (fun as Φ Ψ h => ?_) fun as Φ Ψ h => ?_
  · obtain ⟨rfl, _⟩ := h
    rfl
  · obtain ⟨rfl, hΦ⟩ := h
    show SD _ Ψ [] _ _
    exact sd_retn (Φn := (· = primesL.map .int)) (evn_lst1 (by wtm_at "eva")) fun ds e => by rw [e]; exact hΦ
def sp_prime : Spec := fun as Φ _ => as = [.bag] ∧ ∀ p ∈ primesL, Φ (.dat (.int p))
theorem fn_prime {g : Gm} [Hd g] : FnD g 3 "_law_prime" P__law_prime [] sp_prime := by
  refine fn_def Hd.D__law_prime sc__law_prime (fun _ _ _ _ _ _ us hl => match us, hl with | [_], _ => rfl) (fun as Φ Ψ h => ?_) fun as Φ Ψ h => ?_
  · obtain ⟨rfl, _⟩ := h
    rfl
  · obtain ⟨rfl, hΦ⟩ := h
    show SD _ Ψ [.bag] _ _
    refine sd_ret (Φ := fun d => ∃ p ∈ primesL, d = .int p) (ev_of fn_of_ (by wtm_at "look") ?_) fun d ⟨p, hp, e⟩ => by rw [e]; exact hΦ p hp
    refine evl_cons (EV.to (by wtm_at "ev") ⟨2, by decide, rfl⟩) (evl_cons (EV.to (by wtm_at "ev") ⟨2, by decide, rfl⟩) (evl_cons (EV.to (by wtm_at "ev") ⟨3, by decide, rfl⟩) (evl_cons (EV.to (by wtm_at "ev") ⟨3, by decide, rfl⟩)
      (evl_cons (EV.to (by wtm_at "ev") ⟨5, by decide, rfl⟩) (evl_cons (EV.to (by wtm_at "ev") ⟨7, by decide, rfl⟩) (evl_cons (EV.to (by wtm_at "ev") ⟨97, by decide, rfl⟩) (evl_cons ?_ evl_nil)))))))
    refine ev_ofE fn_of_ (by wtm_at "look") ((ev_callN0 fn_primes ⟨rfl, rfl⟩).to ⟨_, rfl, by decide, by decide, fun x hx => ?_⟩)
    obtain ⟨p, hp, rfl⟩ := List.mem_map.mp hx
    exact ⟨p, hp, rfl⟩
def sameOk : Nat → D → Bool
  | 0, _ => false
  | n + 1, .list ds => decide (ds.length ≤ sizeLine) && ds.all (sameOk n)
  | n + 1, .tuple ds => decide (ds.length ≤ sizeLine) && ds.all (sameOk n)
  | _ + 1, .dict _ => false
  | _ + 1, .str x => SeqAt.shaped (.str x)
  | _ + 1, _ => true
def sp_same (n : Nat) : Spec := fun as Φ _ => ∃ d, as = [.dat d, .dat d] ∧ sameOk n d = true ∧ Φ (.dat (.bool true))
theorem all_trues (n : Nat) : (List.replicate n true).all id = true := by simp
theorem zip_trues (ds : List D) : (zipD ds ds).map (fun _ => PyData.bool true) = (List.replicate ds.length true).map PyData.bool := by
  rw [List.map_replicate]
  exact List.eq_replicate_iff.mpr ⟨by rw [List.length_map, zipD_len, Nat.min_self], fun b hb => by
    obtain ⟨_, _, rfl⟩ := List.mem_map.mp hb
    rfl⟩
theorem fn_same {g : Gm} [Hd g] (n : Nat) : FnD g (n + 1) "_law_same" P__law_same [] (sp_same n) := by
  induction n with
  | zero =>
    refine fn_def Hd.D__law_same sc__law_same (fun _ _ _ _ _ _ us hl => match us, hl with | [_, _], _ => rfl) (fun as Φ Ψ h => ?_) fun as Φ Ψ h => ?_
    · obtain ⟨d, rfl, _⟩ := h
      rfl
    · obtain ⟨d, rfl, h1, _⟩ := h
      cases h1
  | succ n ih =>
    refine fn_def Hd.D__law_same sc__law_same (fun _ _ _ _ _ _ us hl => match us, hl with | [_, _], _ => rfl) (fun as Φ Ψ h => ?_) fun as Φ Ψ h => ?_
    · obtain ⟨d, rfl, _⟩ := h
      rfl
    · obtain ⟨d, rfl, h1, hΦ⟩ := h
      show SD _ Ψ [.dat d, .dat d, .un, .un, .un] _ _
      cases d with
      | none =>
        refine sd_ifT (by wtm_at "evt") (by rfl) ?_
        refine sd_ret1 (ev_andB (by wtm_at "ev") fun _ => by wtm_at "ev") ?_
        exact hΦ
      | bool b =>
        refine sd_ifF (by wtm_at "evt") (by rfl) (sd_nil ?_)
        refine sd_ifF (by wtm_at "evt") (by rfl) (sd_nil ?_)
        refine sd_ifF (by wtm_at "evt") (by rfl) (sd_nil ?_)
        refine sd_ret1 (ev_andB (by wtm_at "ev") fun _ => ev_one (ev_eq (by wtm_at "ev") (by wtm_at "ev") rfl rfl)) ?_
        rw [eqv_self (d := .bool b) rfl]
        exact hΦ
      | int i =>
        refine sd_ifF (by wtm_at "evt") (by rfl) (sd_nil ?_)
        refine sd_ifF (by wtm_at "evt") (by rfl) (sd_nil ?_)
        refine sd_ifF (by wtm_at "evt") (by rfl) (sd_nil ?_)
        refine sd_ret1 (ev_andB (by wtm_at "ev") fun _ => by wtm_at "ev") ?_
        rw [decide_eq_true rfl]
        exact hΦ
      | str i =>
        refine sd_ifF (by wtm_at "evt") (by rfl) (sd_nil ?_)
        refine sd_ifF (by wtm_at "evt") (by rfl) (sd_nil ?_)
        refine sd_ifF (by wtm_at "evt") (by rfl) (sd_nil ?_)
        refine sd_ret1 (ev_andB (by wtm_at "ev") fun _ => ev_one (ev_eq (by wtm_at "ev") (by wtm_at "ev") h1 h1)) ?_
        rw [eqv_self h1]
        exact hΦ
      | list ds =>
        obtain ⟨hl, ha⟩ := Bool.and_eq_true_iff.mp (show (decide (ds.length ≤ sizeLine) && ds.all (sameOk n)) = true from h1)
        refine sd_ifF (by wtm_at "evt") (by rfl) (sd_nil ?_)
        refine sd_ifT (by wtm_at "evt") (by rfl) ?_
        refine sd_ifF (by wtm_at "evt") (by rfl) (sd_nil ?_)
        refine sd_set (ev_andB (by wtm_at "ev") fun _ => by wtm_at "ev") (by wtm_at "put") ?_
        refine sd_ret1 (ev_andB (by wtm_at "ev") fun _ => ev_one (ev_all (bs := List.replicate ds.length true) ((evn_map (fun _ => .bool true) (evi_zip (by wtm_at "ev") (by wtm_at "ev") (.inl ⟨rfl, rfl⟩) Hd.B_zip) (by rw [zipD_len, Nat.min_self]; exact of_decide_eq_true hl) [("_law_a", 3), ("_law_b", 4)] [3, 4] (by decide) ?_).ev1.imp ?_) Hd.B_all)) ?_
        · intro i d hd
          obtain ⟨u, v, e1, e2, rfl⟩ := zipD_get hd
          rw [e1] at e2
          cases e2
          show TGT _ NoX [.dat (.list ds), .dat (.list ds), .dat (.bool _), .un, .un] _ _ _ _
          refine tgt_tup (tgts_cons (ix := [3]) (tgt_put (by wtm_at "put") (tgts_cons (ix := [4]) (tgt_put (by wtm_at "put") (tgts_nil ?_)))))
          exact ev_callD ih (by wtm_at "eva") ⟨u, rfl, List.all_eq_true.mp ha u (List.mem_of_getElem? e1), rfl⟩ (hk := Nat.ble_eq_true_of_le (Nat.le_refl _))
        · intro d e
          rw [e, zip_trues]
        · rw [all_trues, decide_eq_true rfl]
          exact hΦ
      | tuple ds =>
        obtain ⟨hl, ha⟩ := Bool.and_eq_true_iff.mp (show (decide (ds.length ≤ sizeLine) && ds.all (sameOk n)) = true from h1)
        refine sd_ifF (by wtm_at "evt") (by rfl) (sd_nil ?_)
        refine sd_ifT (by wtm_at "evt") (by rfl) ?_
        refine sd_ifF (by wtm_at "evt") (by rfl) (sd_nil ?_)
        refine sd_set (ev_andB (by wtm_at "ev") fun _ => by wtm_at "ev") (by wtm_at "put") ?_
        refine sd_ret1 (ev_andB (by wtm_at "ev") fun _ => ev_one (ev_all (bs := List.replicate ds.length true) ((evn_map (fun _ => .bool true) (evi_zip (by wtm_at "ev") (by wtm_at "ev") (.inr ⟨rfl, rfl⟩) Hd.B_zip) (by rw [zipD_len, Nat.min_self]; exact of_decide_eq_true hl) [("_law_a", 3), ("_law_b", 4)] [3, 4] (by decide) ?_).ev1.imp ?_) Hd.B_all)) ?_
        · intro i d hd
          obtain ⟨u, v, e1, e2, rfl⟩ := zipD_get hd
          rw [e1] at e2
          cases e2
          show TGT _ NoX [.dat (.tuple ds), .dat (.tuple ds), .dat (.bool _), .un, .un] _ _ _ _
          refine tgt_tup (tgts_cons (ix := [3]) (tgt_put (by wtm_at "put") (tgts_cons (ix := [4]) (tgt_put (by wtm_at "put") (tgts_nil ?_)))))
          exact ev_callD ih (by wtm_at "eva") ⟨u, rfl, List.all_eq_true.mp ha u (List.mem_of_getElem? e1), rfl⟩ (hk := Nat.ble_eq_true_of_le (Nat.le_refl _))
        · intro d e
          rw [e, zip_trues]
        · rw [all_trues, decide_eq_true rfl]
          exact hΦ
      | dict ds => cases h1

/-! ### _law_bag -/
theorem cut63 {xs : List V} (h : xs.length ≤ 63) : cutV xs none (some 63) = xs := by
  unfold cutV
  have e1 : HT.sIx xs.length 0 none = 0 := rfl
  have e2 : HT.sIx xs.length xs.length (some 63) = xs.length := by
    unfold HT.sIx
    simp only []
    rw [if_neg (by decide)]
    show min 63 xs.length = xs.length
    omega
  rw [e1, e2, List.drop_zero, Nat.sub_zero, List.take_length]
theorem ok_bag {g : Gm} {f : Addr} {fd : FuncData} (F : FunD g.K "_law_bag" "_law_bag" (defArgs s__law_bag) (defBody s__law_bag) (defScope s__law_bag) [] [] f fd) (hlen : g.mg "len" = none) (hlist : g.mg "list" = none) :
    FnOk g.P g.w g.K g.mg g.base (L2.CX g.P g.w) 1 f fd P__law_bag (spBag g.K) := by
  refine F.ok sc__law_bag (fun vs H Q E h => ?_) fun cdv A outer s H vs Q E hr h => ?_
  · obtain ⟨a, ns, rfl, _⟩ := h
    rfl
  · obtain ⟨a, ns, rfl, hS, hl, hQ⟩ := h
    have hl' : (ns.map V.int).length ≤ 63 := by rw [List.length_map]; exact hl
    refine ⟨_, pss_cons (ps_set (i := 1) sc__law_bag.nd rfl (.inl rfl) (pe_op op_add pe_int (pe_callB call_len (by rfl) hlen boot_len (pa_cons (pe_slice sl_list (pv 0) po_none (po_some pe_int)) pa_nil))))
      (pss_cons (ps_for (passes_of rfl) rfl (pi_list (pe_slice sl_list (pv 0) po_none (po_some pe_int))) (pg_name (i := 2) sc__law_bag.nd rfl (.inl rfl)) (pss_one (ps_set (i := 1) sc__law_bag.nd rfl (.inl rfl) (pe_op op_mod (pe_op op_add (pe_op op_mul (pv 1) pe_int) (pv 2)) pe_int))))
      (pss_one (ps_ret (pe_lst (pa_cons (pe_callTy call_list_of (by rfl) hlist boot_list (pa_cons (pe_slice sl_list (pv 0) po_none (po_some pe_int)) pa_nil)) (pa_cons pe_int (pa_cons pe_int (pa_cons (pv 1) (pa_cons pe_int pa_nil))))))))), ?_⟩
    refine ⟨.ref a, rfl, 63, rfl, a, ns.map V.int, rfl, hS, fun p1 hp1 => ?_⟩
    rw [cut63 hl']
    have s1 : Same H (upd H p1 (.lst (ns.map V.int))) := same_upd hp1
    refine ⟨.ref p1, (ns.map V.int).length, rfl, .inl ⟨_, SqL.of upd_same, rfl⟩, 17, _, rfl, rfl, ?_⟩
    refine ⟨.ref a, rfl, 63, rfl, a, ns.map V.int, rfl, same_l s1 hS, fun p2 hp2 => ?_⟩
    rw [cut63 hl']
    have s2 : Same H (upd (upd H p1 (.lst (ns.map V.int))) p2 (.lst (ns.map V.int))) := s1.trans (same_upd hp2)
    have e2 : (upd (upd H p1 (.lst (ns.map V.int))) p2 (.lst (ns.map V.int))) p2 = some (.lst (ns.map V.int)) := upd_same
    generalize upd (upd H p1 (.lst (ns.map V.int))) p2 (.lst (ns.map V.int)) = H2 at s2 e2 ⊢
    have q2 : SqL g.K H2 p2 (ns.map V.int) := SqL.of e2
    refine ⟨p2, rfl, ⟨_, q2⟩, ?_⟩
    refine ⟨fun i m σ H' => m + i = ns.length ∧ H' = H2 ∧ ∃ (sv : Int) (z : Option V), σ = [some (.ref a), some (.int sv), z] ∧ 0 ≤ sv ∧ sv < 2147483563, ⟨ns.length, rfl, rfl, 17 + ((ns.map V.int).length : Nat), none, rfl, by omega, by omega⟩, ?_⟩
    rintro i m σ H' ⟨hm, rfl, sv, z, rfl, b1, b2⟩
    by_cases hi : i < ns.length
    · refine .inr ⟨⟨ns.map V.int, .int ns[i], q2, by rw [List.getElem?_map, List.getElem?_eq_getElem hi]; rfl⟩, _, fun σ' H'' n => ⟨m - 1, by omega, n⟩, ?_⟩
      rintro x H'' ⟨rfl, hy⟩
      have hx := hy _ q2
      rw [List.getElem?_map, List.getElem?_eq_getElem hi] at hx
      obtain rfl : V.int ns[i] = x := Option.some.inj hx
      refine ⟨_, rfl, sv, 52817, rfl, rfl, .inr ⟨by decide, by decide⟩, _, rfl, _, _, rfl, rfl, _, 2147483563, rfl, rfl, (show (0 : Int) < 2147483563 by decide), ?_⟩
      exact ⟨by omega, rfl, _, _, rfl, Int.emod_nonneg _ (by decide), Int.emod_lt_of_pos _ (by decide)⟩
    · refine .inl ⟨⟨ns.map V.int, q2, by rw [List.length_map]; omega⟩, ?_⟩
      refine ⟨.ref a, rfl, 63, rfl, a, ns.map V.int, rfl, same_l s2 hS, fun p3 hp3 => ?_⟩
      rw [cut63 hl']
      refine ⟨p3, ns.map V.int, rfl, .inl (SqL.of upd_same), fun c hc => ?_⟩
      refine ⟨_, rfl, by show 5 ≤ sizeLine; decide, fun b hb => ?_⟩
      have s3 := s2.trans ((same_upd (o := .lst (ns.map V.int)) hp3).trans (same_upd (o := .lst (ns.map V.int)) hc))
      have ncb : c ≠ b := fun z => by
        rw [← z, upd_same] at hb
        cases hb
      refine hQ _ b c sv (s3.trans (same_upd hb)) ?_ ncb (by rw [upd_ne ncb, upd_same]) upd_same ⟨b1, b2⟩
      cases q : H b with
      | none => rfl
      | some o =>
        rw [s3 b o q] at hb
        cases hb
theorem bag_fn {g : Gm} [Hd g] : BagFn g 1 := by
  obtain ⟨f, fd, F, hm⟩ := Hd.D__law_bag (g := g)
  exact ⟨f, fd, P__law_bag, hm, F.kp, F.bindsN fun _ _ _ _ _ _ us hl => (match us, hl with | [_], _ => rfl), ok_bag F Hd.B_len Hd.B_list⟩

/-! ### lag sums -/
def isSum12 (ns : List Int) (p : Int) : Bool := decide (ns.length ≤ 12) && isSumB ns p
def sp_issum : Spec := fun as Φ _ => ∃ ns p, as = [.dat (tupI ns), .dat (.int p)] ∧ ns.length ≤ sizeLine ∧ Φ (.dat (.bool (isSum12 ns p)))
theorem res_map (ns : List Int) (p : Int) : (ns.map PyData.int).map (fun d => PyData.bool (isResD d p)) = (ns.map fun i => decide (0 ≤ i) && decide (i < p)).map PyData.bool := by
  rw [List.map_map, List.map_map]
  rfl
theorem fn_issum {g : Gm} [Hd g] : FnD g 3 "is_sum" P_is_sum [] sp_issum := by
  refine fn_def Hd.D_is_sum sc_is_sum (fun _ _ _ _ _ _ us hl => match us, hl with | [_, _], _ => rfl) (fun as Φ Ψ h => ?_) fun as Φ Ψ h => ?_
  · obtain ⟨ns, p, rfl, _⟩ := h
    rfl
  · obtain ⟨ns, p, rfl, hl, hΦ⟩ := h
    show SD _ Ψ [.dat (tupI ns), .dat (.int p), .un] _ _
    have hl' : (ns.map PyData.int).length ≤ sizeLine := by rw [List.length_map]; exact hl
    refine sd_if (EVW.evt (evw_or (evt_not (by wtm_at "evt")) fun _ => evw_or1 (evt_gt (by wtm_at "ev") (ev_gl Hd.V_MOST_PLACES)))) (fun z => ?_) fun z => sd_nil ?_
    · refine sd_ret1 (by wtm_at "ev") ?_
      have e : isSum12 ns p = false := by
        unfold isSum12
        have z' : (12 : Int) < ((ns.map PyData.int).length : Nat) := of_decide_eq_true z
        rw [List.length_map] at z'
        rw [decide_eq_false (by omega)]
        rfl
      rw [e] at hΦ
      exact hΦ
    · have z' := of_decide_eq_false (show decide ((12 : Int) < ((ns.map PyData.int).length : Nat)) = false from z)
      rw [List.length_map] at z'
      refine sd_ret1 (ev_andB (ev_all (bs := ns.map fun i => decide (0 ≤ i) && decide (i < p)) ((evn_map (fun d => .bool (isResD d p)) (evi_tup (by wtm_at "ev")) hl' [("one", 2)] [2] (by decide) ?_).ev1.imp ?_) Hd.B_all) (l1 := decide (ns = []) || (match ns.getLast? with | some z => !decide (z = 0) | none => false)) fun _ => ev_one ?_) ?_
      · intro i d hd
        show TGT _ NoX [.dat (tupI ns), .dat (.int p), .un] _ _ _ _
        exact tgt_put (by wtm_at "put") (ev_callD fn_is_residue (by wtm_at "eva") ⟨_, p, rfl, rfl⟩)
      · intro d e
        rw [e, res_map]
      · cases hn : decide (ns = []) with
        | true => exact ev_orT (ev_eqT (by wtm_at "ev") ev_tup0) hn
        | false =>
          have hne := of_decide_eq_false hn
          rw [List.getLast?_eq_some_getLast hne]
          refine (ev_orB (ev_eqT (by wtm_at "ev") ev_tup0) fun _ => ev_one (ev_neI (ev_ix (by wtm_at "ev") (by wtm_at "ev") (last_item hne)) (by wtm_at "ev"))).imp fun d e => ?_
          rw [e, hn]
      · unfold isSum12 isSumB at hΦ
        rw [decide_eq_true (by omega : ns.length ≤ 12), Bool.true_and] at hΦ
        rw [show (ns.map fun i => decide (0 ≤ i) && decide (i < p)).all id = ns.all (fun i => decide (0 ≤ i) && decide (i < p)) by rw [List.all_map]; rfl]
        exact hΦ
abbrev xBadSum : Exc := ("BadSum", [("word", .str "BadSum")])
def sp_need_sums : Spec := fun as Φ Ψ => ∃ (nss : List (List Int)) (e : D), as = [.dat (.tuple (nss.map tupI)), .dat e] ∧ nss.length ≤ sizeLine ∧ (∀ ns ∈ nss, ns.length ≤ sizeLine) ∧ (isPrimeD e = false → Ψ xBadPrime) ∧ ∀ p, e = .int p → isPrimeD e = true → (nss.all (isSum12 · p) = true → Φ (.dat .none)) ∧ (nss.all (isSum12 · p) = false → Ψ xBadSum)
def sum12D (p : Int) : D → Bool
  | .tuple ds => isSum12 (ds.map fun d => match d with | .int i => i | _ => 0) p
  | _ => false
theorem sum12_tup (p : Int) (ns : List Int) : sum12D p (tupI ns) = isSum12 ns p := by
  show isSum12 ((ns.map PyData.int).map _) p = _
  rw [List.map_map]
  congr 1
  exact List.map_id ns
theorem fn_need_sums {g : Gm} [Hd g] : FnD g 4 "need_sums" P_need_sums [] sp_need_sums := by
  refine fn_def Hd.D_need_sums sc_need_sums (fun _ _ _ _ _ _ us hl => match us, hl with | [_, _], _ => rfl) (fun as Φ Ψ h => ?_) fun as Φ Ψ h => ?_
  · obtain ⟨nss, e, rfl, _⟩ := h
    rfl
  · obtain ⟨nss, e, rfl, hl, hl2, h1, h2⟩ := h
    show SD _ Ψ [.dat (.tuple (nss.map tupI)), .dat e, .un] _ _
    cases hp : isPrimeD e with
    | false =>
      exact sd_exprg (Φ := fun _ => False) (ev_call fn_need_prime (Φa := (· = [.dat e])) (by wtm_at "eva") (fun as z => ⟨e, by rw [z]; rfl, fun q => (by rw [hp] at q; cases q), fun _ => h1 hp⟩)) fun _ z => z.elim
    | true =>
      refine sd_exprg (Φ := fun _ => True) (ev_call fn_need_prime (Φa := (· = [.dat e])) (by wtm_at "eva") (fun as z => ⟨e, by rw [z]; rfl, fun _ => trivial, fun q => (by rw [hp] at q; cases q)⟩)) fun _ _ => ?_
      obtain ⟨p, rfl⟩ : ∃ p, e = .int p := by
        cases e with
        | int p => exact ⟨p, rfl⟩
        | _ => cases hp
      obtain ⟨h3, h4⟩ := h2 p rfl hp
      refine sd_if (evt_not (evt_of (ev_all (bs := nss.map (isSum12 · p)) ((evn_map (fun d => .bool (sum12D p d)) (evi_tup (by wtm_at "ev")) (by rw [List.length_map]; exact hl) [("one", 2)] [2] (by decide) ?_).ev1.imp ?_) Hd.B_all))) (fun z => sd_raise0 Hd.X_BadSum (h4 ?_)) fun z => sd_nil (sd_nil (h3 ?_))
      · intro i d hd
        show TGT _ NoX [.dat (.tuple (nss.map tupI)), .dat (.int p), .un] _ _ _ _
        obtain ⟨ns, hn, rfl⟩ := List.mem_map.mp (List.mem_of_getElem? hd)
        exact tgt_put (by wtm_at "put") (ev_callD fn_issum (by wtm_at "eva") ⟨ns, p, rfl, hl2 ns hn, by rw [sum12_tup]⟩)
      · intro d e
        rw [e, List.map_map, List.map_map]
        congr 2
        funext ns
        show PyData.bool (sum12D p (tupI ns)) = _
        rw [sum12_tup]
        rfl
      · rw [List.all_map] at z
        simpa using z
      · rw [List.all_map] at z
        simpa using z

/-! ### cut, joined, multiplied -/
theorem atI_nat {α : Type} {xs : List α} {i : Nat} {z : α} (h : xs[i]? = some z) : atI xs (i : Int) = some z := by
  have hl := (List.getElem?_eq_some_iff.mp h).1
  unfold atI ixN
  rw [if_pos (by omega), if_pos (by omega)]
  exact h
theorem ixN_nat {n i : Nat} (h : i < n) : ixN n (i : Int) = some i := by
  unfold ixN
  rw [if_pos (by omega), if_pos (by omega)]
  rfl
theorem cutD_to {α : Type} (xs : List α) (m : Nat) : cutD xs none (some (m : Int)) = xs.take m := by
  unfold cutD HT.sIx
  simp only []
  rw [if_neg (by omega), List.drop_zero, Nat.sub_zero]
  show xs.take (min m xs.length) = xs.take m
  by_cases h : m ≤ xs.length
  · rw [Nat.min_eq_left h]
  · rw [Nat.min_eq_right (by omega), List.take_length, List.take_of_length_le (by omega)]
theorem cutD_from {α : Type} (xs : List α) (m : Nat) : cutD xs (some (m : Int)) none = xs.drop m := by
  unfold cutD HT.sIx
  simp only []
  rw [if_neg (by omega)]
  show (xs.drop (min m xs.length)).take (xs.length - min m xs.length) = xs.drop m
  by_cases h : m ≤ xs.length
  · rw [Nat.min_eq_left h, List.take_of_length_le (by rw [List.length_drop]; exact Nat.le_refl _)]
  · rw [Nat.min_eq_right (by omega), List.drop_length, List.drop_of_length_le (by omega), List.take_nil]
def sp_cut : Spec := fun as Φ _ => ∃ ns, as = [.dat (lstI ns)] ∧ ns.length < 1000000 ∧ Φ (.dat (tupI (cutN ns)))
theorem fn_cut {g : Gm} [Hd g] : FnD g 1 "cut" P_cut [] sp_cut := by
  refine fn_def Hd.D_cut sc_cut (fun _ _ _ _ _ _ us hl => match us, hl with | [_], _ => rfl) (fun as Φ Ψ h => ?_) fun as Φ Ψ h => ?_
  · obtain ⟨ns, rfl, _⟩ := h
    rfl
  · obtain ⟨ns, rfl, hl, hΦ⟩ := h
    show SD _ Ψ [.dat (lstI ns), .un] _ _
    refine sd_set (by wtm_at "ev") (by wtm_at "put") ?_
    refine sd_while (fun n ρ => ∃ m : Nat, n = m ∧ m ≤ ns.length ∧ ρ = [.dat (lstI ns), .dat (.int m)] ∧ cutN ns = cutN (ns.take m)) ⟨ns.length, ns.length, rfl, Nat.le_refl _, by rw [List.length_map], by rw [List.take_length]⟩ ?_
    rintro n _ ⟨m, rfl, hm, rfl, hc⟩
    have fin : (n = 0 ∨ ∃ z, ns[n - 1]? = some z ∧ z ≠ 0) → SD ⟨g, N_cut, defScope s_cut, 0, true, none⟩ Ψ [.dat (lstI ns), .dat (.int n)] ((defBody s_cut).drop 2) { nx := fun _ => Φ (.dat .none), rt := Φ } := fun h => by
      have e : cutN (ns.take n) = ns.take n := by
        rcases h with rfl | ⟨z, hz, hne⟩
        · rfl
        · cases n with
          | zero => rfl
          | succ n =>
            have h1 : n < ns.length := (List.getElem?_eq_some_iff.mp hz).1
            have h2 : ns[n] = z := (List.getElem?_eq_some_iff.mp hz).2
            rw [List.take_succ_eq_append_getElem h1, h2]
            exact cutN_last hne
      refine sd_ret1 (ev_tuple (evn_sl (by wtm_at "ev") evo_none (evo_some (by wtm_at "ev"))).ev1 (.inl rfl) Hd.B_tuple) ?_
      rw [cutD_to, ← List.map_take, ← e, ← hc]
      exact hΦ
    cases n with
    | zero =>
      refine ⟨false, EVW.evt (evw_andF (evt_gt (by wtm_at "ev") (by wtm_at "ev")) (by rfl)), (fun z => nomatch z), fun _ => fin (.inl rfl)⟩
    | succ n =>
      have h1 : n < ns.length := hm
      have hg : ns[n]? = some ns[n] := List.getElem?_eq_getElem h1
      have hi : itemD ((n + 1 : Nat) - 1 : Int) (lstI ns) = some (.int ns[n]) := by
        rw [show ((n + 1 : Nat) : Int) - 1 = (n : Int) by omega]
        refine atI_nat ?_
        rw [List.getElem?_map, hg]
        rfl
      refine ⟨_, EVW.evt (evw_and (evt_gt (by wtm_at "ev") (by wtm_at "ev")) fun _ => evw_and1 (evt_eqI (ev_ix (by wtm_at "ev") (by wtm_at "ev") hi) (by wtm_at "ev"))), fun z => ?_, fun z => ?_⟩
      · have hz : ns[n] = 0 := of_decide_eq_true (Bool.and_eq_true_iff.mp z).2
        refine sd_augSub (by wtm_at "look") (by wtm_at "ev") (by wtm_at "put") (sd_nil ⟨n, by omega, n, rfl, by omega, ?_, ?_⟩)
        · rw [show ((n + 1 : Nat) : Int) - 1 = (n : Int) by omega]
        · rw [hc, List.take_succ_eq_append_getElem h1, hz, cutN_zero]
      · refine fin (.inr ⟨ns[n], hg, fun hz => ?_⟩)
        rw [hz, decide_eq_true (show (0 : Int) < ((n + 1 : Nat) : Int) by omega)] at z
        cases z

def sp_joined : Spec := fun as Φ _ => ∃ (one other : List Int) (number p : Int) (by_ : Nat), as = [.dat (tupI one), .dat (tupI other), .dat (.int number), .dat (.int by_), .dat (.int p)] ∧ one.length ≤ 1000 ∧ other.length ≤ 1000 ∧ by_ ≤ 1000 ∧ 0 < p ∧ p < 1000 ∧ (∀ z ∈ other, 0 ≤ z ∧ z < p) ∧ Φ (.dat (tupI (joinedN p number one other by_)))
theorem rep_zero (n : Nat) : (List.replicate n [PyData.int 0]).flatten = (List.replicate n (0 : Int)).map PyData.int := by
  induction n with
  | zero => rfl
  | succ n ih =>
    rw [List.replicate_succ, List.flatten_cons, ih]
    rfl
theorem map_set_int (xs : List Int) (j : Nat) (z : Int) : (xs.map PyData.int).set j (.int z) = (xs.set j z).map PyData.int := by
  rw [List.map_set]
theorem fn_joined {g : Gm} [Hd g] : FnD g 2 "joined" P_joined [] sp_joined := by
  refine fn_def Hd.D_joined sc_joined (fun _ _ _ _ _ _ us hl => match us, hl with | [_, _, _, _, _], _ => rfl) (fun as Φ Ψ h => ?_) fun as Φ Ψ h => ?_
  · obtain ⟨one, other, number, p, b, rfl, _⟩ := h
    rfl
  · obtain ⟨one, other, number, p, b, rfl, l1, l2, l3, p0, p1, hz, hΦ⟩ := h
    show SD _ Ψ [.dat (tupI one), .dat (tupI other), .dat (.int number), .dat (.int b), .dat (.int p), .un, .un, .un] _ _
    have pl : (padN one ((other.length : Int) + b - one.length)).length ≤ 3000 := by
      unfold padN
      rw [List.length_append, List.length_replicate]
      omega
    refine sd_setn (ds := (padN one ((other.length : Int) + b - one.length)).map .int) ((evn_cat (evn_list (by wtm_at "ev") (.inr rfl) Hd.B_list) (evn_rep (by wtm_at "evn") (by wtm_at "ev") ?_ ?_ ?_) ?_).imp fun ds e => ?_) (by wtm_at "put") ?_
    · rw [List.length_map, List.length_map]
      omega
    · rw [List.length_map, List.length_map]
      omega
    · rw [List.length_map, List.length_map, show sizeLine = 16777216 from rfl]
      show 1 * _ ≤ _
      omega
    · rw [rep_zero, List.length_map, List.length_map, List.length_map, List.length_replicate, show sizeLine = 16777216 from rfl]
      omega
    · rw [e, rep_zero, ← List.map_append, List.length_map, List.length_map]
      rfl
    refine sd_for (fun i ρ => ∃ (f : List Int) (z6 z7 : En), ρ = [.dat (tupI one), .dat (tupI other), .dat (.int number), .dat (.int b), .dat (.int p), .own (f.map .int), z6, z7] ∧ f.length = (padN one ((other.length : Int) + b - one.length)).length ∧ joinL p number f (other.drop i) (b + i) = joinL p number (padN one ((other.length : Int) + b - one.length)) other b) (evi_enumT (by wtm_at "ev") Hd.B_enumerate) ?_ ?_ ?_
    · rintro _ rfl
      exact ⟨_, _, _, rfl, rfl, rfl⟩
    · rintro _ i d _ rfl hd ⟨f, z6, z7, rfl, hf, hj⟩
      obtain ⟨u, v, g1, g2, rfl⟩ := zipD_get hd
      obtain ⟨_, rfl⟩ := rangeD_get g1
      rw [Int.zero_add]
      have hi : i < other.length := by
        have := (List.getElem?_eq_some_iff.mp g2).1
        rw [List.length_map] at this
        exact this
      rw [List.getElem?_map, List.getElem?_eq_getElem hi] at g2
      obtain rfl : PyData.int other[i] = v := Option.some.inj g2
      have hq := hz other[i] (List.getElem_mem hi)
      have pb := pad_len one other.length b
      have hlt : i + b < f.length := by omega
      have hat : atI (f.map PyData.int) ((i : Int) + (b : Int)) = some (.int (co f (b + i))) := by
        rw [show (i : Int) + (b : Int) = ((i + b : Nat) : Int) by omega]
        refine atI_nat ?_
        rw [List.getElem?_map, List.getElem?_eq_getElem hlt]
        unfold co
        rw [List.getD_eq_getElem?_getD, Nat.add_comm b i, List.getElem?_eq_getElem hlt]
        rfl
      have hix : ixN (f.map PyData.int).length ((i : Int) + (b : Int)) = some (i + b) := by
        rw [show (i : Int) + (b : Int) = ((i + b : Nat) : Int) by omega, List.length_map]
        exact ixN_nat hlt
      have hcm : CMul number other[i] := .inr ⟨by omega, by omega⟩
      refine ⟨_, tgt_tup (tgts_cons (ix := [6]) (tgt_put (by wtm_at "put") (tgts_cons (ix := [7]) (tgt_put (by wtm_at "put") (tgts_nil ?_)))))⟩
      refine sd_subO (ev_mod (ev_add (ev_ixO (by wtm_at "look") (by wtm_at "ev") hat) (by wtm_at "ev")) (by wtm_at "ev") p0) (by wtm_at "ev") (by wtm_at "look") hix (by wtm_at "put") (sd_nil ?_)
      refine ⟨f.set (i + b) ((co f (b + i) + number * other[i]) % p), _, _, by rw [map_set_int], by rw [List.length_set]; exact hf, ?_⟩
      rw [← hj, List.drop_eq_getElem_cons hi, joinL, Nat.add_comm i b, Nat.add_assoc]
    · rintro _ _ rfl ⟨f, z6, z7, rfl, hf, hj⟩
      have e : (zipD (rangeD 0 (other.map PyData.int).length) (other.map PyData.int)).length = other.length := by
        rw [zipD_len, rangeD_len, List.length_map, Nat.min_self]
      rw [e, List.drop_length] at hj
      have hj' : f = joinL p number (padN one ((other.length : Int) + b - one.length)) other b := hj
      refine sd_frz (x := "found") (by wtm_at "put") (by wtm_at "look") ?_
      refine sd_ret1 (ev_callD fn_cut (by wtm_at "eva") ⟨f, rfl, by omega, rfl⟩) ?_
      rw [hj']
      exact hΦ

/-! ### added, lessened, multiplied -/
def spBin (f : Int → List Int → List Int → List Int) : Spec := fun as Φ _ => ∃ (one other : List Int) (p : Int), as = [.dat (tupI one), .dat (tupI other), .dat (.int p)] ∧ one.length ≤ 1000 ∧ other.length ≤ 1000 ∧ 0 < p ∧ p < 1000 ∧ (∀ z ∈ other, 0 ≤ z ∧ z < p) ∧ Φ (.dat (tupI (f p one other)))
def addN (p : Int) (one other : List Int) : List Int := joinedN p 1 one other 0
def lesN (p : Int) (one other : List Int) : List Int := joinedN p (p - 1) one other 0
theorem fn_added {g : Gm} [Hd g] : FnD g 3 "added" P_added [] (spBin addN) := by
  refine fn_def Hd.D_added sc_added (fun _ _ _ _ _ _ us hl => match us, hl with | [_, _, _], _ => rfl) (fun as Φ Ψ h => ?_) fun as Φ Ψ h => ?_
  · obtain ⟨one, other, p, rfl, _⟩ := h
    rfl
  · obtain ⟨one, other, p, rfl, l1, l2, p0, p1, hz, hΦ⟩ := h
    show SD _ Ψ [.dat (tupI one), .dat (tupI other), .dat (.int p)] _ _
    exact sd_ret1 (ev_callD fn_joined (by wtm_at "eva") ⟨one, other, 1, p, 0, rfl, l1, l2, by decide, p0, p1, hz, rfl⟩) hΦ
theorem fn_lessened {g : Gm} [Hd g] : FnD g 3 "lessened" P_lessened [] (spBin lesN) := by
  refine fn_def Hd.D_lessened sc_lessened (fun _ _ _ _ _ _ us hl => match us, hl with | [_, _, _], _ => rfl) (fun as Φ Ψ h => ?_) fun as Φ Ψ h => ?_
  · obtain ⟨one, other, p, rfl, _⟩ := h
    rfl
  · obtain ⟨one, other, p, rfl, l1, l2, p0, p1, hz, hΦ⟩ := h
    show SD _ Ψ [.dat (tupI one), .dat (tupI other), .dat (.int p)] _ _
    exact sd_ret1 (ev_callD fn_joined (by wtm_at "eva") ⟨one, other, p - 1, p, 0, rfl, l1, l2, by decide, p0, p1, hz, rfl⟩) hΦ
def mulN (p : Int) (one other : List Int) : List Int := mulL p other one 0 []
def sp_multiplied : Spec := fun as Φ _ => ∃ (one other : List Int) (p : Int), as = [.dat (tupI one), .dat (tupI other), .dat (.int p)] ∧ one.length ≤ 400 ∧ other.length ≤ 400 ∧ 0 < p ∧ p < 1000 ∧ (∀ z ∈ other, 0 ≤ z ∧ z < p) ∧ Φ (.dat (tupI (mulN p one other)))
theorem fn_multiplied {g : Gm} [Hd g] : FnD g 3 "multiplied" P_multiplied [] sp_multiplied := by
  refine fn_def Hd.D_multiplied sc_multiplied (fun _ _ _ _ _ _ us hl => match us, hl with | [_, _, _], _ => rfl) (fun as Φ Ψ h => ?_) fun as Φ Ψ h => ?_
  · obtain ⟨one, other, p, rfl, _⟩ := h
    rfl
  · obtain ⟨one, other, p, rfl, l1, l2, p0, p1, hz, hΦ⟩ := h
    show SD _ Ψ [.dat (tupI one), .dat (tupI other), .dat (.int p), .un, .un, .un] _ _
    refine sd_set (d := tupI []) ev_tup0 (by wtm_at "put") ?_
    refine sd_for (fun i ρ => ∃ (f : List Int) (z6 z7 : En), ρ = [.dat (tupI one), .dat (tupI other), .dat (.int p), .dat (tupI f), z6, z7] ∧ f.length ≤ 800 ∧ mulL p other (one.drop i) i f = mulN p one other) (evi_enumT (by wtm_at "ev") Hd.B_enumerate) ?_ ?_ ?_
    · rintro _ rfl
      exact ⟨_, _, _, rfl, by decide, rfl⟩
    · rintro _ i d _ rfl hd ⟨f, z6, z7, rfl, hf, hj⟩
      obtain ⟨u, v, g1, g2, rfl⟩ := zipD_get hd
      obtain ⟨_, rfl⟩ := rangeD_get g1
      rw [Int.zero_add]
      have hi : i < one.length := by
        have := (List.getElem?_eq_some_iff.mp g2).1
        rw [List.length_map] at this
        exact this
      rw [List.getElem?_map, List.getElem?_eq_getElem hi] at g2
      obtain rfl : PyData.int one[i] = v := Option.some.inj g2
      rw [List.drop_eq_getElem_cons hi, mulL] at hj
      refine ⟨_, tgt_tup (tgts_cons (ix := [4]) (tgt_put (by wtm_at "put") (tgts_cons (ix := [5]) (tgt_put (by wtm_at "put") (tgts_nil ?_)))))⟩
      refine sd_if (by wtm_at "evt") (fun z => ?_) fun z => sd_nil (sd_nil ⟨f, _, _, rfl, hf, ?_⟩)
      · have hne : one[i] ≠ 0 := by simpa using z
        rw [if_neg hne] at hj
        exact sd_set (ev_callD fn_joined (by wtm_at "eva") ⟨f, other, one[i], p, i, rfl, by omega, by omega, by omega, p0, p1, hz, rfl⟩) (by wtm_at "put") (sd_nil (sd_nil ⟨_, _, _, rfl, joined_len hf (by omega), hj⟩))
      · have he : one[i] = 0 := by simpa using z
        rw [if_pos he] at hj
        exact hj
    · rintro _ _ rfl ⟨f, z6, z7, rfl, hf, hj⟩
      have e : (zipD (rangeD 0 (one.map PyData.int).length) (one.map PyData.int)).length = one.length := by
        rw [zipD_len, rangeD_len, List.length_map, Nat.min_self]
      rw [e, List.drop_length] at hj
      have hj' : f = mulN p one other := hj
      refine sd_ret1 (by wtm_at "ev") ?_
      rw [hj']
      exact hΦ
/-! ### plus, minus, times -/
def spPub (f : Int → List Int → List Int → List Int) : Spec := fun as Φ Ψ => ∃ (one other : List Int) (e : D), as = [.dat (tupI one), .dat (tupI other), .dat e] ∧ one.length ≤ sizeLine ∧ other.length ≤ sizeLine ∧ (isPrimeD e = false → Ψ xBadPrime) ∧
  ∀ p, e = .int p → isPrimeD e = true → ((isSum12 one p && isSum12 other p) = false → Ψ xBadSum) ∧ (isSum12 one p = true → isSum12 other p = true → Φ (.dat (tupI (f p one other))))
theorem sum12 {ns : List Int} {p : Int} (h : isSum12 ns p = true) : ns.length ≤ 12 ∧ Sm p ns := by
  obtain ⟨h1, h2⟩ := Bool.and_eq_true_iff.mp h
  exact ⟨of_decide_eq_true h1, sm_of_isSumB h2⟩
theorem prime_of {e : D} (h : isPrimeD e = true) : ∃ p, e = .int p ∧ p ∈ primesL := by
  cases e with
  | int p => exact ⟨p, rfl, of_decide_eq_true h⟩
  | _ => cases h


theorem body_plus {g : Gm} [Hd g] (as : List En) (Φ : Rs → Prop) (Ψ : Exc → Prop) (h : spPub addN as Φ Ψ) : SD ⟨g, N_plus, defScope s_plus, 4, true, none⟩ Ψ (as ++ List.replicate (N_plus.length - as.length) .un) (defBody s_plus) { nx := fun _ => Φ (.dat .none), rt := Φ } := by
  obtain ⟨one, other, e, rfl, l1, l2, h1, h2⟩ := h
  show SD _ Ψ [.dat (tupI one), .dat (tupI other), .dat e] _ _
  have hl : ∀ ns ∈ [one, other], ns.length ≤ sizeLine := fun ns hn => by
    rcases List.mem_cons.mp hn with rfl | hn
    · exact l1
    · rw [List.mem_singleton.mp hn]
      exact l2
  have hall : ∀ p, [one, other].all (isSum12 · p) = (isSum12 one p && isSum12 other p) := fun p => by
    show (isSum12 one p && (isSum12 other p && true)) = _
    rw [Bool.and_true]
  refine sd_exprg (Φ := fun _ => ∃ p ∈ primesL, e = .int p ∧ isSum12 one p = true ∧ isSum12 other p = true) (ev_call fn_need_sums (Φa := (· = [.dat (.tuple [tupI one, tupI other]), .dat e])) (by wtm_at "eva") (fun as z => ⟨[one, other], e, by rw [z]; rfl, by show 2 ≤ sizeLine; decide, hl, h1, fun p ep hp => ⟨fun z => ?_, fun z => (h2 p ep hp).1 (by rw [← hall]; exact z)⟩⟩)) ?_
  · rw [hall] at z
    obtain ⟨z1, z2⟩ := Bool.and_eq_true_iff.mp z
    obtain ⟨p', e', hp'⟩ := prime_of hp
    rw [ep] at e'
    cases e'
    exact ⟨p, hp', ep, z1, z2⟩
  · rintro _ ⟨p, hp, rfl, s1, s2⟩
    have hpr := primes_range hp
    obtain ⟨n1, m1⟩ := sum12 s1
    obtain ⟨n2, m2⟩ := sum12 s2
    exact sd_ret1 (ev_callD fn_added (by wtm_at "eva") ⟨one, other, p, rfl, by omega, by omega, by omega, hpr.2, m2.1, rfl⟩) ((h2 p rfl (decide_eq_true hp)).2 s1 s2)
theorem fn_plus {g : Gm} [Hd g] : FnD g 5 "plus" P_plus [.int 2] (spPub addN) :=
  fn_kw Hd.D_plus sc_plus 2 (fun z => nomatch z) rfl (fun D doc pm an cdv ct us ks h1 h2 => match us, ks, h1, h2 with | [_, _], [_], _, _ => ⟨_, _, _, _, _, _, rfl, rfl, rfl⟩) (fun _ => .cons (.int 2) .nil) (fun as Φ Ψ ⟨d, e, _, h, _⟩ => by rw [h]; rfl) body_plus
theorem fn_plusK {g : Gm} [Hd g] : FnK g 5 "plus" 2 ["prime"] (· ++ ·) (spPub addN) :=
  fn_kwK Hd.D_plus sc_plus 2 (fun kV doc pm an cdv ct us ws h1 h2 => match us, ws, h1, h2 with | [_, _], [_], _, _ => rfl) (fun as Φ Ψ ⟨d, e, _, h, _⟩ => by rw [h]; rfl) body_plus

theorem fn_plusP {g : Gm} [Hd g] : FnK g 5 "plus" 0 ["prime", "other", "one"] (fun as bs => pick [2, 1, 0] .un (as ++ bs)) (spPub addN) :=
  fn_kwP [2, 1, 0] Hd.D_plus sc_plus 0 (by decide) (fun kV doc pm an cdv ct us ws h1 h2 => match us, ws, h1, h2 with | [], [_, _, _], _, _ => rfl) (fun as Φ Ψ ⟨d, e, _, h, _⟩ => by rw [h]; rfl) body_plus


theorem body_minus {g : Gm} [Hd g] (as : List En) (Φ : Rs → Prop) (Ψ : Exc → Prop) (h : spPub lesN as Φ Ψ) : SD ⟨g, N_minus, defScope s_minus, 4, true, none⟩ Ψ (as ++ List.replicate (N_minus.length - as.length) .un) (defBody s_minus) { nx := fun _ => Φ (.dat .none), rt := Φ } := by
  obtain ⟨one, other, e, rfl, l1, l2, h1, h2⟩ := h
  show SD _ Ψ [.dat (tupI one), .dat (tupI other), .dat e] _ _
  have hl : ∀ ns ∈ [one, other], ns.length ≤ sizeLine := fun ns hn => by
    rcases List.mem_cons.mp hn with rfl | hn
    · exact l1
    · rw [List.mem_singleton.mp hn]
      exact l2
  have hall : ∀ p, [one, other].all (isSum12 · p) = (isSum12 one p && isSum12 other p) := fun p => by
    show (isSum12 one p && (isSum12 other p && true)) = _
    rw [Bool.and_true]
  refine sd_exprg (Φ := fun _ => ∃ p ∈ primesL, e = .int p ∧ isSum12 one p = true ∧ isSum12 other p = true) (ev_call fn_need_sums (Φa := (· = [.dat (.tuple [tupI one, tupI other]), .dat e])) (by wtm_at "eva") (fun as z => ⟨[one, other], e, by rw [z]; rfl, by show 2 ≤ sizeLine; decide, hl, h1, fun p ep hp => ⟨fun z => ?_, fun z => (h2 p ep hp).1 (by rw [← hall]; exact z)⟩⟩)) ?_
  · rw [hall] at z
    obtain ⟨z1, z2⟩ := Bool.and_eq_true_iff.mp z
    obtain ⟨p', e', hp'⟩ := prime_of hp
    rw [ep] at e'
    cases e'
    exact ⟨p, hp', ep, z1, z2⟩
  · rintro _ ⟨p, hp, rfl, s1, s2⟩
    have hpr := primes_range hp
    obtain ⟨n1, m1⟩ := sum12 s1
    obtain ⟨n2, m2⟩ := sum12 s2
    exact sd_ret1 (ev_callD fn_lessened (by wtm_at "eva") ⟨one, other, p, rfl, by omega, by omega, by omega, hpr.2, m2.1, rfl⟩) ((h2 p rfl (decide_eq_true hp)).2 s1 s2)
theorem fn_minus {g : Gm} [Hd g] : FnD g 5 "minus" P_minus [.int 2] (spPub lesN) :=
  fn_kw Hd.D_minus sc_minus 2 (fun z => nomatch z) rfl (fun D doc pm an cdv ct us ks h1 h2 => match us, ks, h1, h2 with | [_, _], [_], _, _ => ⟨_, _, _, _, _, _, rfl, rfl, rfl⟩) (fun _ => .cons (.int 2) .nil) (fun as Φ Ψ ⟨d, e, _, h, _⟩ => by rw [h]; rfl) body_minus
theorem fn_minusK {g : Gm} [Hd g] : FnK g 5 "minus" 2 ["prime"] (· ++ ·) (spPub lesN) :=
  fn_kwK Hd.D_minus sc_minus 2 (fun kV doc pm an cdv ct us ws h1 h2 => match us, ws, h1, h2 with | [_, _], [_], _, _ => rfl) (fun as Φ Ψ ⟨d, e, _, h, _⟩ => by rw [h]; rfl) body_minus

theorem fn_minusP {g : Gm} [Hd g] : FnK g 5 "minus" 0 ["other", "prime", "one"] (fun as bs => pick [2, 0, 1] .un (as ++ bs)) (spPub lesN) :=
  fn_kwP [2, 0, 1] Hd.D_minus sc_minus 0 (by decide) (fun kV doc pm an cdv ct us ws h1 h2 => match us, ws, h1, h2 with | [], [_, _, _], _, _ => rfl) (fun as Φ Ψ ⟨d, e, _, h, _⟩ => by rw [h]; rfl) body_minus


theorem body_times {g : Gm} [Hd g] (as : List En) (Φ : Rs → Prop) (Ψ : Exc → Prop) (h : spPub mulN as Φ Ψ) : SD ⟨g, N_times, defScope s_times, 4, true, none⟩ Ψ (as ++ List.replicate (N_times.length - as.length) .un) (defBody s_times) { nx := fun _ => Φ (.dat .none), rt := Φ } := by
  obtain ⟨one, other, e, rfl, l1, l2, h1, h2⟩ := h
  show SD _ Ψ [.dat (tupI one), .dat (tupI other), .dat e] _ _
  have hl : ∀ ns ∈ [one, other], ns.length ≤ sizeLine := fun ns hn => by
    rcases List.mem_cons.mp hn with rfl | hn
    · exact l1
    · rw [List.mem_singleton.mp hn]
      exact l2
  have hall : ∀ p, [one, other].all (isSum12 · p) = (isSum12 one p && isSum12 other p) := fun p => by
    show (isSum12 one p && (isSum12 other p && true)) = _
    rw [Bool.and_true]
  refine sd_exprg (Φ := fun _ => ∃ p ∈ primesL, e = .int p ∧ isSum12 one p = true ∧ isSum12 other p = true) (ev_call fn_need_sums (Φa := (· = [.dat (.tuple [tupI one, tupI other]), .dat e])) (by wtm_at "eva") (fun as z => ⟨[one, other], e, by rw [z]; rfl, by show 2 ≤ sizeLine; decide, hl, h1, fun p ep hp => ⟨fun z => ?_, fun z => (h2 p ep hp).1 (by rw [← hall]; exact z)⟩⟩)) ?_
  · rw [hall] at z
    obtain ⟨z1, z2⟩ := Bool.and_eq_true_iff.mp z
    obtain ⟨p', e', hp'⟩ := prime_of hp
    rw [ep] at e'
    cases e'
    exact ⟨p, hp', ep, z1, z2⟩
  · rintro _ ⟨p, hp, rfl, s1, s2⟩
    have hpr := primes_range hp
    obtain ⟨n1, m1⟩ := sum12 s1
    obtain ⟨n2, m2⟩ := sum12 s2
    exact sd_ret1 (ev_callD fn_multiplied (by wtm_at "eva") ⟨one, other, p, rfl, by omega, by omega, by omega, hpr.2, m2.1, rfl⟩) ((h2 p rfl (decide_eq_true hp)).2 s1 s2)
theorem fn_times {g : Gm} [Hd g] : FnD g 5 "times" P_times [.int 2] (spPub mulN) :=
  fn_kw Hd.D_times sc_times 2 (fun z => nomatch z) rfl (fun D doc pm an cdv ct us ks h1 h2 => match us, ks, h1, h2 with | [_, _], [_], _, _ => ⟨_, _, _, _, _, _, rfl, rfl, rfl⟩) (fun _ => .cons (.int 2) .nil) (fun as Φ Ψ ⟨d, e, _, h, _⟩ => by rw [h]; rfl) body_times
theorem fn_timesK {g : Gm} [Hd g] : FnK g 5 "times" 2 ["prime"] (· ++ ·) (spPub mulN) :=
  fn_kwK Hd.D_times sc_times 2 (fun kV doc pm an cdv ct us ws h1 h2 => match us, ws, h1, h2 with | [_, _], [_], _, _ => rfl) (fun as Φ Ψ ⟨d, e, _, h, _⟩ => by rw [h]; rfl) body_times

theorem fn_timesP {g : Gm} [Hd g] : FnK g 5 "times" 0 ["prime", "other", "one"] (fun as bs => pick [2, 1, 0] .un (as ++ bs)) (spPub mulN) :=
  fn_kwP [2, 1, 0] Hd.D_times sc_times 0 (by decide) (fun kV doc pm an cdv ct us ws h1 h2 => match us, ws, h1, h2 with | [], [_, _, _], _, _ => rfl) (fun as Φ Ψ ⟨d, e, _, h, _⟩ => by rw [h]; rfl) body_times

/-! ### the law's own sums -/
theorem cut_count (ns : List Int) : ((List.range ns.length).filter fun k => (ns.drop k).any fun z => !decide (z = 0)).length = (cutN ns).length := by
  induction ns using snoc_ind with
  | h0 => rfl
  | h1 xs x ih =>
    by_cases hx : x = 0
    · subst hx
      rw [cutN_zero, ← ih, List.length_append, List.length_singleton, List.range_succ, List.filter_append]
      have e1 : ([xs.length].filter fun k => ((xs ++ [0]).drop k).any fun z => !decide (z = 0)) = [] := by
        rw [List.filter_cons, List.drop_append_of_le_length (Nat.le_refl _), List.drop_length]
        rfl
      rw [e1, List.append_nil]
      congr 1
      refine List.filter_congr fun k hk => ?_
      rw [List.drop_append_of_le_length (by have := List.mem_range.mp hk; omega), List.any_append]
      simp
    · rw [cutN_last hx]
      have : ((List.range (xs ++ [x]).length).filter fun k => ((xs ++ [x]).drop k).any fun z => !decide (z = 0)) = List.range (xs ++ [x]).length := by
        refine List.filter_eq_self.mpr fun k hk => ?_
        have hk' := List.mem_range.mp hk
        rw [List.length_append, List.length_singleton] at hk'
        rw [List.drop_append_of_le_length (by omega), List.any_append]
        simp [hx]
      rw [this, List.length_range]
theorem take_cut (ns : List Int) : ns.take (cutN ns).length = cutN ns := by
  obtain ⟨n, h1, h2⟩ := cutN_prefix ns
  rw [h2, List.length_take, Nat.min_eq_left h1]
def sp_lcut : Spec := fun as Φ _ => ∃ ns, as = [.dat (lstI ns)] ∧ ns.length < 1000000 ∧ Φ (.dat (tupI (cutN ns)))
def anyFrom (ns : List Int) : D → Bool
  | .int k => (ns.drop k.toNat).any fun z => !decide (z = 0)
  | _ => false
def neZ : D → Bool
  | .int z => !decide (z = 0)
  | _ => false
theorem ne_map (ns : List Int) : (ns.map PyData.int).map (fun d => PyData.bool (neZ d)) = (ns.map fun z => !decide (z = 0)).map PyData.bool := by
  rw [List.map_map, List.map_map]
  rfl
theorem fn_lcut {g : Gm} [Hd g] : FnD g 1 "_law_cut" P__law_cut [] sp_lcut := by
  refine fn_def Hd.D__law_cut sc__law_cut (fun _ _ _ _ _ _ us hl => match us, hl with | [_], _ => rfl) (fun as Φ Ψ h => ?_) fun as Φ Ψ h => ?_
  · obtain ⟨ns, rfl, _⟩ := h
    rfl
  · obtain ⟨ns, rfl, hl, hΦ⟩ := h
    show SD _ Ψ [.dat (lstI ns), .un, .un, .un] _ _
    refine sd_set (ev_lenL (evn_filter (fun d => d) (anyFrom ns) (evi_range1 (by wtm_at "ev") (by rw [List.length_map]; omega) (by rw [List.length_map]; omega) Hd.B_range) (by rw [rangeD_len, List.length_map, show sizeLine = 16777216 from rfl]; omega) [("_law_k", 2)] [2] (by decide) ?_).ev1 Hd.B_len) (by wtm_at "put") ?_
    · intro i d hd
      obtain ⟨hi, rfl⟩ := rangeD_get hd
      rw [Int.zero_add]
      show TGT _ NoX [.dat (lstI ns), .un, .un, .un] _ _ _ _
      refine tgt_put (by wtm_at "put") ⟨?_, fun _ => by wtm_at "ev"⟩
      refine evt_of ((ev_any (bs := (ns.drop i).map fun z => !decide (z = 0)) ((evn_map (fun d => .bool (neZ d)) (evi_list (evn_sl (by wtm_at "ev") (evo_some (by wtm_at "ev")) evo_none).ev1) ?_ [("_law_one_", 3)] [3] (by decide) ?_).ev1.imp ?_) Hd.B_any).imp ?_)
      · rw [cutD_from, List.length_drop, List.length_map, show sizeLine = 16777216 from rfl]
        omega
      · intro j d hd
        show TGT _ NoX [.dat (lstI ns), .un, .dat (.int i), .un] _ _ _ _
        rw [cutD_from, ← List.map_drop] at hd
        obtain ⟨z, _, rfl⟩ := List.mem_map.mp (List.mem_of_getElem? hd)
        refine tgt_put (by wtm_at "put") ?_
        show EV _ _ _ _ (· = .bool (!decide (z = 0)))
        wtm_at "ev"
      · intro d e
        rw [e, cutD_from, ← List.map_drop, ne_map]
      · intro d e
        rw [e, List.any_map]
        rfl
    · refine sd_ret1 (ev_tuple (evn_sl (by wtm_at "ev") evo_none (evo_some (by wtm_at "ev"))).ev1 (.inl rfl) Hd.B_tuple) ?_
      have e : (((rangeD 0 ((ns.map PyData.int).length : Int).toNat).filter (anyFrom ns)).map fun d => d).length = (cutN ns).length := by
        rw [List.map_id', ← cut_count, List.length_map, Int.toNat_natCast]
        unfold rangeD
        rw [List.filter_map, List.length_map]
        congr 2
        funext k
        show anyFrom ns (.int (0 + (k : Int))) = _
        rw [Int.zero_add]
        rfl
      rw [e, cutD_to, ← List.map_take, take_cut]
      exact hΦ

/-- _law_sum: some sum of at most most residues -/
def sp_lsum : Spec := fun as Φ _ => ∃ (p : Int) (most : Nat), as = [.bag, .dat (.int p), .dat (.int most)] ∧ 0 < p ∧ p < 1000 ∧ 0 < most ∧ most ≤ 100 ∧ ∀ ns, Sm p ns → ns.length ≤ most → Φ (.dat (tupI ns))
theorem fn_lsum {g : Gm} [Hd g] : FnD g 3 "_law_sum" P__law_sum [] sp_lsum := by
  refine fn_def Hd.D__law_sum sc__law_sum (fun _ _ _ _ _ _ us hl => match us, hl with | [_, _, _], _ => rfl) (fun as Φ Ψ h => ?_) fun as Φ Ψ h => ?_
  · obtain ⟨p, most, rfl, _⟩ := h
    rfl
  · obtain ⟨p, most, rfl, p0, p1, m0, m1, hΦ⟩ := h
    show SD _ Ψ [.bag, .dat (.int p), .dat (.int most), .un, .un] _ _
    have tr : ∀ z : Int, 0 ≤ z → z ≤ 1000 → I (fun z => 0 ≤ z ∧ z ≤ 1000) (.int z) := fun z h1 h2 => ⟨z, rfl, h1, h2⟩
    refine sd_setg (Φ := I fun z => 0 ≤ z ∧ z ≤ 1000) (ev_of fn_of_ (by wtm_at "look") (evl_cons (EV.toI (by wtm_at "ev") (by decide)) (evl_cons (EV.toI (by wtm_at "ev") (by decide)) (evl_cons (EV.toI (by wtm_at "ev") (by decide)) (evl_cons (EV.toI (by wtm_at "ev") (by decide)) (evl_cons (EV.toI (by wtm_at "ev") (by decide)) (evl_cons (EV.toI (by wtm_at "ev") (by decide))
      (evl_cons (ev_addI (P := (· = 1)) (Q := fun z => 0 ≤ z ∧ z < 100) (EV.toI (by wtm_at "ev") rfl) (ev_pullI fn_pull (by wtm_at "look") (by wtm_at "ev") (by omega) (by omega) fun r r0 r1 => ⟨r, rfl, r0, by omega⟩) (fun i j h1 h2 => by omega)) evl_nil)))))))) (fun d => by wtm_at "put") ?_
    rintro _ ⟨many, rfl, k0, k1⟩
    refine sd_ret (Φ := fun d => ∃ ns, Sm p ns ∧ ns.length ≤ most ∧ d = tupI ns) (ev_call fn_lcut (eva_cons (evn_lc (fun i acc => ∃ ns : List Int, acc = ns.map .int ∧ ns.length = i ∧ ∀ z ∈ ns, 0 ≤ z ∧ z < p) (evi_range1 (ev_min2 (by wtm_at "ev") (by wtm_at "ev") Hd.B_min) (by omega) (by omega) Hd.B_range) (fun ds e => ?_) [("_law_k", 4)] [4] (by decide) ⟨[], rfl, rfl, fun _ z => nomatch z⟩ ?_).ev eva_nil) ?_) fun d ⟨ns, h1, h2, e⟩ => by rw [e]; exact hΦ ns h1 h2
    · rw [e, rangeD_len, show sizeLine = 16777216 from rfl]
      omega
    · rintro ds i d acc rfl hd ⟨ns, rfl, hl, hr⟩
      show TGT _ NoX [.bag, .dat (.int p), .dat (.int most), .dat (.int many), .un] _ _ _ _
      refine tgt_put (by wtm_at "put") ⟨_, evts_nil, (fun z => nomatch z), fun _ => ?_⟩
      refine ev_pullI fn_pull (by wtm_at "look") (by wtm_at "ev") p0 (by omega) fun r r0 r1 => ⟨ns ++ [r], by rw [List.map_append]; rfl, by rw [List.length_append, hl]; rfl, fun z hz => ?_⟩
      rcases List.mem_append.mp hz with hz | hz
      · exact hr z hz
      · rw [List.mem_singleton.mp hz]
        exact ⟨r0, r1⟩
    · rintro _ ⟨_, _, rfl, ⟨ds', rfl, ds, rfl, ns, rfl, hl, hr⟩, rfl⟩
      rw [rangeD_len] at hl
      exact ⟨ns, rfl, by omega, _, cut_sm hr, Nat.le_trans (cutN_len ns) (by omega), rfl⟩

/-! ### scaled, plus, minus, times -/
def sclN (p number : Int) (one : List Int) : List Int := cutN (one.map fun z => z * number % p)
def sp_lscaled : Spec := fun as Φ _ => ∃ (one : List Int) (number p : Int), as = [.dat (tupI one), .dat (.int number), .dat (.int p)] ∧ one.length ≤ 1000 ∧ 0 < p ∧ p < 1000 ∧ -1000 < number ∧ number < 1000 ∧ Φ (.dat (tupI (sclN p number one)))
def sclD (p number : Int) : D → D
  | .int z => .int (z * number % p)
  | _ => .none
theorem fn_lscaled {g : Gm} [Hd g] : FnD g 2 "_law_scaled" P__law_scaled [] sp_lscaled := by
  refine fn_def Hd.D__law_scaled sc__law_scaled (fun _ _ _ _ _ _ us hl => match us, hl with | [_, _, _], _ => rfl) (fun as Φ Ψ h => ?_) fun as Φ Ψ h => ?_
  · obtain ⟨one, number, p, rfl, _⟩ := h
    rfl
  · obtain ⟨one, number, p, rfl, l1, p0, p1, n0, n1, hΦ⟩ := h
    show SD _ Ψ [.dat (tupI one), .dat (.int number), .dat (.int p), .un] _ _
    refine sd_ret1 (ev_callD fn_lcut (eva_cons1 (d := lstI (one.map fun z => z * number % p)) ((evn_map (sclD p number) (evi_tup (by wtm_at "ev")) (by rw [List.length_map, show sizeLine = 16777216 from rfl]; omega) [("_law_part", 3)] [3] (by decide) ?_).ev1.imp ?_) eva_nil) ⟨_, rfl, by rw [List.length_map]; omega, rfl⟩) hΦ
    · intro i d hd
      show TGT _ NoX [.dat (tupI one), .dat (.int number), .dat (.int p), .un] _ _ _ _
      obtain ⟨z, _, rfl⟩ := List.mem_map.mp (List.mem_of_getElem? hd)
      refine tgt_put (by wtm_at "put") ?_
      have hc : CMul z number := .inr ⟨by omega, by omega⟩
      show EV _ _ _ _ (· = .int (z * number % p))
      exact ev_mod (ev_mul (by wtm_at "ev") (by wtm_at "ev") hc) (by wtm_at "ev") p0
    · intro d e
      rw [e, List.map_map]
      show PyData.list _ = .list ((one.map _).map _)
      rw [List.map_map]
      rfl
def plsN (p : Int) (one other : List Int) : List Int := cutN ((List.range (max one.length other.length)).map fun k => (co one k + co other k) % p)
theorem rep_zeroT (n : Nat) : (List.replicate n [PyData.int 0]).flatten = (List.replicate n (0 : Int)).map PyData.int := by
  induction n with
  | zero => rfl
  | succ n ih =>
    rw [List.replicate_succ, List.flatten_cons, ih]
    rfl
theorem item_pad (one : List Int) (n k : Nat) (hk : k < n) : itemD (k : Int) (.tuple (one.map PyData.int ++ (List.replicate (n : Int).toNat [PyData.int 0]).flatten)) = some (.int (co one k)) := by
  show atI _ _ = _
  rw [rep_zeroT, ← List.map_append, Int.toNat_natCast]
  refine atI_nat ?_
  rw [List.getElem?_map, List.getElem?_append]
  unfold co
  rw [List.getD_eq_getElem?_getD]
  split
  · rename_i h
    rw [List.getElem?_eq_getElem h]
    rfl
  · rename_i h
    rw [List.getElem?_eq_none (l := one) (by omega), List.getElem?_replicate, if_pos (by omega)]
    rfl
def plD (one other : List Int) : D → D
  | .int k => .int (co one k.toNat + co other k.toNat)
  | _ => .none
def modD (p : Int) : D → D
  | .int k => .int (k % p)
  | _ => .none
theorem fn_lplus {g : Gm} [Hd g] : FnD g 2 "_law_plus" P__law_plus [] (spBin plsN) := by
  refine fn_def Hd.D__law_plus sc__law_plus (fun _ _ _ _ _ _ us hl => match us, hl with | [_, _, _], _ => rfl) (fun as Φ Ψ h => ?_) fun as Φ Ψ h => ?_
  · obtain ⟨one, other, p, rfl, _⟩ := h
    rfl
  · obtain ⟨one, other, p, rfl, l1, l2, p0, p1, hz, hΦ⟩ := h
    show SD _ Ψ [.dat (tupI one), .dat (tupI other), .dat (.int p), .un, .un, .un, .un] _ _
    refine sd_set (d := .int (max one.length other.length : Nat)) ((ev_max2 (by wtm_at "ev") (by wtm_at "ev") Hd.B_max).imp fun d e => ?_) (by wtm_at "put") ?_
    · rw [e, List.length_map, List.length_map]
      congr 1
      omega
    have hml : max one.length other.length ≤ 1000 := by omega
    generalize hL : max one.length other.length = L at hml
    refine sd_lc 4 (fun i acc => acc = ((List.range i).map fun k => co one k + co other k).map .int) (evi_range1 (i := (L : Int)) (by wtm_at "ev") (by omega) (by omega) Hd.B_range) (fun ds e => ?_) [("_law_k", 5)] [5] (by decide) rfl ?_ ?_
    · rw [e, rangeD_len, show sizeLine = 16777216 from rfl]
      omega
    · rintro ds i d acc rfl hd rfl
      obtain ⟨hi, rfl⟩ := rangeD_get hd
      have hiL : i < L := by omega
      show TGT _ NoX [.dat (tupI one), .dat (tupI other), .dat (.int p), .dat (.int L), .un, .un, .un] _ _ _ _
      rw [Int.zero_add]
      refine tgt_put (by wtm_at "put") ⟨_, evts_nil, (fun z => nomatch z), fun _ => ?_⟩
      refine (ev_add (ev_ix (ev_catT (by wtm_at "ev") (ev_repT (by wtm_at "ev") (by wtm_at "ev") (by decide) (by decide) (by omega) (by omega)) ?_) (by wtm_at "ev") (item_pad one L i hiL)) (ev_ix (ev_catT (by wtm_at "ev") (ev_repT (by wtm_at "ev") (by wtm_at "ev") (by decide) (by decide) (by omega) (by omega)) ?_) (by wtm_at "ev") (item_pad other L i hiL))).imp fun y e => ?_
      · rw [rep_zeroT, List.length_map, List.length_map, List.length_replicate, show sizeLine = 16777216 from rfl]
        omega
      · rw [rep_zeroT, List.length_map, List.length_map, List.length_replicate, show sizeLine = 16777216 from rfl]
        omega
      · rw [e, List.range_succ, List.map_append, List.map_append]
        rfl
    · rintro ds ds' rfl rfl
      rw [rangeD_len, Int.toNat_natCast]
      show SD _ Ψ [.dat (tupI one), .dat (tupI other), .dat (.int p), .dat (.int L), .own (((List.range L).map fun k => co one k + co other k).map .int), .un, .un] _ _
      refine sd_frz (x := "_law_numbers") (by wtm_at "put") (by wtm_at "look") ?_
      refine sd_ret1 (ev_callD fn_lcut (eva_cons1 (d := lstI ((List.range L).map fun k => (co one k + co other k) % p)) ((evn_map (modD p) (evi_list (by wtm_at "ev")) (by rw [List.length_map, List.length_map, List.length_range, show sizeLine = 16777216 from rfl]; omega) [("_law_number", 6)] [6] (by decide) ?_).ev1.imp ?_) eva_nil) ⟨_, rfl, by rw [List.length_map, List.length_range]; omega, rfl⟩) ?_
      · intro i d hd
        show TGT _ NoX [.dat (tupI one), .dat (tupI other), .dat (.int p), .dat (.int L), .dat (.list (((List.range L).map fun k => co one k + co other k).map .int)), .un, .un] _ _ _ _
        obtain ⟨z, _, rfl⟩ := List.mem_map.mp (List.mem_of_getElem? hd)
        refine tgt_put (by wtm_at "put") ?_
        show EV _ _ _ _ (· = .int (z % p))
        wtm_at "ev"
      · intro d e
        rw [e, List.map_map, List.map_map]
        show PyData.list _ = .list ((List.map _ _).map _)
        rw [List.map_map]
        rfl
      · subst hL
        exact hΦ

def minN (p : Int) (one other : List Int) : List Int := plsN p one (sclN p (p - 1) other)
theorem scl_sm {p number : Int} (hp : 0 < p) (one : List Int) : Sm p (sclN p number one) := cut_sm fun z hz => by
  obtain ⟨y, _, rfl⟩ := List.mem_map.mp hz
  exact ⟨Int.emod_nonneg _ (by omega), Int.emod_lt_of_pos _ hp⟩
theorem scl_len (p number : Int) (one : List Int) : (sclN p number one).length ≤ one.length := by
  have := cutN_len (one.map fun z => z * number % p)
  rw [List.length_map] at this
  exact this
theorem fn_lminus {g : Gm} [Hd g] : FnD g 3 "_law_minus" P__law_minus [] (spBin minN) := by
  refine fn_def Hd.D__law_minus sc__law_minus (fun _ _ _ _ _ _ us hl => match us, hl with | [_, _, _], _ => rfl) (fun as Φ Ψ h => ?_) fun as Φ Ψ h => ?_
  · obtain ⟨one, other, p, rfl, _⟩ := h
    rfl
  · obtain ⟨one, other, p, rfl, l1, l2, p0, p1, hz, hΦ⟩ := h
    show SD _ Ψ [.dat (tupI one), .dat (tupI other), .dat (.int p)] _ _
    exact sd_ret1 (ev_callD fn_lplus (eva_cons1 (by wtm_at "ev") (eva_cons1 (ev_callD fn_lscaled (by wtm_at "eva") ⟨other, p - 1, p, rfl, l2, p0, p1, by omega, by omega, rfl⟩) (by wtm_at "eva"))) ⟨one, _, p, rfl, l1, Nat.le_trans (scl_len _ _ _) l2, p0, p1, (scl_sm p0 other).1, rfl⟩) hΦ

def tmsL (p : Int) (other : List Int) : List Int → Nat → List Int → List Int
  | [], _, f => f
  | q :: qs, at_, f => tmsL p other qs (at_ + 1) (joinL p q f other at_)
def tmsN (p : Int) (one other : List Int) : List Int := cutN (tmsL p other one 0 (List.replicate (one.length + other.length) 0))
def sp_ltimes : Spec := fun as Φ _ => ∃ (one other : List Int) (p : Int), as = [.dat (tupI one), .dat (tupI other), .dat (.int p)] ∧ one.length ≤ 400 ∧ other.length ≤ 400 ∧ 0 < p ∧ p < 1000 ∧ (∀ z ∈ other, 0 ≤ z ∧ z < p) ∧ Φ (.dat (tupI (tmsN p one other)))
theorem fn_ltimes {g : Gm} [Hd g] : FnD g 2 "_law_times" P__law_times [] sp_ltimes := by
  refine fn_def Hd.D__law_times sc__law_times (fun _ _ _ _ _ _ us hl => match us, hl with | [_, _, _], _ => rfl) (fun as Φ Ψ h => ?_) fun as Φ Ψ h => ?_
  · obtain ⟨one, other, p, rfl, _⟩ := h
    rfl
  · obtain ⟨one, other, p, rfl, l1, l2, p0, p1, hz, hΦ⟩ := h
    show SD _ Ψ [.dat (tupI one), .dat (tupI other), .dat (.int p), .un, .un, .un] _ _
    refine sd_setn (ds := (List.replicate (one.length + other.length) (0 : Int)).map .int) ((evn_rep (by wtm_at "evn") (by wtm_at "ev") ?_ ?_ ?_).imp fun ds e => ?_) (by wtm_at "put") ?_
    · rw [List.length_map, List.length_map]
      omega
    · rw [List.length_map, List.length_map]
      omega
    · rw [List.length_map, List.length_map, show sizeLine = 16777216 from rfl]
      show 1 * _ ≤ _
      omega
    · rw [e, rep_zeroT, List.length_map, List.length_map]
      congr 2
    refine sd_for (fun i ρ => ∃ (f : List Int) (z6 z7 : En), ρ = [.dat (tupI one), .dat (tupI other), .dat (.int p), .own (f.map .int), z6, z7] ∧ f.length = one.length + other.length ∧ tmsL p other (one.drop i) i f = tmsL p other one 0 (List.replicate (one.length + other.length) 0)) (evi_range1 (by wtm_at "ev") (by rw [List.length_map]; omega) (by rw [List.length_map]; omega) Hd.B_range) ?_ ?_ ?_
    · rintro _ rfl
      exact ⟨_, _, _, rfl, by rw [List.length_replicate], rfl⟩
    · rintro _ i d _ rfl hd ⟨f, z6, z7, rfl, hf, hj⟩
      obtain ⟨hi, rfl⟩ := rangeD_get hd
      rw [List.length_map, Int.toNat_natCast] at hi
      rw [Int.zero_add]
      refine ⟨_, tgt_put (by wtm_at "put") ?_⟩
      refine sd_for (fun j ρ => ∃ (h : List Int) (z7 : En), ρ = [.dat (tupI one), .dat (tupI other), .dat (.int p), .own (h.map .int), .dat (.int i), z7] ∧ h.length = one.length + other.length ∧ joinL p one[i] h (other.drop j) (i + j) = joinL p one[i] f other i) (evi_range1 (by wtm_at "ev") (by rw [List.length_map]; omega) (by rw [List.length_map]; omega) Hd.B_range) ?_ ?_ ?_
      · rintro _ rfl
        exact ⟨_, _, rfl, hf, rfl⟩
      · rintro _ j d _ rfl hd ⟨h, z7, rfl, hh, hj2⟩
        obtain ⟨hj1, rfl⟩ := rangeD_get hd
        rw [List.length_map, Int.toNat_natCast] at hj1
        rw [Int.zero_add]
        have hlt : i + j < h.length := by omega
        have hat : atI (h.map PyData.int) ((i : Int) + (j : Int)) = some (.int (co h (i + j))) := by
          rw [show (i : Int) + (j : Int) = ((i + j : Nat) : Int) by omega]
          refine atI_nat ?_
          rw [List.getElem?_map, List.getElem?_eq_getElem hlt]
          unfold co
          rw [List.getD_eq_getElem?_getD, List.getElem?_eq_getElem hlt]
          rfl
        have hix : ixN (h.map PyData.int).length ((i : Int) + (j : Int)) = some (i + j) := by
          rw [show (i : Int) + (j : Int) = ((i + j : Nat) : Int) by omega, List.length_map]
          exact ixN_nat hlt
        have ha : itemD (i : Int) (tupI one) = some (.int one[i]) := by
          refine atI_nat ?_
          rw [List.getElem?_map, List.getElem?_eq_getElem hi]
          rfl
        have hb : itemD (j : Int) (tupI other) = some (.int other[j]) := by
          refine atI_nat ?_
          rw [List.getElem?_map, List.getElem?_eq_getElem hj1]
          rfl
        have hq := hz other[j] (List.getElem_mem hj1)
        have hcm : CMul one[i] other[j] := .inr ⟨by omega, by omega⟩
        refine ⟨_, tgt_put (by wtm_at "put") ?_⟩
        refine sd_subO (ev_mod (ev_add (ev_ixO (by wtm_at "look") (by wtm_at "ev") hat) (ev_mul (ev_ix (by wtm_at "ev") (by wtm_at "ev") ha) (ev_ix (by wtm_at "ev") (by wtm_at "ev") hb) hcm)) (by wtm_at "ev") p0) (by wtm_at "ev") (by wtm_at "look") hix (by wtm_at "put") (sd_nil ?_)
        refine ⟨h.set (i + j) ((co h (i + j) + one[i] * other[j]) % p), _, by rw [map_set_int], by rw [List.length_set]; exact hh, ?_⟩
        rw [← hj2, List.drop_eq_getElem_cons hj1, joinL, Nat.add_assoc]
      · rintro _ _ rfl ⟨h, z7, rfl, hh, hj2⟩
        rw [rangeD_len, List.length_map, Int.toNat_natCast, List.drop_length] at hj2
        have hj3 : h = joinL p one[i] f other i := hj2
        refine sd_nil ⟨h, _, _, rfl, hh, ?_⟩
        rw [← hj, List.drop_eq_getElem_cons hi, tmsL, hj3]
    · rintro _ _ rfl ⟨f, z6, z7, rfl, hf, hj⟩
      rw [rangeD_len, List.length_map, Int.toNat_natCast, List.drop_length] at hj
      have hj' : f = tmsL p other one 0 (List.replicate (one.length + other.length) 0) := hj
      refine sd_frz (x := "_law_numbers") (by wtm_at "put") (by wtm_at "look") ?_
      refine sd_ret1 (ev_callD fn_lcut (by wtm_at "eva") ⟨f, rfl, by omega, rfl⟩) ?_
      rw [hj']
      exact hΦ

/-! ### the law's own answers are the program's -/
theorem pls_co {p : Int} (one other : List Int) (i : Nat) : co (plsN p one other) i = (co one i + co other i) % p := by
  unfold plsN
  rw [co_cut]
  unfold co
  by_cases h : i < max one.length other.length
  · rw [List.getD_eq_getElem?_getD (l := List.map _ _), List.getElem?_map, List.getElem?_range h]
    rfl
  · rw [List.getD_eq_getElem?_getD (l := List.map _ _), List.getElem?_eq_none (by rw [List.length_map, List.length_range]; omega), List.getD_eq_getElem?_getD, List.getD_eq_getElem?_getD, List.getElem?_eq_none (by omega), List.getElem?_eq_none (by omega)]
    show (0 : Int) = (0 + 0) % p
    simp
theorem scl_co {p n : Int} (one : List Int) (i : Nat) : co (sclN p n one) i = co one i * n % p := by
  unfold sclN
  rw [co_cut]
  unfold co
  rw [List.getD_eq_getElem?_getD, List.getElem?_map, List.getD_eq_getElem?_getD]
  cases one[i]? with
  | none =>
    show (0 : Int) = 0 * n % p
    simp
  | some z => rfl
theorem add_same {p : Int} (hp : 0 < p) {one other : List Int} (h1 : ∀ z ∈ one, 0 ≤ z ∧ z < p) : addN p one other = plsN p one other := by
  refine canon_ext (cutN_or _) (cutN_or _) fun i => ?_
  show co (joinedN p 1 one other 0) i = co (plsN p one other) i
  rw [joined_co p 1 hp one other 0 h1, if_pos (Nat.zero_le _), Int.one_mul, Nat.sub_zero, pls_co]
theorem les_same {p : Int} (hp : 0 < p) {one other : List Int} (h1 : ∀ z ∈ one, 0 ≤ z ∧ z < p) : lesN p one other = minN p one other := by
  refine canon_ext (cutN_or _) (cutN_or _) fun i => ?_
  show co (joinedN p (p - 1) one other 0) i = co (plsN p one (sclN p (p - 1) other)) i
  rw [joined_co p (p - 1) hp one other 0 h1, if_pos (Nat.zero_le _), Nat.sub_zero, pls_co, scl_co, Int.mul_comm (p - 1)]
  simp


abbrev Can (xs : List Int) : Prop := xs = [] ∨ ∃ us z, z ≠ 0 ∧ xs = us ++ [z]
theorem mul_can (p : Int) (other : List Int) : ∀ (qs : List Int) (at_ : Nat) (f : List Int), Can f → Can (mulL p other qs at_ f)
  | [], _, _, h => h
  | q :: qs, at_, f, h => by
    rw [mulL]
    refine mul_can p other qs _ _ ?_
    split
    · exact h
    · exact cutN_or _
theorem mul_tms {p : Int} (hp : 0 < p) (other : List Int) : ∀ (qs : List Int) (at_ : Nat) (f h : List Int), (∀ i, co f i = co h i) → (∀ z ∈ f, 0 ≤ z ∧ z < p) → at_ + qs.length + other.length ≤ h.length → ∀ i, co (mulL p other qs at_ f) i = co (tmsL p other qs at_ h) i
  | [], _, _, _, e, _, _ => e
  | q :: qs, at_, f, h, e, hr, hl => by
    rw [mulL, tmsL]
    have hl' : at_ + (qs.length + 1) + other.length ≤ h.length := hl
    refine mul_tms hp other qs (at_ + 1) _ _ (fun i => ?_) ?_ (by rw [joinL_len]; omega)
    · rw [joinL_co p q other h at_ (by omega)]
      have hc := Sm.co hp hr i
      have e0 := e i
      split
      · rename_i q0
        rw [q0, Int.zero_mul, Int.add_zero, ← e0]
        split
        · rw [Int.emod_eq_of_lt hc.1 hc.2]
        · rfl
      · rw [joined_co p q hp f other at_ hr, ← e0]
        by_cases h1 : at_ ≤ i
        · rw [if_pos h1]
          by_cases h2 : i < at_ + other.length
          · rw [if_pos ⟨h1, h2⟩]
          · rw [if_neg (fun z => h2 z.2), co_beyond (xs := other) (by omega), Int.mul_zero, Int.add_zero, Int.emod_eq_of_lt hc.1 hc.2]
        · rw [if_neg h1, if_neg (fun z => h1 z.1)]
    · split
      · exact hr
      · exact (joined_sm hp hr).1
theorem co_zeros (n i : Nat) : co (List.replicate n 0) i = 0 := by
  unfold co
  rw [List.getD_eq_getElem?_getD, List.getElem?_replicate]
  split <;> rfl
theorem mul_same {p : Int} (hp : 0 < p) (one other : List Int) : mulN p one other = tmsN p one other := by
  refine canon_ext (mul_can p other one 0 [] (.inl rfl)) (cutN_or _) fun i => ?_
  show co (mulL p other one 0 []) i = co (cutN _) i
  rw [co_cut]
  refine mul_tms hp other one 0 [] _ (fun i => ?_) (fun _ z => nomatch z) (by rw [List.length_replicate]; omega) i
  rw [co_zeros]
  rfl
theorem mul_sm {p : Int} (hp : 0 < p) (other : List Int) : ∀ (qs : List Int) (at_ : Nat) (f : List Int), Sm p f → Sm p (mulL p other qs at_ f)
  | [], _, _, h => h
  | q :: qs, at_, f, h => by
    rw [mulL]
    refine mul_sm hp other qs _ _ ?_
    split
    · exact h
    · exact joined_sm hp h.1

/-! ### the law -/
theorem sameOk_int (n : Nat) (z : Int) : sameOk (n + 1) (.int z) = true := rfl
theorem sameOk_tupI (n : Nat) {ns : List Int} (h : ns.length ≤ sizeLine) : sameOk (n + 2) (tupI ns) = true := by
  refine Bool.and_eq_true_iff.mpr ⟨decide_eq_true (by rw [List.length_map]; exact h), List.all_eq_true.mpr fun d hd => ?_⟩
  obtain ⟨z, _, rfl⟩ := List.mem_map.mp hd
  rfl
theorem sameOk_list3 {a b c : D} (h1 : sameOk 2 a = true) (h2 : sameOk 2 b = true) (h3 : sameOk 2 c = true) : sameOk 3 (.list [a, b, c]) = true := by
  refine Bool.and_eq_true_iff.mpr ⟨decide_eq_true (by show 3 ≤ sizeLine; decide), ?_⟩
  show (sameOk 2 a && (sameOk 2 b && (sameOk 2 c && true))) = true
  rw [h1, h2, h3]
  rfl
theorem pls_len {p : Int} {a b : List Int} (h1 : a.length ≤ 1000) (h2 : b.length ≤ 1000) : (plsN p a b).length ≤ sizeLine := by
  refine Nat.le_trans (cutN_len _) ?_
  rw [List.length_map, List.length_range, show sizeLine = 16777216 from rfl]
  omega
theorem tmsL_len (p : Int) (other : List Int) : ∀ (qs : List Int) (at_ : Nat) (f : List Int), (tmsL p other qs at_ f).length = f.length
  | [], _, _ => rfl
  | q :: qs, at_, f => by rw [tmsL, tmsL_len p other qs, joinL_len]
theorem tms_len {p : Int} {a b : List Int} (h1 : a.length ≤ 1000) (h2 : b.length ≤ 1000) : (tmsN p a b).length ≤ sizeLine := by
  refine Nat.le_trans (cutN_len _) ?_
  rw [tmsL_len, List.length_replicate, show sizeLine = 16777216 from rfl]
  omega
theorem sum12_of {p : Int} {ns : List Int} (h : Sm p ns) (hl : ns.length ≤ 12) : isSum12 ns p = true := by
  unfold isSum12
  rw [decide_eq_true hl, isSumB_of h]
  rfl
theorem pub_ok {f : Int → List Int → List Int → List Int} {p : Int} {a b r : List Int} {Ψ : Exc → Prop} (hp : p ∈ primesL) (ha : Sm p a) (la : a.length ≤ 12) (hb : Sm p b) (lb : b.length ≤ 12) (h : f p a b = r) : spPub f [.dat (tupI a), .dat (tupI b), .dat (.int p)] (fun z => z.data = tupI r) Ψ := by
  refine ⟨a, b, .int p, rfl, Nat.le_trans la (by decide), Nat.le_trans lb (by decide), fun z => ?_, fun p' e _ => ?_⟩
  · rw [show isPrimeD (.int p) = true from decide_eq_true hp] at z
    cases z
  · cases e
    refine ⟨fun z => ?_, fun _ _ => congrArg tupI h⟩
    rw [sum12_of ha la, sum12_of hb lb] at z
    cases z
def lawK : Nat := 8
def lamQ : Str := "law.<locals>.<lambda>"
theorem ok_law {g : Gm} [Hd g] {f c P : Addr} {fd : FuncData} (F : FunD g.K "law" "law" (defArgs s_law) (defBody s_law) (defScope s_law) [] [] f fd) (hT : g.T = [(P, lamQ)]) (hc : fd.code = .ref c) (TB : LamX.TabB g.base g.mg c P) :
    FnOk g.P g.w g.K g.mg g.base (L2.CX g.P g.w) (lawK + 1) f fd ["_law_script"] (spLaw g) := by
  refine law_ok (lam := none) (N := ["_law_again", "_law_p", "_law_a", "_law_b", "_law_due", "_law_named"]) F sc_law (fun _ _ _ e => by cases e) bag_fn (by decide) rfl rfl rfl ?_
  show SD ⟨g, N_law, defScope s_law, lawK, true, none⟩ NoX [.un, .bag, .un, .un, .un, .un, .un, .un] _ _
  refine sd_for (fun i ρ => ∃ (z1 z2 z3 z4 z5 z6 : En), ρ = [.un, .bag, z1, z2, z3, z4, z5, z6]) (evi_range1 (by wtm_at "ev") (by decide) (by decide) Hd.B_range) ?_ ?_ ?_
  · rintro _ rfl
    exact ⟨_, _, _, _, _, _, rfl⟩
  · rintro _ i d _ rfl hd ⟨z1, z2, z3, z4, z5, z6, rfl⟩
    obtain ⟨hi, rfl⟩ := rangeD_get hd
    refine ⟨_, tgt_put (by wtm_at "put") ?_⟩
    refine sd_setg (Φ := fun d => ∃ p ∈ primesL, d = .int p) (ev_call fn_prime (eva_bg (by wtm_at "look") eva_nil) (fun as e => ⟨by rw [e]; rfl, fun p hp => ⟨p, hp, rfl⟩⟩)) (fun d => by wtm_at "put") ?_
    rintro _ ⟨p, hp, rfl⟩
    have hpr := primes_range hp
    have hp0 : 0 < p := by omega
    refine sd_par (R := fun u v => [.un, .bag, .dat (.int (0 + (i : Int))), .dat (.int p), .dat u, .dat v, z5, z6]) (R' := fun u => [.un, .bag, .dat (.int (0 + (i : Int))), .dat (.int p), .dat u, z4, z5, z6]) (eva_cons (Φ1 := fun d => ∃ ns, Sm p ns ∧ ns.length ≤ 12 ∧ d = tupI ns) (ev_call fn_lsum (Φa := (· = [.bag, .dat (.int p), .dat (.int 12)])) (by wtm_at "eva") (fun as e => ⟨p, 12, by rw [e]; rfl, hp0, hpr.2, by decide, by decide, fun ns h1 h2 => ⟨ns, h1, h2, rfl⟩⟩))
      (eva_cons (Φ1 := fun d => ∃ ns, Sm p ns ∧ ns.length ≤ 12 ∧ d = tupI ns) (ev_call fn_lsum (Φa := (· = [.bag, .dat (.int p), .dat (.int 12)])) (by wtm_at "eva") (fun as e => ⟨p, 12, by rw [e]; rfl, hp0, hpr.2, by decide, by decide, fun ns h1 h2 => ⟨ns, h1, h2, rfl⟩⟩)) eva_nil)) ?_ (fun u v => ⟨by wtm_at "put", by wtm_at "put"⟩) (by decide)
    rintro _ ⟨_, _, rfl, ⟨a, ha, la, rfl⟩, _, _, rfl, ⟨b0, hb0, lb0, rfl⟩, rfl⟩
    refine ⟨_, _, rfl, ?_⟩
    have isS : ∀ ns, Sm p ns → ns.length ≤ 12 → (∃ ns', Sm p ns' ∧ ns'.length ≤ 12 ∧ tupI ns = tupI ns') := fun ns h1 h2 => ⟨ns, h1, h2, rfl⟩
    refine sd_setg (Φ := fun d => ∃ ns, Sm p ns ∧ ns.length ≤ 12 ∧ d = tupI ns) (ev_of fn_of_ (by wtm_at "look") (evl_cons (EV.to (by wtm_at "ev") (isS b0 hb0 lb0)) (evl_cons (EV.to (by wtm_at "ev") (isS b0 hb0 lb0)) (evl_cons (EV.to (by wtm_at "ev") (isS b0 hb0 lb0)) (evl_cons (EV.to (by wtm_at "ev") (isS a ha la)) (evl_cons (EV.to (ev_callD fn_lscaled (by wtm_at "eva") ⟨a, p - 1, p, rfl, by omega, hp0, hpr.2, by omega, by omega, rfl⟩) (isS _ (scl_sm hp0 a) (Nat.le_trans (scl_len _ _ _) la))) evl_nil)))))) (fun d => by wtm_at "put") ?_
    rintro _ ⟨b, hb, lb, rfl⟩
    refine sd_setn (evn_lstL (eva_cons1 (ev_callD fn_lplus (by wtm_at "eva") ⟨a, b, p, rfl, by omega, by omega, hp0, hpr.2, hb.1, rfl⟩) (eva_cons1 (ev_callD fn_lminus (by wtm_at "eva") ⟨a, b, p, rfl, by omega, by omega, hp0, hpr.2, hb.1, rfl⟩) (eva_cons1 (ev_callD fn_ltimes (by wtm_at "eva") ⟨a, b, p, rfl, by omega, by omega, hp0, hpr.2, hb.1, rfl⟩) eva_nil))) (by wtm_at "asl") (by rfl)) (by wtm_at "put") ?_
    refine sd_frz (x := "_law_due") (by wtm_at "put") (by wtm_at "look") ?_
    have ok : sameOk 3 (.list [tupI (plsN p a b), tupI (minN p a b), tupI (tmsN p a b)]) = true := sameOk_list3 (sameOk_tupI 0 (pls_len (by omega) (by omega))) (sameOk_tupI 0 (pls_len (by omega) (Nat.le_trans (scl_len _ _ _) (by omega)))) (sameOk_tupI 0 (tms_len (by omega) (by omega)))
    have hA : ∀ {Ψ}, spPub addN [.dat (tupI a), .dat (tupI b), .dat (.int p)] (fun z => z.data = tupI (plsN p a b)) Ψ := pub_ok hp ha la hb lb (add_same hp0 ha.1)
    have hM : ∀ {Ψ}, spPub lesN [.dat (tupI a), .dat (tupI b), .dat (.int p)] (fun z => z.data = tupI (minN p a b)) Ψ := pub_ok hp ha la hb lb (les_same hp0 ha.1)
    have hX : ∀ {Ψ}, spPub mulN [.dat (tupI a), .dat (tupI b), .dat (.int p)] (fun z => z.data = tupI (tmsN p a b)) Ψ := pub_ok hp ha la hb lb (mul_same hp0 a b)
    refine sd_ifF (evt_not (evt_of (ev_callD (fn_same 3) (eva_cons1 (d := .list [tupI (plsN p a b), tupI (minN p a b), tupI (tmsN p a b)]) (evn_lstL (eva_cons1 (ev_callK fn_plusK (by wtm_at "eva") (evk_cons (by wtm_at "ev") evk_nil) hA) (eva_cons1 (ev_callK fn_minusK (by wtm_at "eva") (evk_cons (by wtm_at "ev") evk_nil) hM) (eva_cons1 (ev_callK fn_timesK (by wtm_at "eva") (evk_cons (by wtm_at "ev") evk_nil) hX) eva_nil))) (.cons (.cons (.cons .nil))) (by rfl)).ev1 (by wtm_at "eva")) ⟨_, rfl, ok, rfl⟩))) (by rfl) (sd_nil ?_)
    refine sd_setn (ds := [tupI (plsN p a b), tupI (minN p a b), tupI (tmsN p a b)]) (evn_lstL (eva_cons1 (ev_callK0 fn_plusP (evk_cons (by wtm_at "ev") (evk_cons (by wtm_at "ev") (evk_cons (by wtm_at "ev") evk_nil))) hA) (eva_cons1 (ev_callK0 fn_minusP (evk_cons (by wtm_at "ev") (evk_cons (by wtm_at "ev") (evk_cons (by wtm_at "ev") evk_nil))) hM) (eva_cons1 (ev_callK0 fn_timesP (evk_cons (by wtm_at "ev") (evk_cons (by wtm_at "ev") (evk_cons (by wtm_at "ev") evk_nil))) hX) eva_nil))) (.cons (.cons (.cons .nil))) (by rfl)) (by wtm_at "put") ?_
    refine sd_frz (x := "_law_named") (by wtm_at "put") (by wtm_at "look") ?_
    refine sd_ifF (evt_not (evt_of (ev_callD (fn_same 3) (by wtm_at "eva") ⟨_, rfl, ok, rfl⟩))) (by rfl) (sd_nil ?_)
    refine sd_ifF (k := false) ?_ rfl (sd_nil (sd_nil ⟨_, _, _, _, _, _, rfl⟩))
    by_cases h2 : p = 2
    · subst h2
      exact (EVW.evt (evw_and (evt_eqI (by wtm_at "ev") (by wtm_at "ev")) fun _ => evw_and1 (evt_not (evt_of (ev_callD (fn_same 3) (eva_cons1 (d := .list [tupI (plsN 2 a b), tupI (minN 2 a b), tupI (tmsN 2 a b)]) (evn_lstL (eva_cons1 (ev_call1 fn_plus (by wtm_at "eva") hA) (eva_cons1 (ev_call1 fn_minus (by wtm_at "eva") hM) (eva_cons1 (ev_call1 fn_times (by wtm_at "eva") hX) eva_nil))) (.cons (.cons (.cons .nil))) (by rfl)).ev1 (by wtm_at "eva")) ⟨_, rfl, ok, rfl⟩))))).imp fun k e => by rw [e]; decide
    · exact EVW.evt (evw_andF (evt_eqI (by wtm_at "ev") (by wtm_at "ev")) (decide_eq_false h2))
  · rintro _ _ rfl ⟨z1, z2, z3, z4, z5, z6, rfl⟩
    have hq : ∀ {Ψ}, spPub mulN [.dat (tupI [1, 1]), .dat (tupI [1, 1]), .dat (.int 2)] (fun z => z.data = tupI (tmsN 2 [1, 1] [1, 1])) Ψ := pub_ok (p := 2) (by decide) ⟨by decide, by decide⟩ (by decide) ⟨by decide, by decide⟩ (by decide) (mul_same (by decide) _ _)
    refine sd_ret1 (ev_eqT (ns := tmsN 2 [1, 1] [1, 1]) (ms := [1, 0, 1]) (ev_call1 fn_times (by wtm_at "eva") hq) (ev_tupL (by wtm_at "eva") (.cons (.cons (.cons .nil))) (by rfl))) ?_
    exact congrArg (fun k => Rs.dat (.bool k)) (by decide +kernel)

def d_is_whole : He.DefD := ⟨("is_whole", none), "is_whole", "is_whole", defArgs s_is_whole, defBody s_is_whole, defScope s_is_whole, [], []⟩
def d_is_prime : He.DefD := ⟨("is_prime", none), "is_prime", "is_prime", defArgs s_is_prime, defBody s_is_prime, defScope s_is_prime, [], []⟩
def d_need_prime : He.DefD := ⟨("need_prime", none), "need_prime", "need_prime", defArgs s_need_prime, defBody s_need_prime, defScope s_need_prime, [], []⟩
def d_is_residue : He.DefD := ⟨("is_residue", none), "is_residue", "is_residue", defArgs s_is_residue, defBody s_is_residue, defScope s_is_residue, [], []⟩
def d_is_sum : He.DefD := ⟨("is_sum", none), "is_sum", "is_sum", defArgs s_is_sum, defBody s_is_sum, defScope s_is_sum, [], []⟩
def d_need_sums : He.DefD := ⟨("need_sums", none), "need_sums", "need_sums", defArgs s_need_sums, defBody s_need_sums, defScope s_need_sums, [], []⟩
def d_cut : He.DefD := ⟨("cut", none), "cut", "cut", defArgs s_cut, defBody s_cut, defScope s_cut, [], []⟩
def d_joined : He.DefD := ⟨("joined", none), "joined", "joined", defArgs s_joined, defBody s_joined, defScope s_joined, [], []⟩
def d_added : He.DefD := ⟨("added", none), "added", "added", defArgs s_added, defBody s_added, defScope s_added, [], []⟩
def d_lessened : He.DefD := ⟨("lessened", none), "lessened", "lessened", defArgs s_lessened, defBody s_lessened, defScope s_lessened, [], []⟩
def d_multiplied : He.DefD := ⟨("multiplied", none), "multiplied", "multiplied", defArgs s_multiplied, defBody s_multiplied, defScope s_multiplied, [], []⟩
def d_plus : He.DefD := ⟨("plus", none), "plus", "plus", defArgs s_plus, defBody s_plus, defScope s_plus, [], [("prime", .int 2)]⟩
def d_minus : He.DefD := ⟨("minus", none), "minus", "minus", defArgs s_minus, defBody s_minus, defScope s_minus, [], [("prime", .int 2)]⟩
def d_times : He.DefD := ⟨("times", none), "times", "times", defArgs s_times, defBody s_times, defScope s_times, [], [("prime", .int 2)]⟩
def d__law_bag : He.DefD := ⟨("_law_bag", none), "_law_bag", "_law_bag", defArgs s__law_bag, defBody s__law_bag, defScope s__law_bag, [], []⟩
def d__law_pull : He.DefD := ⟨("_law_pull", none), "_law_pull", "_law_pull", defArgs s__law_pull, defBody s__law_pull, defScope s__law_pull, [], []⟩
def d__law_of : He.DefD := ⟨("_law_of", none), "_law_of", "_law_of", defArgs s__law_of, defBody s__law_of, defScope s__law_of, [], []⟩
def d__law_primes : He.DefD := ⟨("_law_primes", none), "_law_primes", "_law_primes", defArgs s__law_primes, defBody s__law_primes, defScope s__law_primes, [], []⟩
def d__law_prime : He.DefD := ⟨("_law_prime", none), "_law_prime", "_law_prime", defArgs s__law_prime, defBody s__law_prime, defScope s__law_prime, [], []⟩
def d__law_cut : He.DefD := ⟨("_law_cut", none), "_law_cut", "_law_cut", defArgs s__law_cut, defBody s__law_cut, defScope s__law_cut, [], []⟩
def d__law_sum : He.DefD := ⟨("_law_sum", none), "_law_sum", "_law_sum", defArgs s__law_sum, defBody s__law_sum, defScope s__law_sum, [], []⟩
def d__law_scaled : He.DefD := ⟨("_law_scaled", none), "_law_scaled", "_law_scaled", defArgs s__law_scaled, defBody s__law_scaled, defScope s__law_scaled, [], []⟩
def d__law_plus : He.DefD := ⟨("_law_plus", none), "_law_plus", "_law_plus", defArgs s__law_plus, defBody s__law_plus, defScope s__law_plus, [], []⟩
def d__law_minus : He.DefD := ⟨("_law_minus", none), "_law_minus", "_law_minus", defArgs s__law_minus, defBody s__law_minus, defScope s__law_minus, [], []⟩
def d__law_times : He.DefD := ⟨("_law_times", none), "_law_times", "_law_times", defArgs s__law_times, defBody s__law_times, defScope s__law_times, [], []⟩
def d__law_same : He.DefD := ⟨("_law_same", none), "_law_same", "_law_same", defArgs s__law_same, defBody s__law_same, defScope s__law_same, [], []⟩
def d_law : He.DefD := ⟨("law", none), "law", "law", defArgs s_law, defBody s_law, defScope s_law, [], []⟩
abbrev si_BadPrime : Stmt := inClass (top 2) 0
def d_BadPrime__init__ : He.DefD := ⟨("BadPrime", some "__init__"), "__init__", "BadPrime.__init__", defArgs si_BadPrime, defBody si_BadPrime, defScope si_BadPrime, [], []⟩
abbrev si_BadSum : Stmt := inClass (top 3) 0
def d_BadSum__init__ : He.DefD := ⟨("BadSum", some "__init__"), "__init__", "BadSum.__init__", defArgs si_BadSum, defBody si_BadSum, defScope si_BadSum, [], []⟩
def fn : List He.DefD := [d_is_whole, d_is_prime, d_need_prime, d_is_residue, d_is_sum, d_need_sums, d_cut, d_joined, d_added, d_lessened, d_multiplied, d_plus, d_minus, d_times, d__law_bag, d__law_pull, d__law_of, d__law_primes, d__law_prime, d__law_cut, d__law_sum, d__law_scaled, d__law_plus, d__law_minus, d__law_times, d__law_same, d_law, d_BadPrime__init__, d_BadSum__init__]
def fa : List He.Fa := [.glo "is_whole", .glo "is_prime", .glo "need_prime", .glo "is_residue", .glo "is_sum", .glo "need_sums", .glo "cut", .glo "joined", .glo "added", .glo "lessened", .glo "multiplied", .glo "plus", .glo "minus", .glo "times", .glo "_law_bag", .glo "_law_pull", .glo "_law_of", .glo "_law_primes", .glo "_law_prime", .glo "_law_cut", .glo "_law_sum", .glo "_law_scaled", .glo "_law_plus", .glo "_law_minus", .glo "_law_times", .glo "_law_same", .glo "law", .free "ValueError", .free "all", .free "any", .free "bool", .free "enumerate", .free "int", .free "isinstance", .free "len", .free "list", .free "max", .free "min", .free "range", .free "str", .free "tuple", .free "zip", .glo "LagError", .glo "BadPrime", .glo "BadSum", .glo "PRIMES", .int "LEAST" 2, .int "MOST_PLACES" 12]
def exL : List (PySem.W.Frag → Bool) := [fun K => clsB K "BadPrime", fun K => clsB K "BadSum", fun K => He.tupB K "PRIMES" [.int 2, .int 3, .int 5, .int 7, .int 11, .int 13, .int 17, .int 19, .int 23, .int 29, .int 31, .int 37, .int 41, .int 43, .int 47, .int 53, .int 59, .int 61, .int 67, .int 71, .int 73, .int 79, .int 83, .int 89, .int 97]]
def exK (K : PySem.W.Frag) : Bool := exL.all fun f => f K
abbrev R : PySem.W.OpenRow := PySem.W.OpenLaw.row PySem.Challenge.rw_lagworks_k02_sums_added_and_multiplied
def tf : List He.Defn := [("law", none)]
abbrev hk : PySem.W.Hook := He.hookX 6 fa fn [] tf exK
def ob (s : PySem.W.SharedT) : He.AlX := He.obsX 6 fa fn [] tf exK (HandSHeadRun.getT s)
theorem ob_eq (s : PySem.W.SharedT) : ob s = hk.obs s.abs := He.obsX_eq (HandSHeadRun.getT_eq s)
def loose : List Str := ["LagError", "BadPrime", "BadSum", "PRIMES", "LEAST", "is_whole", "is_prime", "need_prime", "is_residue", "MOST_PLACES", "is_sum", "need_sums", "cut", "joined", "added", "lessened", "multiplied", "plus", "minus", "times", "_law_bag", "_law_pull", "_law_of", "_law_primes", "_law_prime", "_law_cut", "_law_sum", "_law_scaled", "_law_plus", "_law_minus", "_law_times", "_law_same"]
theorem run (w : World) : HandSHeadRun.RunEq R (PySem.W.view R.prog [36]) hk ob 8000 loose w := by
  intro os
  kernel_rfl
section
variable {w : World} {K : PySem.W.Frag} {h base : Heap} {mg : Str → Option Value} {T : List (Addr × Str)}
theorem hd_of (P : Program) (X : K.In h) (G : h.Ns mainGlobals mg) (c0 : He.SaysX fa fn [] tf exK w h K) : Hd ⟨P, w, K, mg, base, T⟩ := by
  have c : He.SaysD fa fn K := c0.t.d
  have ex : (exL.all fun f => f K) = true := c0.more
  have cl_BadPrime : Cls K "BadPrime" := clsB_ok (ex_of ex 0 rfl)
  have cl_BadSum : Cls K "BadSum" := clsB_ok (ex_of ex 1 rfl)
  exact {
    D_is_whole := hasDef_of X G c 0 0 rfl rfl rfl
    D_is_prime := hasDef_of X G c 1 1 rfl rfl rfl
    D_need_prime := hasDef_of X G c 2 2 rfl rfl rfl
    D_is_residue := hasDef_of X G c 3 3 rfl rfl rfl
    D_is_sum := hasDef_of X G c 4 4 rfl rfl rfl
    D_need_sums := hasDef_of X G c 5 5 rfl rfl rfl
    D_cut := hasDef_of X G c 6 6 rfl rfl rfl
    D_joined := hasDef_of X G c 7 7 rfl rfl rfl
    D_added := hasDef_of X G c 8 8 rfl rfl rfl
    D_lessened := hasDef_of X G c 9 9 rfl rfl rfl
    D_multiplied := hasDef_of X G c 10 10 rfl rfl rfl
    D_plus := hasDef_of X G c 11 11 rfl rfl rfl
    D_minus := hasDef_of X G c 12 12 rfl rfl rfl
    D_times := hasDef_of X G c 13 13 rfl rfl rfl
    D__law_bag := hasDef_of X G c 14 14 rfl rfl rfl
    D__law_pull := hasDef_of X G c 15 15 rfl rfl rfl
    D__law_of := hasDef_of X G c 16 16 rfl rfl rfl
    D__law_primes := hasDef_of X G c 17 17 rfl rfl rfl
    D__law_prime := hasDef_of X G c 18 18 rfl rfl rfl
    D__law_cut := hasDef_of X G c 19 19 rfl rfl rfl
    D__law_sum := hasDef_of X G c 20 20 rfl rfl rfl
    D__law_scaled := hasDef_of X G c 21 21 rfl rfl rfl
    D__law_plus := hasDef_of X G c 22 22 rfl rfl rfl
    D__law_minus := hasDef_of X G c 23 23 rfl rfl rfl
    D__law_times := hasDef_of X G c 24 24 rfl rfl rfl
    D__law_same := hasDef_of X G c 25 25 rfl rfl rfl
    B_ValueError := free_of X G c 27 rfl
    B_all := free_of X G c 28 rfl
    B_any := free_of X G c 29 rfl
    B_bool := free_of X G c 30 rfl
    B_enumerate := free_of X G c 31 rfl
    B_int := free_of X G c 32 rfl
    B_isinstance := free_of X G c 33 rfl
    B_len := free_of X G c 34 rfl
    B_list := free_of X G c 35 rfl
    B_max := free_of X G c 36 rfl
    B_min := free_of X G c 37 rfl
    B_range := free_of X G c 38 rfl
    B_str := free_of X G c 39 rfl
    B_tuple := free_of X G c 40 rfl
    B_zip := free_of X G c 41 rfl
    V_PRIMES := glTup_of X G c 45 rfl (ex_of ex 2 rfl) fun _ => (.cons (.int 2) (.cons (.int 3) (.cons (.int 5) (.cons (.int 7) (.cons (.int 11) (.cons (.int 13) (.cons (.int 17) (.cons (.int 19) (.cons (.int 23) (.cons (.int 29) (.cons (.int 31) (.cons (.int 37) (.cons (.int 41) (.cons (.int 43) (.cons (.int 47) (.cons (.int 53) (.cons (.int 59) (.cons (.int 61) (.cons (.int 67) (.cons (.int 71) (.cons (.int 73) (.cons (.int 79) (.cons (.int 83) (.cons (.int 89) (.cons (.int 97) .nil)))))))))))))))))))))))))
    V_LEAST := glInt_of X G c 46 rfl
    V_MOST_PLACES := glInt_of X G c 47 rfl
    X_BadPrime := exC0_of X G c 27 43 rfl rfl cl_BadPrime rfl ⟨rfl, rfl, rfl, by decide +kernel, rfl, by decide +kernel, by decide +kernel⟩ rfl (fun _ _ _ _ _ _ us hl => match us, hl with | [_], _ => rfl)
    X_BadSum := exC0_of X G c 28 44 rfl rfl cl_BadSum rfl ⟨rfl, rfl, rfl, by decide +kernel, rfl, by decide +kernel, by decide +kernel⟩ rfl (fun _ _ _ _ _ _ us hl => match us, hl with | [_], _ => rfl)
  }
end
theorem law_at {w : World} {K : PySem.W.Frag} {h : Heap} {mg : Str → Option Value} {f : Addr} (X : K.In h) (G : h.Ns mainGlobals mg) (c : He.SaysX fa fn [] tf exK w h K) (hf : mg ("law" : Str) = some (.ref f)) :
    LamX.LawAtS PySem.Challenge.rw_lagworks_k02_sums_added_and_multiplied w K (L2.CX (PySem.Challenge.rw_lagworks_k02_sums_added_and_multiplied).prog w) (lawK + 1) 63 "_law_script" mg f h := by
  have cd : He.SaysD fa fn K := c.t.d
  obtain ⟨fd, F⟩ := cd.def_ 26 (d := d_law) rfl
  have e := hf.symm.trans (He.glo_ok X G (cd.fact 26 (f := .glo "law") rfl))
  cases e
  refine ⟨fd, tf.map (He.cT K), spLaw ⟨(PySem.Challenge.rw_lagworks_k02_sums_added_and_multiplied).prog, w, K, mg, h, tf.map fun p => ((He.cT K p).2, lamQ)⟩, fun p hp => ?_, fun p hp => ?_, fun p hp => ?_, ?_, fun H a ns hl _ hT hS => ⟨a, ns, rfl, hS, hl, fun p hp => ?_, fun _ => rfl⟩, fun base Kb Gb TB => ?_⟩
  · obtain ⟨z, hz, rfl⟩ := List.mem_map.mp hp
    exact c.empty z hz
  · obtain ⟨z, hz, rfl⟩ := List.mem_map.mp hp
    exact c.out z hz
  · obtain ⟨z, hz, rfl⟩ := List.mem_map.mp hp
    exact PySem.W.codeHd_of_K X (c.hd z hz)
  · have b := FunD.bindsA (ps := ["_law_script"]) F fun _ _ _ _ _ _ us hl => match us, hl with | [_], _ => rfl
    exact fun s v => b s [v] rfl
  · obtain ⟨z, hz, rfl⟩ := List.mem_map.mp hp
    exact hT _ (List.mem_map.mpr ⟨z, hz, rfl⟩)
  · have hd : Hd ⟨(PySem.Challenge.rw_lagworks_k02_sums_added_and_multiplied).prog, w, K, mg, base, tf.map fun p => ((He.cT K p).2, lamQ)⟩ := hd_of _ X G c
    exact ok_law (g := ⟨(PySem.Challenge.rw_lagworks_k02_sums_added_and_multiplied).prog, w, K, mg, base, tf.map fun p => ((He.cT K p).2, lamQ)⟩) (c := (He.cT K ("law", none)).1) (P := (He.cT K ("law", none)).2) F rfl (code_of F) (TB _ (List.mem_map.mpr ⟨("law", none), List.mem_singleton.mpr rfl, rfl⟩))

end DL
open PySem PySem.W PySem.Calls PyProof.Rows
theorem PySem.Challenge.cw_lagworks_k02_sums_added_and_multiplied_holds : PySem.Challenge.rw_lagworks_k02_sums_added_and_multiplied.Holds := by
  w_on; o_law
  refine HandSHeadRun.head_any (r := OpenLaw.row PySem.Challenge.rw_lagworks_k02_sums_added_and_multiplied) (q := view (OpenLaw.row PySem.Challenge.rw_lagworks_k02_sums_added_and_multiplied).prog [36]) (H := DL.hk) (ob := DL.ob) (M := 8000) (loose := DL.loose) (d := HandSHeadRun.topDef (OpenLaw.row PySem.Challenge.rw_lagworks_k02_sums_added_and_multiplied).prog 36) (kwd := []) DL.ob_eq
    (by kernel_rfl) (fun s => by kernel_rfl) DL.run (by kernel_rfl) (by kernel_rfl) (by kernel_rfl) (by rfl) (by first | assumption | decide +kernel) (by decide +kernel) ⟨rfl, rfl, rfl, rfl, rfl, by decide +kernel⟩ ?hw ?hc
  case hw => w_witness2
  case hc =>
    refine LamX.walk_ofTsE (l := PySem.Challenge.rw_lagworks_k02_sums_added_and_multiplied) (n := 63) (k := DL.lawK + 1) (x := "_law_script") (CX := fun w => L2.CX (PySem.Challenge.rw_lagworks_k02_sums_added_and_multiplied).prog w) rfl (by decide) (by kernel_rfl) ⟨rfl, by decide, by decide⟩ ?F (fun _ _ _ _ _ z => DL.noCX z)
    intro w mg fa h Y G hmg0
    obtain ⟨K, KX, c⟩ := Y
    have hmg : mg ("law" : PySem.Str) = some (.ref fa) := by
      have e : (HandSHeadRun.topDef (OpenLaw.row PySem.Challenge.rw_lagworks_k02_sums_added_and_multiplied).prog 36).name = ("law" : PySem.Str) := by kernel_rfl
      rw [← e]
      exact hmg0
    exact ⟨K, KX, DL.law_at KX G c hmg⟩

